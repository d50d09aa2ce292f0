import PyProof.Rows.All
import Wide.All
import OpenK.AllK
import Wide.FinOn
import HandS.ForMost
import HandS.ForExc
import HandS.Flow
import HandS.Wide
import HandS.WideMore
import HandS.IsInst
import HandS.CallSlots
import HandS.ExcInit
import HandS.FStr
import HandS.Style
import HandS.Conv
import HandS.SortInts
import HandS.Defaults
import HandS.TupAny
import HandS.Zip
import HandS.Rev
import HandS.FStrTup
import HandS.ExcField
import HandS.HotCalls
import KE.KExcIs
import KE.DataFind
import HandS.OwnEq
import HandS.Deep
import HandS.SetKeys
import KE.KRevSl
import HandS.More
import PyProof.ListNew
import KE.KItemsList
import KE.KIntText
import PySem.Challenge.RW_latecopy_k03_cells_of_indices
set_option Elab.async false
set_option linter.all false
set_option autoImplicit false
set_option maxRecDepth 100000
set_option maxHeartbeats 4000000
/-! Mr: a mirror layer over HandS. A construct of Python is given a plain Lean function on data (D); what the construct does to the abstract heap is shown once for each construct. -/
namespace Mr
open PySem PySem.Spec PyProof.Rows L2
/-! ### data -/
inductive D where
  | non | bl (b : Bool) | int (i : Int) | str (x : Str)
  | lst (xs : List D) | tup (xs : List D)
  | ref (a : Addr) | ty (n : String)
  | ins (C : Addr) (fs : List (Str × D))
  | dct (kvs : List (Key × D))
mutual
inductive Rep (K : PySem.W.Frag) (G : Hp) : V → D → Prop
  | non : Rep K G .non .non
  | bl (b : Bool) : Rep K G (.bl b) (.bl b)
  | int (i : Int) : Rep K G (.int i) (.int i)
  | str (x : Str) : Rep K G (.str x) (.str x)
  | lst {a : Addr} {vs : List V} {ds : List D} : SqL K G a vs → Reps K G vs ds → Rep K G (.ref a) (.lst ds)
  | tup {a : Addr} {vs : List V} {ds : List D} : SqT K G a vs → Reps K G vs ds → Rep K G (.ref a) (.tup ds)
  | ref (a : Addr) : Rep K G (.ref a) (.ref a)
  | ty (n : String) : Rep K G (.ty n) (.ty n)
  | ins {a C dx : Addr} {fs : List (Str × V)} {ds : List (Str × D)} : G a = some (.ins C dx fs) → RepF K G fs ds → Rep K G (.ref a) (.ins C ds)
  | dct {a : Addr} {kvs : List (Key × V)} {ds : List (Key × D)} : G a = some (.dK kvs) → RepK K G kvs ds → Rep K G (.ref a) (.dct ds)
inductive Reps (K : PySem.W.Frag) (G : Hp) : List V → List D → Prop
  | nil : Reps K G [] []
  | cons {v : V} {d : D} {vs : List V} {ds : List D} : Rep K G v d → Reps K G vs ds → Reps K G (v :: vs) (d :: ds)
inductive RepF (K : PySem.W.Frag) (G : Hp) : List (Str × V) → List (Str × D) → Prop
  | nil : RepF K G [] []
  | cons {f : Str} {v : V} {d : D} {vs : List (Str × V)} {ds : List (Str × D)} : Rep K G v d → RepF K G vs ds → RepF K G ((f, v) :: vs) ((f, d) :: ds)
inductive RepK (K : PySem.W.Frag) (G : Hp) : List (Key × V) → List (Key × D) → Prop
  | nil : RepK K G [] []
  | cons {f : Key} {v : V} {d : D} {vs : List (Key × V)} {ds : List (Key × D)} : Rep K G v d → RepK K G vs ds → RepK K G ((f, v) :: vs) ((f, d) :: ds)
end
theorem sq_t {K : PySem.W.Frag} {H H' : Hp} {a : Addr} {xs : List V} (e : Same H H') (h : SqT K H a xs) : SqT K H' a xs := by
  rcases h with (h | ⟨o, h⟩) | h
  · exact .inl (.inl (e _ _ h))
  · exact .inl (.inr ⟨o, e _ _ h⟩)
  · exact .inr h
section
variable {K : PySem.W.Frag} {G G' : Hp}
mutual
theorem Rep.mono (e : Same G G') : ∀ {v : V} {d : D}, Rep K G v d → Rep K G' v d
  | _, _, .non => .non
  | _, _, .bl b => .bl b
  | _, _, .int i => .int i
  | _, _, .str x => .str x
  | _, _, .lst h r => .lst (e.seq h) (Reps.mono e r)
  | _, _, .tup h r => .tup (sq_t e h) (Reps.mono e r)
  | _, _, .ref a => .ref a
  | _, _, .ty n => .ty n
  | _, _, .ins h r => .ins (e _ _ h) (RepF.mono e r)
  | _, _, .dct h r => .dct (e _ _ h) (RepK.mono e r)
theorem Reps.mono (e : Same G G') : ∀ {v : List V} {d : List D}, Reps K G v d → Reps K G' v d
  | _, _, .nil => .nil
  | _, _, .cons h r => .cons (Rep.mono e h) (Reps.mono e r)
theorem RepF.mono (e : Same G G') : ∀ {v : List (Str × V)} {d : List (Str × D)}, RepF K G v d → RepF K G' v d
  | _, _, .nil => .nil
  | _, _, .cons h r => .cons (Rep.mono e h) (RepF.mono e r)
theorem RepK.mono (e : Same G G') : ∀ {v : List (Key × V)} {d : List (Key × D)}, RepK K G v d → RepK K G' v d
  | _, _, .nil => .nil
  | _, _, .cons h r => .cons (Rep.mono e h) (RepK.mono e r)
end
theorem Reps.length : ∀ {v : List V} {d : List D}, Reps K G v d → v.length = d.length
  | _, _, .nil => rfl
  | _, _, .cons _ r => by rw [List.length_cons, List.length_cons, r.length]
theorem Reps.get : ∀ {vs : List V} {ds : List D} {i : Nat} {v : V}, Reps K G vs ds → vs[i]? = some v → ∃ d, ds[i]? = some d ∧ Rep K G v d
  | _, _, i, v, .nil, h => by simp at h
  | _, _, 0, v, .cons h r, e => by simp at e; subst e; exact ⟨_, rfl, h⟩
  | _, _, i + 1, v, .cons h r, e => by
    obtain ⟨d, h1, h2⟩ := Reps.get (i := i) r (by simpa using e)
    exact ⟨d, by simpa using h1, h2⟩
theorem Reps.get' : ∀ {vs : List V} {ds : List D} {i : Nat} {d : D}, Reps K G vs ds → ds[i]? = some d → ∃ v, vs[i]? = some v ∧ Rep K G v d
  | _, _, i, v, .nil, h => by simp at h
  | _, _, 0, v, .cons h r, e => by simp at e; subst e; exact ⟨_, rfl, h⟩
  | _, _, i + 1, v, .cons h r, e => by
    obtain ⟨d, h1, h2⟩ := Reps.get' (i := i) r (by simpa using e)
    exact ⟨d, by simpa using h1, h2⟩
theorem Reps.append : ∀ {vs ws : List V} {ds es : List D}, Reps K G vs ds → Reps K G ws es → Reps K G (vs ++ ws) (ds ++ es)
  | _, _, _, _, .nil, r => r
  | _, _, _, _, .cons h r, q => .cons h (r.append q)
theorem Reps.take : ∀ {vs : List V} {ds : List D} (n : Nat), Reps K G vs ds → Reps K G (vs.take n) (ds.take n)
  | _, _, 0, _ => .nil
  | _, _, _ + 1, .nil => .nil
  | _, _, n + 1, .cons h r => .cons h (Reps.take n r)
theorem Reps.drop : ∀ {vs : List V} {ds : List D} (n : Nat), Reps K G vs ds → Reps K G (vs.drop n) (ds.drop n)
  | _, _, 0, r => r
  | _, _, _ + 1, .nil => .nil
  | _, _, n + 1, .cons h r => Reps.drop n r
theorem Reps.set {v : V} {d : D} (h : Rep K G v d) : ∀ {vs : List V} {ds : List D} (n : Nat), Reps K G vs ds → Reps K G (vs.set n v) (ds.set n d)
  | _, _, _, .nil => .nil
  | _, _, 0, .cons _ r => .cons h r
  | _, _, n + 1, .cons q r => .cons q (Reps.set h n r)
theorem Reps.eraseIdx : ∀ {vs : List V} {ds : List D} (n : Nat), Reps K G vs ds → Reps K G (vs.eraseIdx n) (ds.eraseIdx n)
  | _, _, _, .nil => .nil
  | _, _, 0, .cons _ r => r
  | _, _, n + 1, .cons q r => .cons q (Reps.eraseIdx n r)
theorem Reps.reverse {vs : List V} {ds : List D} (r : Reps K G vs ds) : Reps K G vs.reverse ds.reverse := by
  induction vs generalizing ds with
  | nil => cases r; exact .nil
  | cons v vs ih =>
    cases r with
    | cons h r =>
      rw [List.reverse_cons, List.reverse_cons]
      exact (ih r).append (.cons h .nil)
theorem Reps.ints : ∀ (ns : List Int), Reps K G (ns.map V.int) (ns.map D.int)
  | [] => .nil
  | n :: ns => .cons (.int n) (Reps.ints ns)
theorem Reps.of_ints : ∀ {vs : List V} {ns : List Int}, Reps K G vs (ns.map D.int) → vs = ns.map V.int
  | _, [], r => by cases r; rfl
  | _, n :: ns, r => by
    rw [List.map_cons] at r
    cases r with
    | cons h r =>
      cases h
      rw [Reps.of_ints r]
      rfl
end
/-! ### the world: what is changed in place through a whole law (the source of draws) -/
structure Wo where
  S : Type
  W : Addr → Prop
  ok : S → Hp → Prop
  /-- the exception in hand in an except suite: itself, its dict, its class -/
  ec : Addr → Addr → Addr → Prop
  /-- which instances a slot may own -/
  sf : Addr → Prop
  loc : ∀ s H H', (∀ a, W a → H' a = H a) → ok s H → ok s H'
  dom : ∀ s H a, ok s H → W a → H a ≠ none
/-- from the heaps G (what never changes any more) in H to G' in H' -/
structure Tr (W : Addr → Prop) (G H G' H' : Hp) : Prop where
  gg : Same G G'
  gh : Same G' H'
  gr : ∀ b o, G' b = some o → G b = some o ∨ H b = none
  kp : ∀ b o, ¬ W b → H b = some o → H' b = some o
  dm : ∀ b, H' b = none → H b = none
abbrev Tr0 := Tr fun _ => False
theorem Tr.refl {W : Addr → Prop} {G H : Hp} (h : Same G H) : Tr W G H G H := ⟨Same.refl _, h, fun _ _ e => .inl e, fun _ _ _ e => e, fun _ e => e⟩
theorem Tr.trans {W : Addr → Prop} {G H G1 H1 G2 H2 : Hp} (a : Tr W G H G1 H1) (b : Tr W G1 H1 G2 H2) : Tr W G H G2 H2 :=
  ⟨a.gg.trans b.gg, b.gh, fun c o e => (b.gr c o e).elim (fun z => a.gr c o z) (fun z => .inr (a.dm c z)), fun c o n e => b.kp c o n (a.kp c o n e), fun c e => a.dm c (b.dm c e)⟩
theorem Tr0.up {W : Addr → Prop} {G H G1 H1 : Hp} (a : Tr0 G H G1 H1) : Tr W G H G1 H1 := ⟨a.gg, a.gh, a.gr, fun c o _ e => a.kp c o (fun z => z) e, a.dm⟩
/-- a new object that never changes -/
theorem Tr0.new {G H : Hp} {p : Addr} {o : HO} (h : Same G H) (n : H p = none) : Tr0 G H (upd G p o) (upd H p o) := by
  have ng : G p = none := h.free n
  refine ⟨fun b u e => by rw [upd_ne (ne_of_none e ng)]; exact e, fun b u e => ?_, fun b u e => ?_, fun b u _ e => by rw [upd_ne (ne_of_none e n)]; exact e, fun b e => ?_⟩
  · by_cases hb : b = p
    · subst hb; rw [upd_same] at e ⊢; exact e
    · rw [upd_ne hb] at e ⊢; exact h b u e
  · by_cases hb : b = p
    · subst hb; exact .inr n
    · rw [upd_ne hb] at e; exact .inl e
  · by_cases hb : b = p
    · subst hb; exact n
    · rw [upd_ne hb] at e; exact e
/-- a new object that is tracked, but not told -/
theorem Tr0.hid {G H : Hp} {p : Addr} {o : HO} (h : Same G H) (n : H p = none) : Tr0 G H G (upd H p o) := by
  refine ⟨Same.refl _, fun b u e => by rw [upd_ne (ne_of_none (h b u e) n)]; exact h b u e, fun b u e => .inl e, fun b u _ e => by rw [upd_ne (ne_of_none e n)]; exact e, fun b e => ?_⟩
  by_cases hb : b = p
  · subst hb; exact n
  · rw [upd_ne hb] at e; exact e
/-! ### slots -/
inductive Sl where
  | no | sh (d : D) | own (xs : List D) | ownD (kvs : List (Key × D)) | ownI (C : Addr) (fs : List (Str × D)) | exc (c : Addr) (fs : List (Str × D))
def SlOk (K : PySem.W.Frag) (O : Wo) (H0 G H : Hp) : Option V → Sl → Prop
  | _, .no => True
  | o, .sh d => ∃ v, o = some v ∧ Rep K G v d
  | o, .own xs => ∃ p vs, o = some (.ref p) ∧ H p = some (.lst vs) ∧ Reps K G vs xs ∧ G p = none ∧ ¬ O.W p ∧ H0 p = none
  | o, .ownD xs => ∃ p vs, o = some (.ref p) ∧ H p = some (.dK vs) ∧ RepK K G vs xs ∧ G p = none ∧ ¬ O.W p ∧ H0 p = none
  | o, .ownI C xs => ∃ p dx vs, o = some (.ref p) ∧ H p = some (.ins C dx vs) ∧ RepF K G vs xs ∧ G p = none ∧ ¬ O.W p ∧ H0 p = none ∧ O.sf p
  | o, .exc c fs => ∃ a dd xs, o = some (.ref a) ∧ O.ec a dd c ∧ H dd = some (.xd xs) ∧ RepF K G xs fs ∧ ¬ O.W dd
def isOwn : Sl → Bool
  | .own _ => true
  | .ownD _ => true
  | .ownI _ _ => true
  | _ => false
abbrev Ev := List Sl
/-- what holds of the slots σ and the heap H where the mirror has ρ and s -/
structure Fm (K : PySem.W.Frag) (O : Wo) (H0 : Hp) (σ : L2.St) (ρ : Ev) (G H : Hp) (s : O.S) : Prop where
  gh : Same G H
  wg : ∀ a, O.W a → G a = none
  ok : O.ok s H
  len : σ.length = ρ.length
  sl : ∀ (i : Nat) (o : Option V) (x : Sl), σ[i]? = some o → ρ[i]? = some x → SlOk K O H0 G H o x
  ds : ∀ (i j : Nat) (p : Addr) (x y : Sl), i ≠ j → ρ[i]? = some x → ρ[j]? = some y → isOwn x = true → isOwn y = true → σ[i]? = some (some (.ref p)) → σ[j]? ≠ some (some (.ref p))
section
variable {K : PySem.W.Frag} {O : Wo} {H0 G H G' H' : Hp} {σ : L2.St} {ρ : Ev} {s s' : O.S}
theorem SlOk.tr {o : Option V} {x : Sl} (t : Tr O.W G H G' H') (h : SlOk K O H0 G H o x) : SlOk K O H0 G' H' o x := by
  have ng : ∀ {p : Addr} {u : HO}, H p = some u → G p = none → G' p = none := fun {p u} a b => by
    cases e : G' p with
    | none => rfl
    | some z => rcases t.gr p z e with q | q <;> simp_all
  cases x with
  | no => trivial
  | sh d => obtain ⟨v, a, b⟩ := h; exact ⟨v, a, b.mono t.gg⟩
  | own xs => obtain ⟨p, vs, a, b, c, d, e, f⟩ := h; exact ⟨p, vs, a, t.kp _ _ e b, c.mono t.gg, ng b d, e, f⟩
  | ownD xs => obtain ⟨p, vs, a, b, c, d, e, f⟩ := h; exact ⟨p, vs, a, t.kp _ _ e b, c.mono t.gg, ng b d, e, f⟩
  | ownI C xs => obtain ⟨p, dx, vs, a, b, c, d, e, f⟩ := h; exact ⟨p, dx, vs, a, t.kp _ _ e b, c.mono t.gg, ng b d, e, f⟩
  | exc c fs => obtain ⟨a, dd, xs, e, q, b, c, d⟩ := h; exact ⟨a, dd, xs, e, q, t.kp _ _ d b, c.mono t.gg, d⟩
theorem Fm.tr (f : Fm K O H0 σ ρ G H s) (t : Tr O.W G H G' H') (k : O.ok s' H') : Fm K O H0 σ ρ G' H' s' :=
  ⟨t.gh, fun a w => by
    cases e : G' a with
    | none => rfl
    | some z =>
      rcases t.gr a z e with q | q
      · rw [f.wg a w] at q; cases q
      · exact absurd q (O.dom s H a f.ok w), k, f.len, fun i o x a b => (f.sl i o x a b).tr t, f.ds⟩
theorem Fm.keepW (f : Fm K O H0 σ ρ G H s) (t : Tr0 G H G' H') : O.ok s H' := O.loc s H H' (fun a w => by
    cases e : H a with
    | none => exact absurd e (O.dom s H a f.ok w)
    | some u => exact t.kp a u (fun z => z) e) f.ok
theorem Fm.tr0 (f : Fm K O H0 σ ρ G H s) (t : Tr0 G H G' H') : Fm K O H0 σ ρ G' H' s := f.tr t.up (f.keepW t)
theorem Fm.get (f : Fm K O H0 σ ρ G H s) {i : Nat} {d : D} (h : ρ[i]? = some (.sh d)) : ∃ v, σ[i]? = some (some v) ∧ Rep K G v d := by
  have hi : i < σ.length := by rw [f.len]; exact (List.getElem?_eq_some_iff.mp h).1
  obtain ⟨v, e, r⟩ := f.sl i σ[i] _ (List.getElem?_eq_getElem hi) h
  exact ⟨v, by rw [List.getElem?_eq_getElem hi, e], r⟩
theorem Fm.at (f : Fm K O H0 σ ρ G H s) {i : Nat} {x : Sl} (h : ρ[i]? = some x) : ∃ o, σ[i]? = some o ∧ SlOk K O H0 G H o x := by
  have hi : i < σ.length := by rw [f.len]; exact (List.getElem?_eq_some_iff.mp h).1
  exact ⟨σ[i], List.getElem?_eq_getElem hi, f.sl i σ[i] _ (List.getElem?_eq_getElem hi) h⟩
/-- a slot is set to a thing that never changes -/
theorem Fm.set (f : Fm K O H0 σ ρ G H s) {i : Nat} {v : V} {d : D} (r : Rep K G v d) : Fm K O H0 (σ.set i (some v)) (ρ.set i (.sh d)) G H s := by
  refine ⟨f.gh, f.wg, f.ok, by simpa using f.len, fun j o x a b => ?_, fun j k p x y hjk a b c e g => ?_⟩
  · by_cases hj : i = j
    · subst hj
      have h1 := (List.getElem?_eq_some_iff.mp a).1
      have h2 := (List.getElem?_eq_some_iff.mp b).1
      rw [List.length_set] at h1 h2
      rw [List.getElem?_set_self h1] at a
      rw [List.getElem?_set_self h2] at b
      cases a; cases b
      exact ⟨v, rfl, r⟩
    · rw [List.getElem?_set_ne hj] at a b
      exact f.sl j o x a b
  · by_cases hj : i = j
    · subst hj
      have h2 := (List.getElem?_eq_some_iff.mp a).1
      rw [List.length_set] at h2
      rw [List.getElem?_set_self h2] at a
      cases a
      cases c
    · by_cases hk : i = k
      · subst hk
        have h2 := (List.getElem?_eq_some_iff.mp b).1
        rw [List.length_set] at h2
        rw [List.getElem?_set_self h2] at b
        cases b
        cases e
      · rw [List.getElem?_set_ne hj] at a g
        rw [List.getElem?_set_ne hk] at b
        rw [List.getElem?_set_ne hk]
        exact f.ds j k p x y hjk a b c e g
end
end Mr

namespace Mr
open PySem PySem.Spec PyProof.Rows L2
/-! ### what a mirror gives -/
inductive R (S α : Type) where
  | ok (a : α) (s : S) | err (c : Addr) (fs : List (Str × D)) (s : S) | bad
def R.bind {S α β : Type} (x : R S α) (f : α → S → R S β) : R S β := match x with
  | .ok a s => f a s
  | .err c fs s => .err c fs s
  | .bad => .bad
def R.lift {S α : Type} (o : Option α) (s : S) : R S α := match o with
  | some a => .ok a s
  | none => .bad
section
variable {S α β : Type}
@[simp] theorem bind_ok (a : α) (s : S) (f : α → S → R S β) : (R.ok a s).bind f = f a s := rfl
@[simp] theorem bind_err (c : Addr) (fs : List (Str × D)) (s : S) (f : α → S → R S β) : (R.err c fs s : R S α).bind f = .err c fs s := rfl
@[simp] theorem bind_bad (f : α → S → R S β) : (R.bad : R S α).bind f = .bad := rfl
@[simp] theorem lift_some (a : α) (s : S) : R.lift (some a) s = .ok a s := rfl
@[simp] theorem lift_none (s : S) : (R.lift none s : R S α) = .bad := rfl
end
/-- what is wanted behind, of what the mirror gives -/
def Pst (K : PySem.W.Frag) (O : Wo) (Wx : WX) (σ : L2.St) (G H : Hp) {α β : Type} (rel : Hp → β → α → Prop) (r : R O.S α) (Q : β → Hp → Prop) : Prop :=
  match r with
  | .ok d s' => ∀ v G' H', Tr O.W G H G' H' → O.ok s' H' → rel G' v d → Q v H'
  | .err c fs s' => ∀ dd xs G' H', Tr O.W G H G' H' → O.ok s' H' → H' dd = some (.xd xs) → ¬ O.W dd → RepF K G' xs fs → Wx (.ref c) (some dd) σ H'
  | .bad => False
section
variable {K : PySem.W.Frag} {O : Wo} {Wx : WX} {σ : L2.St} {G H G1 H1 : Hp}
theorem Pst.shift {α β : Type} {rel : Hp → β → α → Prop} {r : R O.S α} {Q : β → Hp → Prop} (t : Tr O.W G H G1 H1) (h : Pst K O Wx σ G H rel r Q) : Pst K O Wx σ G1 H1 rel r Q := by
  cases r with
  | ok d s' => exact fun v G' H' t' k q => h v G' H' (t.trans t') k q
  | err c fs s' => exact fun dd xs G' H' t' k e n q => h dd xs G' H' (t.trans t') k e n q
  | bad => exact h
theorem pst_bind {α β α' β' : Type} {rel : Hp → β → α → Prop} {rel' : Hp → β' → α' → Prop} {r : R O.S α} {f : α → O.S → R O.S α'} {Q : β' → Hp → Prop} {Q1 : β → Hp → Prop} (h : Pst K O Wx σ G H rel' (r.bind f) Q)
    (k : ∀ a s1, r = .ok a s1 → ∀ v G1 H1, Tr O.W G H G1 H1 → O.ok s1 H1 → rel G1 v a → Pst K O Wx σ G1 H1 rel' (f a s1) Q → Q1 v H1) : Pst K O Wx σ G H rel r Q1 := by
  cases r with
  | ok d s' => exact fun v G' H' t' ko q => k d s' rfl v G' H' t' ko q (Pst.shift t' h)
  | err c fs s' => exact h
  | bad => exact h
end
abbrev ME (O : Wo) := Ev → O.S → R O.S D
abbrev MA (O : Wo) := Ev → O.S → R O.S (List D)
abbrev MT (O : Wo) := Ev → O.S → R O.S Bool
def SndE (K : PySem.W.Frag) (O : Wo) (Wx : WX) (t : TE) (m : ME O) : Prop := ∀ σ ρ H0 G H s Q, Fm K O H0 σ ρ G H s → Pst K O Wx σ G H (Rep K) (m ρ s) Q → t σ H Q
def SndA (K : PySem.W.Frag) (O : Wo) (Wx : WX) (t : TA) (m : MA O) : Prop := ∀ σ ρ H0 G H s Q, Fm K O H0 σ ρ G H s → Pst K O Wx σ G H (Reps K) (m ρ s) Q → t σ H Q
def SndT (K : PySem.W.Frag) (O : Wo) (Wx : WX) (t : TT) (m : MT O) : Prop := ∀ σ ρ H0 G H s Q, Fm K O H0 σ ρ G H s → Pst K O Wx σ G H (fun _ b c => b = c) (m ρ s) Q → t σ H Q
/-- the judgements: a piece of the text, its reading, its mirror -/
structure DE (K : PySem.W.Frag) (O : Wo) (Wx : WX) (X : Cx) (e : Expr) (t : TE) (m : ME O) : Prop where
  hK : X.K = K
  tk : Takes X Wx
  pe : PE X e t
  sn : SndE K O Wx t m
structure DA (K : PySem.W.Frag) (O : Wo) (Wx : WX) (X : Cx) (e : List Expr) (t : TA) (m : MA O) : Prop where
  hK : X.K = K
  tk : Takes X Wx
  pe : PA X e t
  sn : SndA K O Wx t m
structure DT (K : PySem.W.Frag) (O : Wo) (Wx : WX) (X : Cx) (e : Expr) (t : TT) (m : MT O) : Prop where
  hK : X.K = K
  tk : Takes X Wx
  pe : PT X e t
  sn : SndT K O Wx t m
/-- the context's facts -/
structure Cn (K : PySem.W.Frag) (Wx : WX) (X : Cx) : Prop where
  hK : X.K = K
  tk : Takes X Wx
section
variable {K : PySem.W.Frag} {O : Wo} {Wx : WX} {X : Cx}
/-! ### names, constants -/
def mVar (O : Wo) (i : Nat) : ME O := fun ρ s => match ρ[i]? with
  | some (.sh d) => .ok d s
  | _ => .bad
def mC (O : Wo) (d : D) : ME O := fun _ s => .ok d s
theorem snd_var {i : Nat} : SndE K O Wx (tVar i) (mVar O i) := by
  intro σ ρ H0 G H s Q F h
  unfold mVar at h
  split at h
  · rename_i d e
    obtain ⟨v, ev, r⟩ := F.get e
    exact ⟨v, ev, h v G H (.refl F.gh) F.ok r⟩
  · exact h.elim
theorem snd_c {v : V} {d : D} (r : ∀ G, Rep K G v d) : SndE K O Wx (tC v) (mC O d) := fun σ ρ H0 G H s Q F h => h v G H (.refl F.gh) F.ok (r G)
theorem de_var (i : Nat) {x : Str} {pos : Pos} (c : Cn K Wx X) (hN : X.N[i]? = some x := by rfl) (hv : Vis X.env.scope x := by first | exact Or.inl rfl | exact Or.inr (Or.inl rfl) | exact Or.inr (Or.inr rfl)) (hd : (x == ("__debug__" : Str)) = false := by decide)
    (hcd : (x == ("__classdict__" : Str)) = false := by decide) : DE K O Wx X (.Name x pos) (tVar i) (mVar O i) := ⟨c.hK, c.tk, pe_var hN hv hd hcd, snd_var⟩
theorem de_int {i : Int} {j : Nat} {pos : Pos} (c : Cn K Wx X) : DE K O Wx X (.Constant (.int i) j pos) (tC (.int i)) (mC O (.int i)) := ⟨c.hK, c.tk, pe_int, snd_c fun _ => .int i⟩
theorem de_bl {i : Bool} {j : Nat} {pos : Pos} (c : Cn K Wx X) : DE K O Wx X (.Constant (.bool i) j pos) (tC (.bl i)) (mC O (.bl i)) := ⟨c.hK, c.tk, pe_bl, snd_c fun _ => .bl i⟩
theorem de_str {i : Str} {j : Nat} {pos : Pos} (c : Cn K Wx X) : DE K O Wx X (.Constant (.str i) j pos) (tC (.str i)) (mC O (.str i)) := ⟨c.hK, c.tk, pe_str, snd_c fun _ => .str i⟩
theorem de_non {j : Nat} {pos : Pos} (c : Cn K Wx X) : DE K O Wx X (.Constant .none j pos) (tC .non) (mC O .non) := ⟨c.hK, c.tk, pe_non, snd_c fun _ => .non⟩
/-- a module's name -/
theorem de_glob {x : Str} {u : Value} {v : V} {d : D} {pos : Pos} (c : Cn K Wx X) (hm : X.mg x = some u) (r : RelV v u) (q : ∀ G, Rep K G v d) (hg : Gl X x := by rfl) (hdb : (x == ("__debug__" : Str)) = false := by decide) :
    DE K O Wx X (.Name x pos) (tC v) (mC O d) := ⟨c.hK, c.tk, pe_glob hg hm r hdb, snd_c q⟩
theorem de_bltn {x : Str} {u : Value} {v : V} {d : D} {pos : Pos} (c : Cn K Wx X) (hm : X.mg x = none) (hv : bootBuiltins x = some u) (r : RelV v u) (q : ∀ G, Rep K G v d) (hg : Gl X x := by rfl) (hn : x ≠ "__name__" := by decide) (hdb : (x == ("__debug__" : Str)) = false := by decide) :
    DE K O Wx X (.Name x pos) (tC v) (mC O d) := ⟨c.hK, c.tk, pe_bltn hg hm hv r hn hdb, snd_c q⟩
/-! ### operations on values -/
/-- a two-place operation on values does what f says on data -/
def VOp (K : PySem.W.Frag) (r : R2) (f : D → D → Option D) : Prop := ∀ (G H : Hp) (x y : V) (dx dy d : D) (Q : VK), Same G H → Rep K G x dx → Rep K G y dy → f dx dy = some d → (∀ v G' H', Tr0 G H G' H' → Rep K G' v d → Q v H') → r x y H Q
def VUn (K : PySem.W.Frag) (r : V → Hp → VK → Prop) (f : D → Option D) : Prop := ∀ (G H : Hp) (x : V) (dx d : D) (Q : VK), Same G H → Rep K G x dx → f dx = some d → (∀ v G' H', Tr0 G H G' H' → Rep K G' v d → Q v H') → r x H Q
def VCl (K : PySem.W.Frag) (r : List V → Hp → VK → Prop) (f : List D → Option D) : Prop := ∀ (G H : Hp) (x : List V) (dx : List D) (d : D) (Q : VK), Same G H → Reps K G x dx → f dx = some d → (∀ v G' H', Tr0 G H G' H' → Rep K G' v d → Q v H') → r x H Q
def mBin (O : Wo) (f : D → D → Option D) (a b : ME O) : ME O := fun ρ s => (a ρ s).bind fun x s1 => (b ρ s1).bind fun y s2 => R.lift (f x y) s2
def mUn (O : Wo) (f : D → Option D) (a : ME O) : ME O := fun ρ s => (a ρ s).bind fun x s1 => R.lift (f x) s1
def mCl (O : Wo) (f : List D → Option D) (a : MA O) : ME O := fun ρ s => (a ρ s).bind fun x s1 => R.lift (f x) s1
theorem pst_lift {σ : L2.St} {ρ : Ev} {H0 G H : Hp} {s : O.S} {o : Option D} {Q : VK} (F : Fm K O H0 σ ρ G H s) (h : Pst K O Wx σ G H (Rep K) (R.lift o s) Q) : ∃ d, o = some d ∧ ∀ v G' H', Tr0 G H G' H' → Rep K G' v d → Q v H' := by
  cases o with
  | none => exact h.elim
  | some d => exact ⟨d, rfl, fun v G' H' t r => h v G' H' t.up (F.keepW t) r⟩
theorem snd_op {r : R2} {f : D → D → Option D} {ta tb : TE} {ma mb : ME O} (hv : VOp K r f) (ha : SndE K O Wx ta ma) (hb : SndE K O Wx tb mb) : SndE K O Wx (tOp r ta tb) (mBin O f ma mb) := by
  intro σ ρ H0 G H s Q F h
  refine ha σ ρ H0 G H s _ F (pst_bind h fun dx s1 _ x G1 H1 t1 k1 r1 h1 => ?_)
  have F1 := F.tr t1 k1
  refine hb σ ρ H0 G1 H1 s1 _ F1 (pst_bind h1 fun dy s2 _ y G2 H2 t2 k2 r2 h2 => ?_)
  have F2 := F1.tr t2 k2
  obtain ⟨d, e, q⟩ := pst_lift F2 h2
  exact hv G2 H2 x y dx dy d Q F2.gh (r1.mono t2.gg) r2 e q
theorem snd_un {r : V → Hp → VK → Prop} {f : D → Option D} {ta : TE} {ma : ME O} (hv : VUn K r f) (ha : SndE K O Wx ta ma) : SndE K O Wx (tUn r ta) (mUn O f ma) := by
  intro σ ρ H0 G H s Q F h
  refine ha σ ρ H0 G H s _ F (pst_bind h fun dx s1 _ x G1 H1 t1 k1 r1 h1 => ?_)
  have F1 := F.tr t1 k1
  obtain ⟨d, e, q⟩ := pst_lift F1 h1
  exact hv G1 H1 x dx d Q F1.gh r1 e q
theorem snd_cl {r : List V → Hp → VK → Prop} {f : List D → Option D} {ta : TA} {ma : MA O} (hv : VCl K r f) (ha : SndA K O Wx ta ma) : SndE K O Wx (tCB r ta) (mCl O f ma) := by
  intro σ ρ H0 G H s Q F h
  refine ha σ ρ H0 G H s _ F (pst_bind h fun dx s1 _ x G1 H1 t1 k1 r1 h1 => ?_)
  have F1 := F.tr t1 k1
  obtain ⟨d, e, q⟩ := pst_lift F1 h1
  exact hv G1 H1 x dx d Q F1.gh r1 e q
theorem de_bin {op : Operator} {r : R2} {f : D → D → Option D} {a b : Expr} {ta tb : TE} {ma mb : ME O} {pos : Pos} (ho : OpR X (binaryOp op) r) (hv : VOp K r f) (ha : DE K O Wx X a ta ma) (hb : DE K O Wx X b tb mb) :
    DE K O Wx X (.BinOp a op b pos) (tOp r ta tb) (mBin O f ma mb) := ⟨ha.hK, ha.tk, pe_op ho ha.pe hb.pe, snd_op hv ha.sn hb.sn⟩
theorem de_unop {op : UnaryOp} {r : V → Hp → VK → Prop} {f : D → Option D} {a : Expr} {ta : TE} {ma : ME O} {pos : Pos} (ho : UnR X (unaryOp op) r) (hv : VUn K r f) (ha : DE K O Wx X a ta ma) :
    DE K O Wx X (.UnaryOp op a pos) (tUn r ta) (mUn O f ma) := ⟨ha.hK, ha.tk, pe_un ho ha.pe, snd_un hv ha.sn⟩
theorem de_cmp {op : CmpOp} {r : R2} {f : D → D → Option D} {a b : Expr} {ta tb : TE} {ma mb : ME O} {pos : Pos} (ho : OpR X (compareOp op) r) (hv : VOp K r f) (ha : DE K O Wx X a ta ma) (hb : DE K O Wx X b tb mb) (hm : behindInMarks op b = false) :
    DE K O Wx X (.Compare a [op] [b] pos) (tOp r ta tb) (mBin O f ma mb) := ⟨ha.hK, ha.tk, pe_cmpR ho ha.pe hb.pe hm, snd_op hv ha.sn hb.sn⟩
/-! ### tests -/
def dBool : D → Option Bool
  | .bl b => some b
  | _ => none
def mTest (O : Wo) (m : ME O) : MT O := fun ρ s => (m ρ s).bind fun x s1 => R.lift (dBool x) s1
theorem snd_test {t : TE} {m : ME O} (h : SndE K O Wx t m) : SndT K O Wx (tTest t) (mTest O m) := by
  intro σ ρ H0 G H s Q F hq
  refine h σ ρ H0 G H s _ F (pst_bind hq fun dx s1 _ x G1 H1 t1 k1 r1 h1 => ?_)
  cases dx with
  | bl b =>
    cases r1
    exact ⟨b, rfl, h1 b G1 H1 (.refl t1.gh) k1 rfl⟩
  | _ => exact (show False from h1).elim
theorem dt_cmp {op : CmpOp} {r : R2} {f : D → D → Option D} {a b : Expr} {ta tb : TE} {ma mb : ME O} {pos : Pos} (ho : OpR X (compareOp op) r) (hv : VOp K r f) (ha : DE K O Wx X a ta ma) (hb : DE K O Wx X b tb mb) (hm : behindInMarks op b = false) :
    DT K O Wx X (.Compare a [op] [b] pos) (tTest (tOp r ta tb)) (mTest O (mBin O f ma mb)) := ⟨ha.hK, ha.tk, pt_cmpR ho ha.pe hb.pe hm, snd_test (snd_op hv ha.sn hb.sn)⟩
/-- a value's truth -/
def dTruth : D → Option Bool
  | .non => some false
  | .bl b => some b
  | .int i => some (i != 0)
  | .str x => if x.length ≤ 100000 then some ((x.length : Int) != 0) else none
  | .lst xs => some (!xs.isEmpty)
  | .tup xs => some (!xs.isEmpty)
  | _ => none
theorem sz5 {n : Nat} (h : n ≤ 100000) : n ≤ sizeLine := Nat.le_trans h (by decide)
theorem sz5l {n : Nat} (h : n < 100000) : n < sizeLine := Nat.lt_of_lt_of_le h (by decide)
theorem Reps.isEmpty {G : Hp} {vs : List V} {ds : List D} (r : Reps K G vs ds) : vs.isEmpty = ds.isEmpty := by
  cases r <;> rfl
theorem truth_ok {G H : Hp} {x : V} {dx : D} {b : Bool} (g : Same G H) (r : Rep K G x dx) (h : dTruth dx = some b) : TruV K x H b := by
  cases r with
  | non => cases h; rfl
  | bl c => cases h; rfl
  | int i => cases h; rfl
  | str x =>
    unfold dTruth at h
    dsimp only at h
    split at h
    · cases h
      rename_i hz
      exact ⟨sz5 hz, rfl⟩
    · cases h
  | lst hs hr => cases h; exact .inl ⟨_, g.seq hs, by rw [hr.isEmpty]⟩
  | tup hs hr => cases h; exact .inr (.inl ⟨_, sq_t g hs, by rw [hr.isEmpty]⟩)
  | ref a => cases h
  | ty n => cases h
  | ins _ _ => cases h
  | dct _ _ => cases h
def mTruth (O : Wo) (m : ME O) : MT O := fun ρ s => (m ρ s).bind fun x s1 => R.lift (dTruth x) s1
theorem dt_truth {a : Expr} {ta : TE} {ma : ME O} (ha : DE K O Wx X a ta ma) (he : ∀ whole, isTrue a X.env whole = (do let v ← whole; standAt a.pos; holding [v] (truthy v)) := by intro _; rfl) :
    DT K O Wx X a (fun σ H Q => ta σ H fun x H1 => ∃ k, TruV K x H1 k ∧ Q k H1) (mTruth O ma) := by
  refine ⟨ha.hK, ha.tk, ?_, ?_⟩
  · have := ha.hK
    subst this
    exact pt_truth ha.pe he
  · intro σ ρ H0 G H s Q F hq
    refine ha.sn σ ρ H0 G H s _ F (pst_bind hq fun dx s1 _ x G1 H1 t1 k1 r1 h1 => ?_)
    cases e : dTruth dx with
    | none => rw [e] at h1; exact (show False from h1).elim
    | some b =>
      rw [e] at h1
      exact ⟨b, truth_ok t1.gh r1 e, h1 b G1 H1 (.refl t1.gh) k1 rfl⟩
def mAnd (O : Wo) (a b : MT O) : MT O := fun ρ s => (a ρ s).bind fun x s1 => if x = true then b ρ s1 else .ok false s1
def mOr (O : Wo) (a b : MT O) : MT O := fun ρ s => (a ρ s).bind fun x s1 => if x = true then .ok true s1 else b ρ s1
def mNot (O : Wo) (a : MT O) : MT O := fun ρ s => (a ρ s).bind fun x s1 => .ok (!x) s1
structure DW (K : PySem.W.Frag) (O : Wo) (Wx : WX) (X : Cx) (e : Expr) (t : TT) (m : MT O) : Prop where
  hK : X.K = K
  tk : Takes X Wx
  pe : PW X e t
  sn : SndT K O Wx t m
theorem DW.dt {e : Expr} {t : TT} {m : MT O} (h : DW K O Wx X e t m) : DT K O Wx X e t m := ⟨h.hK, h.tk, h.pe.pt, h.sn⟩
section
variable {a b : Expr} {rest : List Expr} {ta tb : TT} {ma mb : MT O} {pos : Pos}
theorem dw_and1 (ha : DT K O Wx X a ta ma) : DW K O Wx X (.BoolOp .And [a] pos) ta ma := ⟨ha.hK, ha.tk, pw_and1 ha.pe, ha.sn⟩
theorem dw_or1 (ha : DT K O Wx X a ta ma) : DW K O Wx X (.BoolOp .Or [a] pos) ta ma := ⟨ha.hK, ha.tk, pw_or1 ha.pe, ha.sn⟩
theorem dw_and (ha : DT K O Wx X a ta ma) (hb : DW K O Wx X (.BoolOp .And (b :: rest) pos) tb mb) : DW K O Wx X (.BoolOp .And (a :: b :: rest) pos) (tAnd ta tb) (mAnd O ma mb) := by
  refine ⟨ha.hK, ha.tk, pw_and ha.pe hb.pe, fun σ ρ H0 G H s Q F h => ?_⟩
  refine ha.sn σ ρ H0 G H s _ F (pst_bind h fun c s1 _ x G1 H1 t1 k1 r1 h1 => ?_)
  subst r1
  cases x with
  | true => exact hb.sn σ ρ H0 G1 H1 s1 _ (F.tr t1 k1) h1
  | false => exact h1 false G1 H1 (.refl t1.gh) k1 rfl
theorem dw_or (ha : DT K O Wx X a ta ma) (hb : DW K O Wx X (.BoolOp .Or (b :: rest) pos) tb mb) : DW K O Wx X (.BoolOp .Or (a :: b :: rest) pos) (tOr ta tb) (mOr O ma mb) := by
  refine ⟨ha.hK, ha.tk, pw_or ha.pe hb.pe, fun σ ρ H0 G H s Q F h => ?_⟩
  refine ha.sn σ ρ H0 G H s _ F (pst_bind h fun c s1 _ x G1 H1 t1 k1 r1 h1 => ?_)
  subst r1
  cases x with
  | true => exact h1 true G1 H1 (.refl t1.gh) k1 rfl
  | false => exact hb.sn σ ρ H0 G1 H1 s1 _ (F.tr t1 k1) h1
theorem dt_not (ha : DT K O Wx X a ta ma) : DT K O Wx X (.UnaryOp .Not a pos) (tNot ta) (mNot O ma) := by
  refine ⟨ha.hK, ha.tk, pt_not ha.pe, fun σ ρ H0 G H s Q F h => ?_⟩
  refine ha.sn σ ρ H0 G H s _ F (pst_bind h fun c s1 _ x G1 H1 t1 k1 r1 h1 => ?_)
  subst r1
  exact h1 _ G1 H1 (.refl t1.gh) k1 rfl
end
/-! and, or, not as values of bools -/
section
variable {a b : Expr} {rest : List Expr} {ta tb : TE} {ma mb : ME O} {pos : Pos}
def mAndV (O : Wo) (a b : ME O) : ME O := fun ρ s => (a ρ s).bind fun x s1 => match x with
  | .bl true => b ρ s1
  | .bl false => .ok (.bl false) s1
  | _ => .bad
def mOrV (O : Wo) (a b : ME O) : ME O := fun ρ s => (a ρ s).bind fun x s1 => match x with
  | .bl true => .ok (.bl true) s1
  | .bl false => b ρ s1
  | _ => .bad
def mNotV (O : Wo) (a : ME O) : ME O := fun ρ s => (a ρ s).bind fun x s1 => match x with
  | .bl c => .ok (.bl (!c)) s1
  | _ => .bad
theorem de_one {op : BoolOp} (h : DE K O Wx X a ta ma) : DE K O Wx X (.BoolOp op [a] pos) ta ma := ⟨h.hK, h.tk, pe_one h.pe, h.sn⟩
theorem de_and (ha : DE K O Wx X a ta ma) (hb : DE K O Wx X (.BoolOp .And (b :: rest) pos) tb mb) : DE K O Wx X (.BoolOp .And (a :: b :: rest) pos) (tAndV ta tb) (mAndV O ma mb) := by
  refine ⟨ha.hK, ha.tk, pe_and ha.pe hb.pe, fun σ ρ H0 G H s Q F h => ?_⟩
  refine ha.sn σ ρ H0 G H s _ F (pst_bind h fun c s1 _ x G1 H1 t1 k1 r1 h1 => ?_)
  cases c with
  | bl c =>
    cases r1
    cases c with
    | true => exact ⟨true, rfl, hb.sn σ ρ H0 G1 H1 s1 _ (F.tr t1 k1) h1⟩
    | false => exact ⟨false, rfl, h1 _ G1 H1 (.refl t1.gh) k1 (.bl _)⟩
  | _ => exact (show False from h1).elim
theorem de_or (ha : DE K O Wx X a ta ma) (hb : DE K O Wx X (.BoolOp .Or (b :: rest) pos) tb mb) : DE K O Wx X (.BoolOp .Or (a :: b :: rest) pos) (tOrV ta tb) (mOrV O ma mb) := by
  refine ⟨ha.hK, ha.tk, pe_or ha.pe hb.pe, fun σ ρ H0 G H s Q F h => ?_⟩
  refine ha.sn σ ρ H0 G H s _ F (pst_bind h fun c s1 _ x G1 H1 t1 k1 r1 h1 => ?_)
  cases c with
  | bl c =>
    cases r1
    cases c with
    | true => exact ⟨true, rfl, h1 _ G1 H1 (.refl t1.gh) k1 (.bl _)⟩
    | false => exact ⟨false, rfl, hb.sn σ ρ H0 G1 H1 s1 _ (F.tr t1 k1) h1⟩
  | _ => exact (show False from h1).elim
theorem de_not (ha : DE K O Wx X a ta ma) : DE K O Wx X (.UnaryOp .Not a pos) (tNotV ta) (mNotV O ma) := by
  refine ⟨ha.hK, ha.tk, pe_not ha.pe, fun σ ρ H0 G H s Q F h => ?_⟩
  refine ha.sn σ ρ H0 G H s _ F (pst_bind h fun c s1 _ x G1 H1 t1 k1 r1 h1 => ?_)
  cases c with
  | bl c =>
    cases r1
    exact ⟨c, rfl, h1 _ G1 H1 (.refl t1.gh) k1 (.bl _)⟩
  | _ => exact (show False from h1).elim
def mIf (O : Wo) (c : MT O) (a b : ME O) : ME O := fun ρ s => (c ρ s).bind fun x s1 => if x = true then a ρ s1 else b ρ s1
theorem de_if {c : Expr} {tc : TT} {mc : MT O} (hc : DT K O Wx X c tc mc) (ha : DE K O Wx X a ta ma) (hb : DE K O Wx X b tb mb) : DE K O Wx X (.IfExp c a b pos) (tIf tc ta tb) (mIf O mc ma mb) := by
  refine ⟨ha.hK, ha.tk, pe_ifExp hc.pe ha.pe hb.pe, fun σ ρ H0 G H s Q F h => ?_⟩
  refine hc.sn σ ρ H0 G H s _ F (pst_bind h fun c s1 _ x G1 H1 t1 k1 r1 h1 => ?_)
  subst r1
  cases x with
  | true => exact ha.sn σ ρ H0 G1 H1 s1 _ (F.tr t1 k1) h1
  | false => exact hb.sn σ ρ H0 G1 H1 s1 _ (F.tr t1 k1) h1
end
/-! ### argument lists and displays -/
def mNil (O : Wo) : MA O := fun _ s => .ok [] s
def mCons (O : Wo) (a : ME O) (r : MA O) : MA O := fun ρ s => (a ρ s).bind fun x s1 => (r ρ s1).bind fun xs s2 => .ok (x :: xs) s2
theorem da_nil (c : Cn K Wx X) : DA K O Wx X [] tNil (mNil O) := ⟨c.hK, c.tk, pa_nil, fun σ ρ H0 G H s Q F h => h [] G H (.refl F.gh) F.ok .nil⟩
theorem da_cons {e : Expr} {es : List Expr} {te : TE} {ta : TA} {me : ME O} {ma : MA O} (he : DE K O Wx X e te me) (ha : DA K O Wx X es ta ma) (hs : starEach (e :: es) X.env = (false, eval e X.env) :: starEach es X.env := by rfl) :
    DA K O Wx X (e :: es) (tCons te ta) (mCons O me ma) := by
  refine ⟨he.hK, he.tk, pa_cons he.pe ha.pe hs, fun σ ρ H0 G H s Q F h => ?_⟩
  refine he.sn σ ρ H0 G H s _ F (pst_bind h fun dx s1 _ x G1 H1 t1 k1 r1 h1 => ?_)
  refine ha.sn σ ρ H0 G1 H1 s1 _ (F.tr t1 k1) (pst_bind h1 fun ds s2 _ xs G2 H2 t2 k2 r2 h2 => ?_)
  exact h2 (x :: xs) G2 H2 (.refl t2.gh) k2 (.cons (r1.mono t2.gg) r2)
def dList (xs : List D) : Option D := if xs.length ≤ 100000 then some (.lst xs) else none
def dTup (xs : List D) : Option D := if xs.length ≤ 100000 then some (.tup xs) else none
theorem de_list {es : List Expr} {ta : TA} {ma : MA O} {pos : Pos} (ha : DA K O Wx X es ta ma) : DE K O Wx X (.List es pos) (tLst ta) (mCl O dList ma) := by
  refine ⟨ha.hK, ha.tk, pe_lst ha.pe, fun σ ρ H0 G H s Q F h => ?_⟩
  refine ha.sn σ ρ H0 G H s _ F (pst_bind h fun ds s1 _ xs G1 H1 t1 k1 r1 h1 => ?_)
  obtain ⟨d, e, q⟩ := pst_lift (F.tr t1 k1) h1
  unfold dList at e
  split at e
  · rename_i hz
    cases e
    refine ⟨by rw [r1.length]; exact sz5 hz, fun p np => q _ _ _ (Tr0.new t1.gh np) ?_⟩
    exact .lst (.inl (.inl upd_same)) (r1.mono (Tr0.new (o := .lst xs) t1.gh np).gg)
  · cases e
theorem de_tup {es : List Expr} {ta : TA} {ma : MA O} {x1} {pos : Pos} (ha : DA K O Wx X es ta ma) : DE K O Wx X (.Tuple es x1 pos) (tTup ta) (mCl O dTup ma) := by
  refine ⟨ha.hK, ha.tk, pe_tup ha.pe, fun σ ρ H0 G H s Q F h => ?_⟩
  refine ha.sn σ ρ H0 G H s _ F (pst_bind h fun ds s1 _ xs G1 H1 t1 k1 r1 h1 => ?_)
  obtain ⟨d, e, q⟩ := pst_lift (F.tr t1 k1) h1
  unfold dTup at e
  split at e
  · rename_i hz
    cases e
    refine ⟨by rw [r1.length]; exact sz5 hz, fun p np => q _ _ _ (Tr0.new t1.gh np) ?_⟩
    exact .tup (.inl (.inl upd_same)) (r1.mono (Tr0.new (o := .tup xs) t1.gh np).gg)
  · cases e
/-! ### calls -/
theorem de_callB {id : String} {x : Str} {r : List V → Hp → VK → Prop} {f : List D → Option D} {e : Expr} {es : List Expr} {ta : TA} {ma : MA O} {p pos : Pos} (hc : CallR X (.builtin id) r) (hv : VCl K r f) (hm : X.mg x = none) (hb : bootBuiltins x = some (.builtin id)) (ha : DA K O Wx X (e :: es) ta ma)
    (hg : Gl X x := by rfl) (hn : x ≠ "__name__" := by decide) (hdb : (x == ("__debug__" : Str)) = false := by decide) (he : starEach (e :: es) X.env = (false, eval e X.env) :: starEach es X.env := by rfl) (hpl : (backTo pos (starEach es X.env)).any (·.1) = false := by rfl) :
    DE K O Wx X (.Call (.Name x p) (e :: es) [] pos) (tCB r ta) (mCl O f ma) := ⟨ha.hK, ha.tk, pe_callB hc hg hm hb ha.pe hn hdb he hpl, snd_cl hv ha.sn⟩
theorem de_callT {T : String} {x : Str} {r : List V → Hp → VK → Prop} {f : List D → Option D} {e : Expr} {es : List Expr} {ta : TA} {ma : MA O} {p pos : Pos} (hc : CallR X (.type T) r) (hv : VCl K r f) (hm : X.mg x = none) (hb : bootBuiltins x = some (.type T)) (ha : DA K O Wx X (e :: es) ta ma)
    (hg : Gl X x := by rfl) (hn : x ≠ "__name__" := by decide) (hdb : (x == ("__debug__" : Str)) = false := by decide) (he : starEach (e :: es) X.env = (false, eval e X.env) :: starEach es X.env := by rfl) (hpl : (backTo pos (starEach es X.env)).any (·.1) = false := by rfl) :
    DE K O Wx X (.Call (.Name x p) (e :: es) [] pos) (tCB r ta) (mCl O f ma) := ⟨ha.hK, ha.tk, pe_callTy hc hg hm hb ha.pe hn hdb he hpl, snd_cl hv ha.sn⟩
/-- a def's promise by its mirror -/
def PstF (K : PySem.W.Frag) (O : Wo) (G H : Hp) (r : R O.S D) (Q : VK) (E : XK) : Prop :=
  match r with
  | .ok d s' => ∀ v G' H', Tr O.W G H G' H' → O.ok s' H' → Rep K G' v d → Q v H'
  | .err c fs s' => ∀ dd xs G' H', Tr O.W G H G' H' → O.ok s' H' → H' dd = some (.xd xs) → ¬ O.W dd → RepF K G' xs fs → E (.ref c) (some dd) H'
  | .bad => False
def spM (K : PySem.W.Frag) (O : Wo) (n : Nat) (m : List D → O.S → R O.S D) : Sp := fun vs H Q E => vs.length = n ∧ ∃ G ds s, Same G H ∧ (∀ a, O.W a → G a = none) ∧ O.ok s H ∧ Reps K G vs ds ∧ PstF K O G H (m ds s) Q E
def mCall (O : Wo) (n : Nat) (m : List D → O.S → R O.S D) (a : MA O) : ME O := fun ρ s => (a ρ s).bind fun xs s1 => if xs.length = n then m xs s1 else .bad
theorem call_snd {n : Nat} {m : List D → O.S → R O.S D} {ta : TA} {ma : MA O} (h : SndA K O Wx ta ma) : SndE K O Wx (tCallS (spM K O n m) (WE Wx) ta) (mCall O n m ma) := by
  intro σ ρ H0 G H s Q F hq
  refine h σ ρ H0 G H s _ F (pst_bind hq fun ds s1 _ xs G1 H1 t1 k1 r1 h1 => ?_)
  have F1 := F.tr t1 k1
  by_cases e : ds.length = n
  · rw [if_pos e] at h1
    refine ⟨by rw [r1.length]; exact e, G1, ds, s1, F1.gh, F1.wg, F1.ok, r1, ?_⟩
    revert h1
    cases m ds s1 <;> exact fun h1 => h1
  · rw [if_neg e] at h1
    exact (show False from h1).elim
/-- what is known of a def that is called by its name -/
structure Fo (P : Program) (w : World) (K : PySem.W.Frag) (mg : Str → Option Value) (base : Heap) (O : Wo) (k : Nat) (x : Str) (n : Nat) (m : List D → O.S → R O.S D) : Prop where
  ex : ∃ f fd ps, FnOk P w K mg base (L2.CX P w) k f fd ps (spM K O n m) ∧ mg x = some (.ref f) ∧ PySem.W.keepIn K (.ref f) = true ∧ Binds K fd ps []
theorem de_call {k j n : Nat} {x : Str} {m : List D → O.S → R O.S D} {e : Expr} {es : List Expr} {ta : TA} {ma : MA O} {p pos : Pos} (F : Fo X.prog X.w X.K X.mg X.base O k x n m) (hr : Room j X.A) (hk : k ≤ j) (ha : DA K O Wx X (e :: es) ta ma)
    (hg : Gl X x := by rfl) (hdb : (x == ("__debug__" : Str)) = false := by decide) (he : starEach (e :: es) X.env = (false, eval e X.env) :: starEach es X.env := by rfl) (hpl : (backTo pos (starEach es X.env)).any (·.1) = false := by rfl) :
    DE K O Wx X (.Call (.Name x p) (e :: es) [] pos) (tCallS (spM K O n m) (WE Wx) ta) (mCall O n m ma) := by
  obtain ⟨f, fd, ps, Fn, hm, kp, bi⟩ := F.ex
  refine ⟨ha.hK, ha.tk, ?_, call_snd ha.sn⟩
  have := ha.hK
  subst this
  exact pe_callS Fn (hr.mono hk) hg hm kp bi (fun σ => passAt ha.tk σ) ha.pe hdb he hpl
theorem de_call0 {k j : Nat} {x : Str} {m : List D → O.S → R O.S D} {p pos : Pos} (F : Fo X.prog X.w X.K X.mg X.base O k x 0 m) (hr : Room j X.A) (hk : k ≤ j) (c : Cn K Wx X)
    (hg : Gl X x := by rfl) (hdb : (x == ("__debug__" : Str)) = false := by decide) :
    DE K O Wx X (.Call (.Name x p) [] [] pos) (tCallS (spM K O 0 m) (WE Wx) tNil) (mCall O 0 m (mNil O)) := by
  obtain ⟨f, fd, ps, Fn, hm, kp, bi⟩ := F.ex
  have d0 := da_nil (O := O) c
  refine ⟨c.hK, c.tk, ?_, call_snd d0.sn⟩
  have := c.hK
  subst this
  refine ⟨fun pins s σ H Q I h => ?_⟩
  refine wpAny_Call_Name_kw (ld_glob I hg hm ?_ hdb)
  exact PySem.W.callWith_K0 I.kIn kp (run_fnS (us := []) Fn (hr.mono hk) bi (passAt c.tk σ) I .nil h)
end
end Mr

namespace Mr
open PySem PySem.Spec PyProof.Rows L2
section
variable {K : PySem.W.Frag} {O : Wo} {Wx : WX} {X : Cx}
/-! ### arithmetic -/
/-- the sum of two lists, wherever they stand -/
def rCatG (K : PySem.W.Frag) : R2 := fun x y H Q => ∃ l b xs zs, x = .ref l ∧ y = .ref b ∧ SqL K H l xs ∧ SqL K H b zs ∧ xs.length + zs.length ≤ sizeLine ∧ ∀ p, H p = none → Q (.ref p) (upd H p (.lst (xs ++ zs)))
theorem op_catG : OpR X (binaryOp .Add) (rCatG X.K) := by
  intro pins s σ H x y v u Q I rx ry h
  obtain ⟨l, b, xs, zs, rfl, rfl, hH, hB, hz, q⟩ := h
  cases rx
  cases ry
  obtain ⟨its, r, p1, _⟩ := I.list hH
  obtain ⟨its2, r2, p2, _⟩ := I.list hB
  obtain ⟨⟨cls, dd, data, sl⟩, ho, hc, n, hd⟩ := id p1.isList
  obtain ⟨⟨cls2, dd2, data2, sl2⟩, ho2, hc2, n2, hd2⟩ := id p2.isList
  simp only at hc hd hc2 hd2
  subst hc hd hc2 hd2
  have e : its.toArray ++ its2.toArray = (its ++ its2).toArray := by simp
  have l1 := r.length
  have l2 := r2.length
  refine concat_meets ⟨_, ho, rfl⟩ ⟨_, ho2, rfl⟩ noFill_list_add seq_list_add PySem.F.slot_list_add PySem.F.entry_list_add (PySem.F.args_list_add_2 _ _) (list_addW l b its.toArray its2.toArray n n2 dd dd2 sl sl2 (by rw [List.size_toArray, List.size_toArray]; omega)) ⟨ho, ho2, ?_⟩
  rw [e]
  exact ⟨.ref _, _, I.lnew (t' := s.toks) (r.append r2) (by rw [List.length_append]; omega), rfl, q _ I.fresh⟩
def rStrAdd : R2 := fun x y H Q => ∃ i j, x = .str i ∧ y = .str j ∧ i.length + j.length ≤ sizeLine ∧ Q (.str (i ++ j)) H
def rAddG (K : PySem.W.Frag) : R2 := fun x y H Q => rI0 (fun i j => .int (i + j)) x y H Q ∨ rCatG K x y H Q ∨ rCatA K x y H Q ∨ rStrAdd x y H Q
theorem op_addG (hK : X.K = K) : OpR X (binaryOp .Add) (rAddG K) := by
  subst hK
  exact op_add.or (op_catG.or (op_catA.or op_add_str))
def dAdd : D → D → Option D
  | .int i, .int j => some (.int (i + j))
  | .lst xs, .lst ys => if xs.length + ys.length ≤ 100000 then some (.lst (xs ++ ys)) else none
  | .tup xs, .tup ys => if xs.length + ys.length ≤ 100000 then some (.tup (xs ++ ys)) else none
  | .str x, .str y => if x.length + y.length ≤ 100000 then some (.str (x ++ y)) else none
  | _, _ => none
/-- a new object, told -/
theorem new_lst {G H : Hp} {p : Addr} {vs : List V} {ds : List D} (g : Same G H) (n : H p = none) (r : Reps K G vs ds) : Rep K (upd G p (.lst vs)) (.ref p) (.lst ds) :=
  .lst (.inl (.inl upd_same)) (r.mono (Tr0.new (o := .lst vs) g n).gg)
theorem new_tup {G H : Hp} {p : Addr} {vs : List V} {ds : List D} (g : Same G H) (n : H p = none) (r : Reps K G vs ds) : Rep K (upd G p (.tup vs)) (.ref p) (.tup ds) :=
  .tup (.inl (.inl upd_same)) (r.mono (Tr0.new (o := .tup vs) g n).gg)
theorem Reps.nil_iff {G : Hp} {vs : List V} {ds : List D} (r : Reps K G vs ds) : vs = [] ↔ ds = [] := by
  cases r <;> simp
theorem vop_add : VOp K (rAddG K) dAdd := by
  intro G H x y dx dy d Q g rx ry e q
  unfold dAdd at e
  split at e
  · cases e; cases rx; cases ry
    exact .inl ⟨_, _, rfl, rfl, q _ G H (.refl g) (.int _)⟩
  · split at e
    · rename_i hz
      cases e
      cases rx with
      | lst hx r1 =>
        cases ry with
        | lst hy r2 =>
          have l1 := r1.length
          have l2 := r2.length
          exact .inr (.inl ⟨_, _, _, _, rfl, rfl, g.seq hx, g.seq hy, sz5 (by omega), fun p n => q _ _ _ (Tr0.new g n) (new_lst g n (r1.append r2))⟩)
    · cases e
  · split at e
    · rename_i hz
      cases e
      cases rx with
      | @tup a vs ds hx r1 =>
        cases ry with
        | @tup b ws es hy r2 =>
          have l1 := r1.length
          have l2 := r2.length
          refine .inr (.inr (.inl ⟨_, _, vs, ws, rfl, rfl, sq_t g hx, sq_t g hy, sz5 (by omega), fun z => ?_, fun z z2 => ?_, fun z z2 p n => ?_⟩))
          · have z' := r1.nil_iff.mp z
            subst z'
            exact q _ G H (.refl g) (.tup hy r2)
          · have z' := r2.nil_iff.mp z2
            subst z'
            rw [List.append_nil] at q
            exact q _ G H (.refl g) (.tup hx r1)
          · exact q _ _ _ (Tr0.new g n) (new_tup g n (r1.append r2))
    · cases e
  · split at e
    · rename_i hz
      cases e; cases rx; cases ry
      exact .inr (.inr (.inr ⟨_, _, rfl, rfl, sz5 hz, q _ G H (.refl g) (.str _)⟩))
    · cases e
  · cases e
def dInt2 (f : Int → Int → Option D) : D → D → Option D
  | .int i, .int j => f i j
  | _, _ => none
theorem vop_int {C : Int → Int → Prop} [∀ i j, Decidable (C i j)] {f : Int → Int → Int} : VOp K (rI C fun i j => .int (f i j)) (dInt2 fun i j => if C i j then some (.int (f i j)) else none) := by
  intro G H x y dx dy d Q g rx ry e q
  unfold dInt2 at e
  split at e
  · dsimp only at e
    split at e
    · rename_i hc
      cases e; cases rx; cases ry
      exact ⟨_, _, rfl, rfl, hc, q _ G H (.refl g) (.int _)⟩
    · cases e
  · cases e
theorem vop_int0 {f : Int → Int → Int} : VOp K (rI0 fun i j => .int (f i j)) (dInt2 fun i j => some (.int (f i j))) := by
  intro G H x y dx dy d Q g rx ry e q
  unfold dInt2 at e
  split at e
  · cases e; cases rx; cases ry
    exact ⟨_, _, rfl, rfl, q _ G H (.refl g) (.int _)⟩
  · cases e
theorem vop_intB {f : Int → Int → Bool} : VOp K (rI0 fun i j => .bl (f i j)) (dInt2 fun i j => some (.bl (f i j))) := by
  intro G H x y dx dy d Q g rx ry e q
  unfold dInt2 at e
  split at e
  · cases e; cases rx; cases ry
    exact ⟨_, _, rfl, rfl, q _ G H (.refl g) (.bl _)⟩
  · cases e
def dSub : D → D → Option D := dInt2 fun i j => some (.int (i - j))
def CMulG (i j : Int) : Prop := i.natAbs.log2 < 4000 ∧ j.natAbs.log2 < 4000
instance : ∀ i j, Decidable (CMulG i j) := fun i j => by unfold CMulG; infer_instance
theorem CMulG.w {i j : Int} (h : CMulG i j) : CMulW i j := by unfold CMulG at h; unfold CMulW; omega
theorem op_mulG : OpR X (binaryOp .Mult) (rI CMulG fun i j => .int (i * j)) := opI fun _ _ _ _ _ _ _ hc q => mul_int q hc.w.ok
theorem iop_mulG : OpR X (inplaceOp .Mult) (rI CMulG fun i j => .int (i * j)) := opI fun _ _ _ _ _ _ _ hc q => imul_int q hc.w.ok
/-- a list times an int -/
def rRepG (K : PySem.W.Frag) : R2 := fun x y H Q => rI CMulG (fun i j => .int (i * j)) x y H Q ∨ rRep x y H Q
theorem op_mulL (hK : X.K = K) : OpR X (binaryOp .Mult) (rRepG K) := op_mulG.or op_rep
def dMul : D → D → Option D := dInt2 fun i j => if CMulG i j then some (.int (i * j)) else none
theorem vop_mul : VOp K (rI CMulG fun i j => .int (i * j)) dMul := vop_int
def CDivG (i j : Int) : Prop := j ≠ 0 ∧ j.natAbs.log2 < 9000
instance : ∀ i j, Decidable (CDivG i j) := fun i j => by unfold CDivG; infer_instance
theorem op_fdivG : OpR X (binaryOp .FloorDiv) (rI CDivG fun i j => .int (i.fdiv j)) := opI fun i j _ _ _ _ _ hc q => floordiv_int hc.1 q (.inl (PyProof.noPylong_of_log2 hc.2))
theorem iop_fdivG : OpR X (inplaceOp .FloorDiv) (rI CDivG fun i j => .int (i.fdiv j)) := opI fun i j _ _ _ _ _ hc q => ifloordiv_int hc.1 q (.inl (PyProof.noPylong_of_log2 hc.2))
def dDiv : D → D → Option D := dInt2 fun i j => if CDivG i j then some (.int (i.fdiv j)) else none
theorem vop_div : VOp K (rI CDivG fun i j => .int (i.fdiv j)) dDiv := vop_int
def CModG (i j : Int) : Prop := j ≠ 0
instance : ∀ i j, Decidable (CModG i j) := fun i j => by unfold CModG; infer_instance
theorem op_modG : OpR X (binaryOp .Mod) (rI CModG fun i j => .int (i.fmod j)) := opI fun _ _ _ _ _ _ _ hc q => mod_int' hc q
def dMod : D → D → Option D := dInt2 fun i j => if CModG i j then some (.int (i.fmod j)) else none
theorem vop_mod : VOp K (rI CModG fun i j => .int (i.fmod j)) dMod := vop_int
def CPowG (i j : Int) : Prop := 0 ≤ j ∧ j ≤ 1000 ∧ i.natAbs < 2 ^ 64
instance : ∀ i j, Decidable (CPowG i j) := fun i j => by unfold CPowG; infer_instance
theorem op_powG : OpR X (binaryOp .Pow) (rI CPowG fun i j => .int (i ^ j.toNat)) := opI fun _ _ _ _ _ _ _ hc q => pow_int_small hc.1 (by have := hc.2.1; omega) hc.2.2 q
def dPow : D → D → Option D := dInt2 fun i j => if CPowG i j then some (.int (i ^ j.toNat)) else none
theorem vop_pow : VOp K (rI CPowG fun i j => .int (i ^ j.toNat)) dPow := vop_int
def dNeg : D → Option D
  | .int i => some (.int (-i))
  | _ => none
theorem vun_neg : VUn K (rU fun i => .int (-i)) dNeg := by
  intro G H x dx d Q g rx e q
  unfold dNeg at e
  split at e
  · cases e; cases rx
    exact ⟨_, rfl, q _ G H (.refl g) (.int _)⟩
  · cases e
section
variable {a b c : Expr} {ta tb tc : TE} {ma mb mc : ME O} {pos : Pos}
theorem de_add (ha : DE K O Wx X a ta ma) (hb : DE K O Wx X b tb mb) : DE K O Wx X (.BinOp a .Add b pos) (tOp (rAddG K) ta tb) (mBin O dAdd ma mb) := de_bin (op_addG ha.hK) vop_add ha hb
theorem de_sub (ha : DE K O Wx X a ta ma) (hb : DE K O Wx X b tb mb) : DE K O Wx X (.BinOp a .Sub b pos) (tOp (rI0 fun i j => .int (i - j)) ta tb) (mBin O dSub ma mb) := de_bin op_sub vop_int0 ha hb
theorem de_mul (ha : DE K O Wx X a ta ma) (hb : DE K O Wx X b tb mb) : DE K O Wx X (.BinOp a .Mult b pos) (tOp (rI CMulG fun i j => .int (i * j)) ta tb) (mBin O dMul ma mb) := de_bin op_mulG vop_mul ha hb
theorem de_div (ha : DE K O Wx X a ta ma) (hb : DE K O Wx X b tb mb) : DE K O Wx X (.BinOp a .FloorDiv b pos) (tOp (rI CDivG fun i j => .int (i.fdiv j)) ta tb) (mBin O dDiv ma mb) := de_bin op_fdivG vop_div ha hb
theorem de_mod (ha : DE K O Wx X a ta ma) (hb : DE K O Wx X b tb mb) : DE K O Wx X (.BinOp a .Mod b pos) (tOp (rI CModG fun i j => .int (i.fmod j)) ta tb) (mBin O dMod ma mb) := de_bin op_modG vop_mod ha hb
theorem de_pow (ha : DE K O Wx X a ta ma) (hb : DE K O Wx X b tb mb) : DE K O Wx X (.BinOp a .Pow b pos) (tOp (rI CPowG fun i j => .int (i ^ j.toNat)) ta tb) (mBin O dPow ma mb) := de_bin op_powG vop_pow ha hb
theorem de_neg (ha : DE K O Wx X a ta ma) : DE K O Wx X (.UnaryOp .USub a pos) (tUn (rU fun i => .int (-i)) ta) (mUn O dNeg ma) := de_unop un_neg vun_neg ha
end
/-! ### comparisons -/
def dLt : D → D → Option D := dInt2 fun i j => some (.bl (decide (i < j)))
def dLe : D → D → Option D := dInt2 fun i j => some (.bl (decide (i ≤ j)))
def dGt : D → D → Option D := dInt2 fun i j => some (.bl (decide (j < i)))
def dGe : D → D → Option D := dInt2 fun i j => some (.bl (decide (j ≤ i)))
mutual
def toP : D → Option PyData
  | .non => some .none
  | .bl b => some (.bool b)
  | .int i => some (.int i)
  | .str x => some (.str x)
  | .lst xs => (toPs xs).map .list
  | .tup xs => (toPs xs).map .tuple
  | _ => none
def toPs : List D → Option (List PyData)
  | [] => some []
  | x :: xs => match toP x, toPs xs with
    | some p, some ps => some (p :: ps)
    | _, _ => none
end
mutual
theorem Rep.dp {G H : Hp} (g : Same G H) : ∀ {v : V} {d : D} {p : PyData}, Rep K G v d → toP d = some p → Dp K H v p
  | _, _, _, .non, h => by simp only [toP, Option.some.injEq] at h; subst h; exact .non
  | _, _, _, .bl b, h => by simp only [toP, Option.some.injEq] at h; subst h; exact .bl b
  | _, _, _, .int b, h => by simp only [toP, Option.some.injEq] at h; subst h; exact .int b
  | _, _, _, .str b, h => by simp only [toP, Option.some.injEq] at h; subst h; exact .str b
  | _, _, _, .lst hs r, h => by
    simp only [toP, Option.map_eq_some_iff] at h
    obtain ⟨ps, h1, rfl⟩ := h
    exact .lst (g.seq hs) (Reps.dp g r h1)
  | _, _, _, .tup hs r, h => by
    simp only [toP, Option.map_eq_some_iff] at h
    obtain ⟨ps, h1, rfl⟩ := h
    exact .tup (sq_t g hs) (Reps.dp g r h1)
  | _, _, _, .ref a, h => by simp [toP] at h
  | _, _, _, .ty a, h => by simp [toP] at h
  | _, _, _, .ins _ _, h => by simp [toP] at h
  | _, _, _, .dct _ _, h => by simp [toP] at h
theorem Reps.dp {G H : Hp} (g : Same G H) : ∀ {v : List V} {d : List D} {p : List PyData}, Reps K G v d → toPs d = some p → DpAll K H v p
  | _, _, _, .nil, h => by simp only [toPs, Option.some.injEq] at h; subst h; exact .nil
  | _, _, _, .cons q r, h => by
    simp only [toPs] at h
    split at h
    · rename_i p ps e1 e2
      cases h
      exact .cons (Rep.dp g q e1) (Reps.dp g r e2)
    · cases h
end
/-- == of data: scalars of one kind outright, the rest where it is shaped -/
def dEqB : D → D → Option Bool
  | .int i, .int j => some (decide (i = j))
  | .str i, .str j => some (decide (i = j))
  | .bl i, .bl j => some (decide (i = j))
  | .non, .non => some true
  | .non, .int _ => some false
  | .int _, .non => some false
  | .int _, .str _ => some false
  | .str _, .int _ => some false
  | .non, .str _ => some false
  | .str _, .non => some false
  | a, b => match toP a, toP b with
    | some p, some q => if SeqAt.shaped p = true ∧ SeqAt.shaped q = true then some (PyData.eqv p q) else none
    | _, _ => none
def rEqG (K : PySem.W.Frag) : R2 := fun x y H Q => rEq x y H Q ∨ rEqD K x y H Q
def rNeG (K : PySem.W.Frag) : R2 := fun x y H Q => rNe x y H Q ∨ rNeD K x y H Q
theorem op_eqG (hK : X.K = K) (hu : X.A.units + 64 < cLine) : OpR X (compareOp .Eq) (rEqG K) := by subst hK; exact op_eq.or (op_eqD hu)
theorem op_neG (hK : X.K = K) (hu : X.A.units + 64 < cLine) : OpR X (compareOp .NotEq) (rNeG K) := by subst hK; exact op_ne.or (op_neD hu)
theorem eqB_ok {G H : Hp} {x y : V} {dx dy : D} {b : Bool} (g : Same G H) (rx : Rep K G x dx) (ry : Rep K G y dy) (e : dEqB dx dy = some b) :
    (scal x y = true ∧ decide (x = y) = b) ∨ ∃ p q, Dp K H x p ∧ Dp K H y q ∧ SeqAt.shaped p = true ∧ SeqAt.shaped q = true ∧ PyData.eqv p q = b := by
  unfold dEqB at e
  split at e
  · cases e; cases rx; cases ry
    exact .inl ⟨rfl, by simp⟩
  · cases e; cases rx; cases ry
    exact .inl ⟨rfl, by simp⟩
  · cases e; cases rx; cases ry
    exact .inl ⟨rfl, by simp⟩
  · cases e; cases rx; cases ry
    exact .inl ⟨rfl, by simp⟩
  · cases e; cases rx; cases ry
    exact .inl ⟨rfl, by simp⟩
  · cases e; cases rx; cases ry
    exact .inl ⟨rfl, by simp⟩
  · cases e; cases rx; cases ry
    exact .inl ⟨rfl, by simp⟩
  · cases e; cases rx; cases ry
    exact .inl ⟨rfl, by simp⟩
  · cases e; cases rx; cases ry
    exact .inl ⟨rfl, by simp⟩
  · cases e; cases rx; cases ry
    exact .inl ⟨rfl, by simp⟩
  · split at e
    · rename_i p q e1 e2
      split at e
      · rename_i hs
        cases e
        exact .inr ⟨p, q, rx.dp g e1, ry.dp g e2, hs.1, hs.2, rfl⟩
      · cases e
    · cases e
def dEq (a b : D) : Option D := (dEqB a b).map .bl
def dNe (a b : D) : Option D := (dEqB a b).map fun c => .bl (!c)
theorem vop_eq : VOp K (rEqG K) dEq := by
  intro G H x y dx dy d Q g rx ry e q
  unfold dEq at e
  rw [Option.map_eq_some_iff] at e
  obtain ⟨b, e, rfl⟩ := e
  rcases eqB_ok g rx ry e with ⟨h1, h2⟩ | ⟨p, r, h1, h2, h3, h4, h5⟩
  · exact .inl ⟨h1, by rw [h2]; exact q _ G H (.refl g) (.bl _)⟩
  · exact .inr ⟨p, r, h1, h2, h3, h4, by rw [h5]; exact q _ G H (.refl g) (.bl _)⟩
theorem vop_ne : VOp K (rNeG K) dNe := by
  intro G H x y dx dy d Q g rx ry e q
  unfold dNe at e
  rw [Option.map_eq_some_iff] at e
  obtain ⟨b, e, rfl⟩ := e
  rcases eqB_ok g rx ry e with ⟨h1, h2⟩ | ⟨p, r, h1, h2, h3, h4, h5⟩
  · exact .inl ⟨h1, by rw [h2]; exact q _ G H (.refl g) (.bl _)⟩
  · exact .inr ⟨p, r, h1, h2, h3, h4, by rw [h5]; exact q _ G H (.refl g) (.bl _)⟩
/-- flat data as values -/
def toV : D → Option V
  | .non => some .non
  | .bl b => some (.bl b)
  | .int i => some (.int i)
  | .str x => some (.str x)
  | _ => none
def toVs : List D → Option (List V)
  | [] => some []
  | x :: xs => match toV x, toVs xs with
    | some p, some ps => some (p :: ps)
    | _, _ => none
theorem Rep.toV {G : Hp} {v w : V} {d : D} (r : Rep K G v d) (h : Mr.toV d = some w) : v = w ∧ flatV w = true := by
  cases r <;> cases h <;> exact ⟨rfl, rfl⟩
theorem Reps.toVs {G : Hp} : ∀ {vs ws : List V} {ds : List D}, Reps K G vs ds → Mr.toVs ds = some ws → vs = ws ∧ ws.all flatV = true
  | _, _, _, .nil, h => by cases h; exact ⟨rfl, rfl⟩
  | _, _, _, .cons q r, h => by
    simp only [Mr.toVs] at h
    split at h
    · rename_i p ps e1 e2
      cases h
      obtain ⟨h1, h2⟩ := q.toV e1
      obtain ⟨h3, h4⟩ := Reps.toVs r e2
      subst h1 h3
      exact ⟨rfl, by rw [List.all_cons, h2, h4]; rfl⟩
    · cases h
def dInB (x : D) : D → Option Bool
  | .lst ys => match toV x, toVs ys with
    | some v, some vs => some (inV v vs)
    | _, _ => none
  | .tup ys => match toV x, toVs ys with
    | some v, some vs => some (inV v vs)
    | _, _ => none
  | _ => none
theorem inB_ok {G H : Hp} {x y : V} {dx dy : D} {b : Bool} (g : Same G H) (rx : Rep K G x dx) (ry : Rep K G y dy) (e : dInB dx dy = some b) :
    ∃ p xs, y = .ref p ∧ (SqL K H p xs ∨ SqT K H p xs) ∧ flatV x = true ∧ xs.all flatV = true ∧ inV x xs = b := by
  cases ry with
  | lst hs r =>
    simp only [dInB] at e
    split at e
    · rename_i v vs e1 e2
      cases e
      obtain ⟨h1, h2⟩ := rx.toV e1
      obtain ⟨h3, h4⟩ := r.toVs e2
      subst h1 h3
      exact ⟨_, _, rfl, .inl (g.seq hs), h2, h4, rfl⟩
    · cases e
  | tup hs r =>
    simp only [dInB] at e
    split at e
    · rename_i v vs e1 e2
      cases e
      obtain ⟨h1, h2⟩ := rx.toV e1
      obtain ⟨h3, h4⟩ := r.toVs e2
      subst h1 h3
      exact ⟨_, _, rfl, .inr (sq_t g hs), h2, h4, rfl⟩
    · cases e
  | _ => simp [dInB] at e
def dIn (x y : D) : Option D := (dInB x y).map .bl
def dNotIn (x y : D) : Option D := (dInB x y).map fun c => .bl (!c)
theorem vop_in : VOp K (rIn K false) dIn := by
  intro G H x y dx dy d Q g rx ry e q
  unfold dIn at e
  rw [Option.map_eq_some_iff] at e
  obtain ⟨b, e, rfl⟩ := e
  obtain ⟨p, xs, h1, h2, h3, h4, h5⟩ := inB_ok g rx ry e
  refine ⟨p, xs, h1, h2, h3, h4, ?_⟩
  rw [h5]
  exact q _ G H (.refl g) (.bl _)
theorem vop_notIn : VOp K (rIn K true) dNotIn := by
  intro G H x y dx dy d Q g rx ry e q
  unfold dNotIn at e
  rw [Option.map_eq_some_iff] at e
  obtain ⟨b, e, rfl⟩ := e
  obtain ⟨p, xs, h1, h2, h3, h4, h5⟩ := inB_ok g rx ry e
  refine ⟨p, xs, h1, h2, h3, h4, ?_⟩
  rw [h5]
  exact q _ G H (.refl g) (.bl _)
theorem op_inG (hK : X.K = K) : OpR X (compareOp .In) (rIn K false) := by subst hK; exact op_in_seq
theorem op_notInG (hK : X.K = K) : OpR X (compareOp .NotIn) (rIn K true) := by subst hK; exact op_notIn_seq
/-- is None, is True, is False -/
def rIsG : R2 := fun x y H Q => (y = .non ∧ Q (.bl (decide (x = .non))) H) ∨ rIsB x y H Q
def rNotIsG : R2 := fun x y H Q => (y = .non ∧ Q (.bl (!decide (x = .non))) H) ∨ rNotB x y H Q
def isNon : D → Bool
  | .non => true
  | _ => false
def dIsB : D → D → Option Bool
  | x, .non => some (isNon x)
  | .bl a, .bl b => some (decide (a = b))
  | _, _ => none
def dIs (x y : D) : Option D := (dIsB x y).map .bl
def dNotIs (x y : D) : Option D := (dIsB x y).map fun c => .bl (!c)
theorem Rep.isNon {G : Hp} {v : V} {d : D} (r : Rep K G v d) : decide (v = V.non) = Mr.isNon d := by
  cases r <;> simp [Mr.isNon]
theorem vop_is : VOp K rIsG dIs := by
  intro G H x y dx dy d Q g rx ry e q
  unfold dIs at e
  rw [Option.map_eq_some_iff] at e
  obtain ⟨b, e, rfl⟩ := e
  unfold dIsB at e
  split at e
  · cases e; cases ry
    exact .inl ⟨rfl, by rw [rx.isNon]; exact q _ G H (.refl g) (.bl _)⟩
  · cases e; cases rx; cases ry
    exact .inr ⟨_, _, rfl, rfl, q _ G H (.refl g) (.bl _)⟩
  · cases e
theorem vop_notIs : VOp K rNotIsG dNotIs := by
  intro G H x y dx dy d Q g rx ry e q
  unfold dNotIs at e
  rw [Option.map_eq_some_iff] at e
  obtain ⟨b, e, rfl⟩ := e
  unfold dIsB at e
  split at e
  · cases e; cases ry
    exact .inl ⟨rfl, by rw [rx.isNon]; exact q _ G H (.refl g) (.bl _)⟩
  · cases e; cases rx; cases ry
    exact .inr ⟨_, _, rfl, rfl, q _ G H (.refl g) (.bl _)⟩
  · cases e
theorem op_isG : OpR X (compareOp .Is) rIsG := op_isN.or op_isBl
theorem op_notIsG : OpR X (compareOp .IsNot) rNotIsG := op_notN.or op_notBl
/-! the rules by operator: the operation's rule, its data function, its mark -/
section
variable {a b c : Expr} {ta tb tc : TE} {ma mb mc : ME O} {pos : Pos} {j : Nat}
theorem de_lt (ha : DE K O Wx X a ta ma) (hb : DE K O Wx X b tb mb) : DE K O Wx X (.Compare a [.Lt] [b] pos) (tOp (rI0 fun i j => .bl (decide (i < j))) ta tb) (mBin O dLt ma mb) := de_cmp op_lt vop_intB ha hb (nomark _)
theorem de_le (ha : DE K O Wx X a ta ma) (hb : DE K O Wx X b tb mb) : DE K O Wx X (.Compare a [.LtE] [b] pos) (tOp (rI0 fun i j => .bl (decide (i ≤ j))) ta tb) (mBin O dLe ma mb) := de_cmp op_le vop_intB ha hb (nomark _)
theorem de_gt (ha : DE K O Wx X a ta ma) (hb : DE K O Wx X b tb mb) : DE K O Wx X (.Compare a [.Gt] [b] pos) (tOp (rI0 fun i j => .bl (decide (j < i))) ta tb) (mBin O dGt ma mb) := de_cmp op_gt vop_intB ha hb (nomark _)
theorem de_ge (ha : DE K O Wx X a ta ma) (hb : DE K O Wx X b tb mb) : DE K O Wx X (.Compare a [.GtE] [b] pos) (tOp (rI0 fun i j => .bl (decide (j ≤ i))) ta tb) (mBin O dGe ma mb) := de_cmp op_ge vop_intB ha hb (nomark _)
theorem de_eq (hr : Room j X.A) (ha : DE K O Wx X a ta ma) (hb : DE K O Wx X b tb mb) : DE K O Wx X (.Compare a [.Eq] [b] pos) (tOp (rEqG K) ta tb) (mBin O dEq ma mb) := de_cmp (op_eqG ha.hK hr.units) vop_eq ha hb (nomark _)
theorem de_ne (hr : Room j X.A) (ha : DE K O Wx X a ta ma) (hb : DE K O Wx X b tb mb) : DE K O Wx X (.Compare a [.NotEq] [b] pos) (tOp (rNeG K) ta tb) (mBin O dNe ma mb) := de_cmp (op_neG ha.hK hr.units) vop_ne ha hb (nomark _)
theorem de_in (ha : DE K O Wx X a ta ma) (hb : DE K O Wx X b tb mb) (hm : behindInMarks .In b = false := by first | rfl | with_unfolding_all rfl) : DE K O Wx X (.Compare a [.In] [b] pos) (tOp (rIn K false) ta tb) (mBin O dIn ma mb) := de_cmp (op_inG ha.hK) vop_in ha hb hm
theorem de_notIn (ha : DE K O Wx X a ta ma) (hb : DE K O Wx X b tb mb) (hm : behindInMarks .NotIn b = false := by first | rfl | with_unfolding_all rfl) : DE K O Wx X (.Compare a [.NotIn] [b] pos) (tOp (rIn K true) ta tb) (mBin O dNotIn ma mb) := de_cmp (op_notInG ha.hK) vop_notIn ha hb hm
theorem de_is (ha : DE K O Wx X a ta ma) (hb : DE K O Wx X b tb mb) : DE K O Wx X (.Compare a [.Is] [b] pos) (tOp rIsG ta tb) (mBin O dIs ma mb) := de_cmp op_isG vop_is ha hb (nomark _)
theorem de_notIs (ha : DE K O Wx X a ta ma) (hb : DE K O Wx X b tb mb) : DE K O Wx X (.Compare a [.IsNot] [b] pos) (tOp rNotIsG ta tb) (mBin O dNotIs ma mb) := de_cmp op_notIsG vop_notIs ha hb (nomark _)
/-- a comparison's value as a test -/
theorem dt_of {op : CmpOp} {r : R2} {f : D → D → Option D} (h : DE K O Wx X (.Compare a [op] [b] pos) (tOp r ta tb) (mBin O f ma mb)) (hp : PT X (.Compare a [op] [b] pos) (tTest (tOp r ta tb))) :
    DT K O Wx X (.Compare a [op] [b] pos) (tTest (tOp r ta tb)) (mTest O (mBin O f ma mb)) := ⟨h.hK, h.tk, hp, snd_test h.sn⟩
theorem dt_lt (ha : DE K O Wx X a ta ma) (hb : DE K O Wx X b tb mb) : DT K O Wx X (.Compare a [.Lt] [b] pos) (tTest (tOp (rI0 fun i j => .bl (decide (i < j))) ta tb)) (mTest O (mBin O dLt ma mb)) := dt_cmp op_lt vop_intB ha hb (nomark _)
theorem dt_le (ha : DE K O Wx X a ta ma) (hb : DE K O Wx X b tb mb) : DT K O Wx X (.Compare a [.LtE] [b] pos) (tTest (tOp (rI0 fun i j => .bl (decide (i ≤ j))) ta tb)) (mTest O (mBin O dLe ma mb)) := dt_cmp op_le vop_intB ha hb (nomark _)
theorem dt_gt (ha : DE K O Wx X a ta ma) (hb : DE K O Wx X b tb mb) : DT K O Wx X (.Compare a [.Gt] [b] pos) (tTest (tOp (rI0 fun i j => .bl (decide (j < i))) ta tb)) (mTest O (mBin O dGt ma mb)) := dt_cmp op_gt vop_intB ha hb (nomark _)
theorem dt_ge (ha : DE K O Wx X a ta ma) (hb : DE K O Wx X b tb mb) : DT K O Wx X (.Compare a [.GtE] [b] pos) (tTest (tOp (rI0 fun i j => .bl (decide (j ≤ i))) ta tb)) (mTest O (mBin O dGe ma mb)) := dt_cmp op_ge vop_intB ha hb (nomark _)
theorem dt_eq (hr : Room j X.A) (ha : DE K O Wx X a ta ma) (hb : DE K O Wx X b tb mb) : DT K O Wx X (.Compare a [.Eq] [b] pos) (tTest (tOp (rEqG K) ta tb)) (mTest O (mBin O dEq ma mb)) := dt_cmp (op_eqG ha.hK hr.units) vop_eq ha hb (nomark _)
theorem dt_ne (hr : Room j X.A) (ha : DE K O Wx X a ta ma) (hb : DE K O Wx X b tb mb) : DT K O Wx X (.Compare a [.NotEq] [b] pos) (tTest (tOp (rNeG K) ta tb)) (mTest O (mBin O dNe ma mb)) := dt_cmp (op_neG ha.hK hr.units) vop_ne ha hb (nomark _)
theorem dt_in (ha : DE K O Wx X a ta ma) (hb : DE K O Wx X b tb mb) (hm : behindInMarks .In b = false := by first | rfl | with_unfolding_all rfl) : DT K O Wx X (.Compare a [.In] [b] pos) (tTest (tOp (rIn K false) ta tb)) (mTest O (mBin O dIn ma mb)) := dt_cmp (op_inG ha.hK) vop_in ha hb hm
theorem dt_notIn (ha : DE K O Wx X a ta ma) (hb : DE K O Wx X b tb mb) (hm : behindInMarks .NotIn b = false := by first | rfl | with_unfolding_all rfl) : DT K O Wx X (.Compare a [.NotIn] [b] pos) (tTest (tOp (rIn K true) ta tb)) (mTest O (mBin O dNotIn ma mb)) := dt_cmp (op_notInG ha.hK) vop_notIn ha hb hm
theorem dt_is (ha : DE K O Wx X a ta ma) (hb : DE K O Wx X b tb mb) : DT K O Wx X (.Compare a [.Is] [b] pos) (tTest (tOp rIsG ta tb)) (mTest O (mBin O dIs ma mb)) := dt_cmp op_isG vop_is ha hb (nomark _)
theorem dt_notIs (ha : DE K O Wx X a ta ma) (hb : DE K O Wx X b tb mb) : DT K O Wx X (.Compare a [.IsNot] [b] pos) (tTest (tOp rNotIsG ta tb)) (mTest O (mBin O dNotIs ma mb)) := dt_cmp op_notIsG vop_notIs ha hb (nomark _)
end
/-! chains of two -/
section
variable {a b c : Expr} {ta tb tc : TE} {ma mb mc : ME O} {pos : Pos}
def mChain (O : Wo) (f g : D → D → Option D) (a b c : ME O) : ME O := fun ρ s => (a ρ s).bind fun x s1 => (b ρ s1).bind fun y s2 => (R.lift (f x y) s2).bind fun z s3 => match z with
  | .bl true => (c ρ s3).bind fun w s4 => R.lift (g y w) s4
  | .bl false => .ok (.bl false) s3
  | _ => .bad
theorem snd_chain {r r' : R2} {f g : D → D → Option D} (hv : VOp K r f) (hv' : VOp K r' g) (ha : SndE K O Wx ta ma) (hb : SndE K O Wx tb mb) (hc : SndE K O Wx tc mc) : SndE K O Wx (tChain r r' ta tb tc) (mChain O f g ma mb mc) := by
  intro σ ρ H0 G H s Q F h
  refine ha σ ρ H0 G H s _ F (pst_bind h fun dx s1 _ x G1 H1 t1 k1 r1 h1 => ?_)
  have F1 := F.tr t1 k1
  refine hb σ ρ H0 G1 H1 s1 _ F1 (pst_bind h1 fun dy s2 _ y G2 H2 t2 k2 r2 h2 => ?_)
  have F2 := F1.tr t2 k2
  cases e : f dx dy with
  | none => rw [e] at h2; exact (show False from h2).elim
  | some z =>
    rw [e] at h2
    refine hv G2 H2 x y dx dy z _ F2.gh (r1.mono t2.gg) r2 e fun v G3 H3 t3 r3 => ?_
    have F3 := F2.tr0 t3
    cases z with
    | bl k =>
      cases r3
      cases k with
      | true =>
        refine ⟨true, rfl, ?_⟩
        have h3 : Pst K O Wx σ G2 H2 (Rep K) ((mc ρ s2).bind fun w s4 => R.lift (g dy w) s4) Q := h2
        refine hc σ ρ H0 G3 H3 s2 _ F3 (pst_bind (h3.shift t3.up) fun dw s4 _ w' G4 H4 t4 k4 r4 h4 => ?_)
        have F4 := F3.tr t4 k4
        obtain ⟨d, e5, q5⟩ := pst_lift F4 h4
        exact hv' G4 H4 y w' dy dw d Q F4.gh ((r2.mono t3.gg).mono t4.gg) r4 e5 q5
      | false =>
        refine ⟨false, rfl, ?_⟩
        exact h2 (.bl false) G3 H3 t3.up F3.ok (.bl false)
    | _ => exact (show False from h2).elim
theorem de_chain {op op' : CmpOp} {r r' : R2} {f g : D → D → Option D} (ho : OpR X (compareOp op) r) (ho' : OpR X (compareOp op') r') (hv : VOp K r f) (hv' : VOp K r' g) (ha : DE K O Wx X a ta ma) (hb : DE K O Wx X b tb mb) (hc : DE K O Wx X c tc mc)
    (hm : lastMarks [op, op'] [b, c] = false := by with_unfolding_all rfl) : DE K O Wx X (.Compare a [op, op'] [b, c] pos) (tChain r r' ta tb tc) (mChain O f g ma mb mc) :=
  ⟨ha.hK, ha.tk, pe_chain ho ho' ha.pe hb.pe hc.pe hm, snd_chain hv hv' ha.sn hb.sn hc.sn⟩
theorem dt_chain {op op' : CmpOp} {r r' : R2} {f g : D → D → Option D} (ho : OpR X (compareOp op) r) (ho' : OpR X (compareOp op') r') (hv : VOp K r f) (hv' : VOp K r' g) (ha : DE K O Wx X a ta ma) (hb : DE K O Wx X b tb mb) (hc : DE K O Wx X c tc mc)
    (hm : lastMarks [op, op'] [b, c] = false := by with_unfolding_all rfl) : DT K O Wx X (.Compare a [op, op'] [b, c] pos) (tTest (tChain r r' ta tb tc)) (mTest O (mChain O f g ma mb mc)) :=
  ⟨ha.hK, ha.tk, pt_chain ho ho' ha.pe hb.pe hc.pe hm, snd_test (snd_chain hv hv' ha.sn hb.sn hc.sn)⟩
end
/-! ### subscripts, slices -/
def dIdx : D → D → Option D
  | .lst xs, .int i => atI xs i
  | .tup xs, .int i => atI xs i
  | .str z, .int i => if z.length ≤ 100000 then (atI z.cps.toList i).map fun c => .str ⟨#[c]⟩ else none
  | _, _ => none
theorem Reps.atI {G : Hp} {vs : List V} {ds : List D} {i : Int} {d : D} (r : Reps K G vs ds) (h : L2.atI ds i = some d) : ∃ v, L2.atI vs i = some v ∧ Rep K G v d := by
  unfold L2.atI at h ⊢
  rw [r.length]
  cases e : ixN ds.length i with
  | none => rw [e] at h; cases h
  | some j =>
    rw [e] at h
    exact r.get' h
theorem vop_idx : VOp K (rIx K) dIdx := by
  intro G H x y dx dy d Q g rx ry e q
  unfold dIdx at e
  split at e
  · cases ry
    cases rx with
    | lst hs r =>
      obtain ⟨v, h1, h2⟩ := r.atI e
      exact .inl ⟨_, _, _, v, rfl, rfl, g.seq hs, h1, q _ G H (.refl g) h2⟩
  · cases ry
    cases rx with
    | tup hs r =>
      obtain ⟨v, h1, h2⟩ := r.atI e
      exact .inr (.inl ⟨_, _, _, v, rfl, rfl, sq_t g hs, h1, q _ G H (.refl g) h2⟩)
  · split at e
    · rename_i hz
      rw [Option.map_eq_some_iff] at e
      obtain ⟨c, e, rfl⟩ := e
      cases rx; cases ry
      exact .inr (.inr ⟨_, _, c, rfl, rfl, sz5 hz, e, q _ G H (.refl g) (.str _)⟩)
    · cases e
  · cases e
theorem ix_G (hK : X.K = K) : IxR X (rIx K) := by subst hK; exact ix_seq
theorem de_idx {a b : Expr} {ta tb : TE} {ma mb : ME O} {pos : Pos} (ha : DE K O Wx X a ta ma) (hb : DE K O Wx X b tb mb) (hs : PlainIx b := by exact fun _ _ => rfl) : DE K O Wx X (.Subscript a b pos) (tOp (rIx K) ta tb) (mBin O dIdx ma mb) :=
  ⟨ha.hK, ha.tk, pe_ix (ix_G ha.hK) ha.pe hb.pe hs, snd_op vop_idx ha.sn hb.sn⟩
def cutD (xs : List D) (lo hi : Option Int) : List D := (xs.drop (HT.sIx xs.length 0 lo)).take (HT.sIx xs.length xs.length hi - HT.sIx xs.length 0 lo)
theorem Reps.cut {G : Hp} {vs : List V} {ds : List D} (r : Reps K G vs ds) (lo hi : Option Int) : Reps K G (cutV vs lo hi) (cutD ds lo hi) := by
  unfold cutV cutD
  rw [r.length]
  exact (r.drop _).take _
theorem Reps.cut_whole {G : Hp} {vs : List V} {ds : List D} (r : Reps K G vs ds) {lo hi : Option Int} (z : HT.sIx vs.length 0 lo = 0 ∧ HT.sIx vs.length vs.length hi = vs.length) : cutD ds lo hi = ds := by
  unfold cutD
  rw [← r.length, z.1, z.2, List.drop_zero, Nat.sub_zero, r.length, List.take_length]
def dCut : D → Option Int → Option Int → Option D
  | .lst xs, lo, hi => some (.lst (cutD xs lo hi))
  | .tup xs, lo, hi => some (.tup (cutD xs lo hi))
  | _, _, _ => none
abbrev MO (O : Wo) := Ev → O.S → R O.S (Option Int)
def SndO (K : PySem.W.Frag) (O : Wo) (Wx : WX) (t : TO) (m : MO O) : Prop := ∀ σ ρ H0 G H s Q, Fm K O H0 σ ρ G H s → Pst K O Wx σ G H (fun _ b c => b = c) (m ρ s) Q → t σ H Q
structure DO (K : PySem.W.Frag) (O : Wo) (Wx : WX) (X : Cx) (e : Option Expr) (t : TO) (m : MO O) : Prop where
  hK : X.K = K
  pe : PO X e t
  sn : SndO K O Wx t m
def mNoPart (O : Wo) : MO O := fun _ s => .ok none s
def mPart (O : Wo) (m : ME O) : MO O := fun ρ s => (m ρ s).bind fun x s1 => match x with
  | .int i => .ok (some i) s1
  | _ => .bad
theorem do_none (c : Cn K Wx X) : DO K O Wx X none tNoPart (mNoPart O) := ⟨c.hK, po_none, fun σ ρ H0 G H s Q F h => h none G H (.refl F.gh) F.ok rfl⟩
theorem do_some {e : Expr} {te : TE} {me : ME O} (he : DE K O Wx X e te me) : DO K O Wx X (some e) (tPart te) (mPart O me) := by
  refine ⟨he.hK, po_some he.pe, fun σ ρ H0 G H s Q F h => ?_⟩
  refine he.sn σ ρ H0 G H s _ F (pst_bind h fun dx s1 _ x G1 H1 t1 k1 r1 h1 => ?_)
  cases dx with
  | int i =>
    cases r1
    exact ⟨i, rfl, h1 (some i) G1 H1 (.refl t1.gh) k1 rfl⟩
  | _ => exact (show False from h1).elim
def rSlG (K : PySem.W.Frag) : V → Option Int → Option Int → Hp → VK → Prop := fun x lo hi H Q => rSlL K x lo hi H Q ∨ rSlA K x lo hi H Q
theorem sl_G (hK : X.K = K) : SlR X (rSlG K) := by subst hK; exact sl_list.or sl_tupA
def mSlice (O : Wo) (a : ME O) (l h : MO O) : ME O := fun ρ s => (a ρ s).bind fun x s1 => (l ρ s1).bind fun lo s2 => (h ρ s2).bind fun hi s3 => R.lift (dCut x lo hi) s3
theorem de_slice {e : Expr} {lo hi : Option Expr} {te : TE} {tl th : TO} {me : ME O} {ml mh : MO O} {p2 pos : Pos} (he : DE K O Wx X e te me) (hl : DO K O Wx X lo tl ml) (hh : DO K O Wx X hi th mh) :
    DE K O Wx X (.Subscript e (.Slice lo hi none p2) pos) (tSl (rSlG K) te tl th) (mSlice O me ml mh) := by
  refine ⟨he.hK, he.tk, pe_slice (sl_G he.hK) he.pe hl.pe hh.pe, fun σ ρ H0 G H s Q F h => ?_⟩
  refine he.sn σ ρ H0 G H s _ F (pst_bind h fun dx s1 _ x G1 H1 t1 k1 r1 h1 => ?_)
  have F1 := F.tr t1 k1
  refine hl.sn σ ρ H0 G1 H1 s1 _ F1 (pst_bind h1 fun l s2 _ l' G2 H2 t2 k2 r2 h2 => ?_)
  have F2 := F1.tr t2 k2
  subst r2
  refine hh.sn σ ρ H0 G2 H2 s2 _ F2 (pst_bind h2 fun u s3 _ u' G3 H3 t3 k3 r3 h3 => ?_)
  have F3 := F2.tr t3 k3
  subst r3
  obtain ⟨d, e4, q⟩ := pst_lift F3 h3
  have rx : Rep K G3 x dx := (r1.mono t2.gg).mono t3.gg
  unfold dCut at e4
  split at e4
  · cases e4
    cases rx with
    | lst hs r => exact .inl ⟨_, _, rfl, F3.gh.seq hs, fun p n => q _ _ _ (Tr0.new F3.gh n) (new_lst F3.gh n (r.cut _ _))⟩
  · cases e4
    cases rx with
    | tup hs r =>
      refine .inr ⟨_, _, rfl, sq_t F3.gh hs, fun z => ?_, fun z p n => q _ _ _ (Tr0.new F3.gh n) (new_tup F3.gh n (r.cut _ _))⟩
      rw [r.cut_whole z] at q
      exact q _ G3 H3 (.refl F3.gh) (.tup hs r)
  · cases e4
end
end Mr

namespace Mr
open PySem PySem.Spec PyProof.Rows L2
/-! ### statements -/
inductive RS (S : Type) where
  | nx (ρ : Ev) (s : S) | rt (d : D) (s : S) | rn (ds : List D) (s : S) | bk (ρ : Ev) (s : S) | ct (ρ : Ev) (s : S) | err (c : Addr) (fs : List (Str × D)) (ρ : Ev) (s : S) | bad
abbrev MS (O : Wo) := Ev → O.S → RS O.S
/-- a body's frame: what holds of it, and how it came from the def's entry (G0, H0) -/
structure Fs (K : PySem.W.Frag) (O : Wo) (G0 H0 : Hp) (σ : L2.St) (ρ : Ev) (G H : Hp) (s : O.S) : Prop where
  fm : Fm K O H0 σ ρ G H s
  tr : Tr O.W G0 H0 G H
def PstS (K : PySem.W.Frag) (O : Wo) (Wx : WX) (G0 H0 G : Hp) (r : RS O.S) (Dn : Ends) : Prop :=
  match r with
  | .nx ρ s => ∀ σ G' H', Same G G' → Fs K O G0 H0 σ ρ G' H' s → Dn.nx σ H'
  | .bk ρ s => ∀ σ G' H', Same G G' → Fs K O G0 H0 σ ρ G' H' s → Dn.bk σ H'
  | .ct ρ s => ∀ σ G' H', Same G G' → Fs K O G0 H0 σ ρ G' H' s → Dn.ct σ H'
  | .rt d s => ∀ v G' H', Same G G' → Tr O.W G0 H0 G' H' → O.ok s H' → Rep K G' v d → Dn.rt v H'
  | .rn ds s => ∀ p vs G' H', Same G G' → Tr O.W G0 H0 G' H' → O.ok s H' → H0 p = none → G' p = none → H' p = some (.lst vs) → Reps K G' vs ds → Dn.rt (.ref p) H'
  | .err c fs ρ s => ∀ σ dd xs G' H', Same G G' → Fs K O G0 H0 σ ρ G' H' s → H' dd = some (.xd xs) → ¬ O.W dd → RepF K G' xs fs → Wx (.ref c) (some dd) σ H'
  | .bad => False
def SndS (K : PySem.W.Frag) (O : Wo) (Wx : WX) (t : TS) (m : MS O) : Prop := ∀ G0 H0 σ ρ G H s Dn, Fs K O G0 H0 σ ρ G H s → PstS K O Wx G0 H0 G (m ρ s) Dn → t Dn σ H
structure DS (K : PySem.W.Frag) (O : Wo) (Wx : WX) (X : Cx) (e : Stmt) (t : TS) (m : MS O) : Prop where
  pe : PS X e t
  sn : SndS K O Wx t m
structure DB (K : PySem.W.Frag) (O : Wo) (Wx : WX) (X : Cx) (e : List Stmt) (t : TS) (m : MS O) : Prop where
  pe : PSs X e t
  sn : SndS K O Wx t m
/-- a body's context -/
structure Cs (K : PySem.W.Frag) (Wx : WX) (X : Cx) : Prop where
  cn : Cn K Wx X
  po : PassesOwn (model X.prog X.w) X.A X.env X.xe
  hc : X.calm = true
  nd : X.N.Nodup
section
variable {K : PySem.W.Frag} {O : Wo} {Wx : WX} {X : Cx} {G0 H0 G H G1 H1 : Hp} {σ : L2.St} {ρ : Ev} {s s1 : O.S}
theorem PstS.shift {r : RS O.S} {Dn : Ends} (e : Same G G1) (h : PstS K O Wx G0 H0 G r Dn) : PstS K O Wx G0 H0 G1 r Dn := by
  cases r with
  | nx ρ s => exact fun σ G' H' a b => h σ G' H' (e.trans a) b
  | bk ρ s => exact fun σ G' H' a b => h σ G' H' (e.trans a) b
  | ct ρ s => exact fun σ G' H' a b => h σ G' H' (e.trans a) b
  | rt d s => exact fun v G' H' a b => h v G' H' (e.trans a) b
  | rn ds s => exact fun p vs G' H' a b => h p vs G' H' (e.trans a) b
  | err c fs ρ s => exact fun σ dd xs G' H' a b => h σ dd xs G' H' (e.trans a) b
  | bad => exact h
theorem Fs.go (f : Fs K O G0 H0 σ ρ G H s) (t : Tr O.W G H G1 H1) (k : O.ok s1 H1) : Fs K O G0 H0 σ ρ G1 H1 s1 := ⟨f.fm.tr t k, f.tr.trans t⟩
/-- an expression's outcome becomes a statement's -/
def toS {S α : Type} (r : R S α) (ρ : Ev) (f : α → S → RS S) : RS S := match r with
  | .ok a s => f a s
  | .err c fs s => .err c fs ρ s
  | .bad => .bad
theorem pst_toS {α β : Type} {rel : Hp → β → α → Prop} {r : R O.S α} {f : α → O.S → RS O.S} {Dn : Ends} {Q1 : β → Hp → Prop} (F : Fs K O G0 H0 σ ρ G H s) (h : PstS K O Wx G0 H0 G (toS r ρ f) Dn)
    (k : ∀ a s1, r = .ok a s1 → ∀ v G1 H1, Tr O.W G H G1 H1 → O.ok s1 H1 → rel G1 v a → PstS K O Wx G0 H0 G1 (f a s1) Dn → Q1 v H1) : Pst K O Wx σ G H rel r Q1 := by
  cases r with
  | ok d s' => exact fun v G' H' t' ko q => k d s' rfl v G' H' t' ko q (PstS.shift t'.gg h)
  | err c fs s' => exact fun dd xs G' H' t' ko e n q => h σ dd xs G' H' t'.gg (F.go t' ko) e n q
  | bad => exact h
@[simp] theorem toS_ok {α : Type} (a : α) (s : O.S) (ρ : Ev) (f : α → O.S → RS O.S) : toS (R.ok a s) ρ f = f a s := rfl
@[simp] theorem toS_err {α : Type} (c : Addr) (fs : List (Str × D)) (s : O.S) (ρ : Ev) (f : α → O.S → RS O.S) : toS (R.err c fs s) ρ f = .err c fs ρ s := rfl
@[simp] theorem toS_bad {α : Type} (ρ : Ev) (f : α → O.S → RS O.S) : toS R.bad ρ f = .bad := rfl
/-! ### blocks -/
def mNext (O : Wo) : MS O := fun ρ s => .nx ρ s
def seqS {S : Type} (r : RS S) (k : Ev → S → RS S) : RS S := match r with
  | .nx ρ1 s1 => k ρ1 s1
  | r => r
def mSeq (O : Wo) (a b : MS O) : MS O := fun ρ s => seqS (a ρ s) b
theorem db_nil : DB K O Wx X [] tNext (mNext O) := ⟨pss_nil, fun G0 H0 σ ρ G H s Dn F h => h σ G H (Same.refl _) F⟩
theorem db_one {st : Stmt} {t : TS} {m : MS O} (h : DS K O Wx X st t m) : DB K O Wx X [st] t m := ⟨pss_one h.pe, h.sn⟩
theorem db_cons {st : Stmt} {rest : List Stmt} {t u : TS} {m n : MS O} (h1 : DS K O Wx X st t m) (h2 : DB K O Wx X rest u n) : DB K O Wx X (st :: rest) (tSeq t u) (mSeq O m n) := by
  refine ⟨pss_cons h1.pe h2.pe, fun G0 H0 σ ρ G H s Dn F h => ?_⟩
  refine h1.sn G0 H0 σ ρ G H s _ F ?_
  unfold mSeq seqS at h
  revert h
  cases m ρ s with
  | nx ρ1 s1 => exact fun h σ' G' H' e F' => h2.sn G0 H0 σ' ρ1 G' H' s1 Dn F' (h.shift e)
  | bk ρ s => exact fun h => h
  | ct ρ s => exact fun h => h
  | rt d s => exact fun h => h
  | rn ds s => exact fun h => h
  | err c fs ρ s => exact fun h => h
  | bad => exact fun h => h
/-! ### small statements -/
def mPass (O : Wo) : MS O := fun ρ s => .nx ρ s
def mBrk (O : Wo) : MS O := fun ρ s => .bk ρ s
def mCnt (O : Wo) : MS O := fun ρ s => .ct ρ s
theorem ds_pass {pos : Pos} : DS K O Wx X (.Pass pos) tNext (mPass O) := ⟨ps_pass, fun G0 H0 σ ρ G H s Dn F h => h σ G H (Same.refl _) F⟩
theorem ds_break {pos : Pos} : DS K O Wx X (.Break pos) tBreak (mBrk O) := ⟨ps_break, fun G0 H0 σ ρ G H s Dn F h => h σ G H (Same.refl _) F⟩
theorem ds_continue {pos : Pos} : DS K O Wx X (.Continue pos) tCont (mCnt O) := ⟨ps_continue, fun G0 H0 σ ρ G H s Dn F h => h σ G H (Same.refl _) F⟩
def mDrop (O : Wo) (m : ME O) : MS O := fun ρ s => toS (m ρ s) ρ fun _ s1 => .nx ρ s1
theorem ds_expr {e : Expr} {te : TE} {me : ME O} {pos : Pos} (he : DE K O Wx X e te me) (hs : swapsWith e none pos.line X.env = pure false := by rfl) : DS K O Wx X (.Expr e pos) (tDrop te) (mDrop O me) := by
  refine ⟨ps_expr he.pe hs, fun G0 H0 σ ρ G H s Dn F h => ?_⟩
  exact he.sn σ ρ H0 G H s _ F.fm (pst_toS F h fun d s1 _ v G1 H1 t1 k1 r1 h1 => h1 σ G1 H1 (Same.refl _) (F.go t1 k1))
def mRet (O : Wo) (m : ME O) : MS O := fun ρ s => toS (m ρ s) ρ fun d s1 => .rt d s1
def mRetN (O : Wo) : MS O := fun ρ s => .rt .non s
theorem ds_ret {e : Expr} {te : TE} {me : ME O} {pos : Pos} (he : DE K O Wx X e te me) : DS K O Wx X (.Return (some e) pos) (tRet te) (mRet O me) := by
  refine ⟨ps_ret he.pe, fun G0 H0 σ ρ G H s Dn F h => ?_⟩
  exact he.sn σ ρ H0 G H s _ F.fm (pst_toS F h fun d s1 _ v G1 H1 t1 k1 r1 h1 => h1 v G1 H1 (Same.refl _) (F.tr.trans t1) k1 r1)
theorem ds_retN {pos : Pos} : DS K O Wx X (.Return none pos) tRetN (mRetN O) := ⟨ps_retN, fun G0 H0 σ ρ G H s Dn F h => h .non G H (Same.refl _) F.tr F.fm.ok .non⟩
def mIfS (O : Wo) (c : MT O) (a b : MS O) : MS O := fun ρ s => toS (c ρ s) ρ fun x s1 => if x = true then a ρ s1 else b ρ s1
theorem ds_if {c : Expr} {a b : List Stmt} {tc : TT} {ta tb : TS} {mc : MT O} {ma mb : MS O} {pos : Pos} (hc : DT K O Wx X c tc mc) (ha : DB K O Wx X a ta ma) (hb : DB K O Wx X b tb mb) : DS K O Wx X (.If c a b pos) (tIfS tc ta tb) (mIfS O mc ma mb) := by
  refine ⟨ps_if hc.pe ha.pe hb.pe, fun G0 H0 σ ρ G H s Dn F h => ?_⟩
  refine hc.sn σ ρ H0 G H s _ F.fm (pst_toS F h fun d s1 _ v G1 H1 t1 k1 r1 h1 => ?_)
  subst r1
  cases v with
  | true => exact ha.sn G0 H0 σ ρ G1 H1 s1 Dn (F.go t1 k1) h1
  | false => exact hb.sn G0 H0 σ ρ G1 H1 s1 Dn (F.go t1 k1) h1
/-! ### targets -/
/-- a target: what it does to the slots; is: the slots that it sets -/
def SndG (K : PySem.W.Frag) (O : Wo) (g : TG) (f : D → Ev → Option Ev) (is : List Nat) : Prop := ∀ H0 σ ρ G H (s : O.S) v d ρ' Q, Fm K O H0 σ ρ G H s → Rep K G v d → f d ρ = some ρ' →
  (∀ σ', Fm K O H0 σ' ρ' G H s → (∀ vs, (∀ i ∈ is, i ∈ vs) → wipe σ' vs = wipe σ vs) → Q σ' H) → g v σ H Q
structure DG (K : PySem.W.Frag) (O : Wo) (X : Cx) (e : Expr) (g : TG) (f : D → Ev → Option Ev) (is : List Nat) : Prop where
  pe : PG X e g
  sn : SndG K O g f is
theorem wipe_set {σ : L2.St} {i : Nat} {o : Option V} : ∀ {vs : List Nat}, i ∈ vs → wipe (σ.set i o) vs = wipe σ vs
  | [], h => by cases h
  | v :: vs, h => by
    by_cases hv : i = v
    · subst hv
      unfold wipe
      by_cases hm : i ∈ vs
      · rw [wipe_set hm]
      · have key : ∀ (ws : List Nat), i ∉ ws → wipe (σ.set i o) ws = (wipe σ ws).set i o := by
          intro ws
          induction ws with
          | nil => intro _; rfl
          | cons w ws ih =>
            intro hw
            have h1 : i ≠ w := fun e => hw (by rw [e]; exact List.mem_cons_self)
            unfold wipe
            rw [ih fun e => hw (List.mem_cons_of_mem _ e), List.set_comm _ _ h1]
        rw [key vs hm, List.set_set]
    · have hm : i ∈ vs := by
        rcases List.mem_cons.mp h with e | e
        · exact absurd e hv
        · exact e
      unfold wipe
      rw [wipe_set hm]
def fName (i : Nat) : D → Ev → Option Ev := fun d ρ => some (ρ.set i (.sh d))
theorem dg_name (i : Nat) {x : Str} {pos : Pos} (hN : X.N.Nodup) (hi : X.N[i]? = some x := by rfl) (hx : Loc X.env.scope x := by first | exact Or.inl rfl | exact Or.inr rfl) (hf : X.fn x = true ∨ X.env.scope.names.lookup x = some .local := by first | exact .inl rfl | exact .inr rfl | assumption) :
    DG K O X (.Name x pos) (gName i) (fName i) [i] := by
  refine ⟨pg_name hN hi hx hf, fun H0 σ ρ G H s v d ρ' Q F r e q => ?_⟩
  cases e
  exact q _ (F.set r) fun vs hv => wipe_set (hv i (by simp))
def SndGs (K : PySem.W.Frag) (O : Wo) (g : TGs) (f : List D → Ev → Option Ev) (is : List Nat) : Prop := ∀ H0 σ ρ G H (s : O.S) v d ρ' Q, Fm K O H0 σ ρ G H s → Reps K G v d → f d ρ = some ρ' →
  (∀ σ', Fm K O H0 σ' ρ' G H s → (∀ vs, (∀ i ∈ is, i ∈ vs) → wipe σ' vs = wipe σ vs) → Q σ' H) → g v σ H Q
structure DGs (K : PySem.W.Frag) (O : Wo) (X : Cx) (e : List Expr) (g : TGs) (f : List D → Ev → Option Ev) (is : List Nat) : Prop where
  pe : PGs X e g
  sn : SndGs K O g f is
def fNil : List D → Ev → Option Ev
  | [], ρ => some ρ
  | _ :: _, _ => none
def fCons (f : D → Ev → Option Ev) (g : List D → Ev → Option Ev) : List D → Ev → Option Ev
  | [], _ => none
  | d :: ds, ρ => (f d ρ).bind fun ρ1 => g ds ρ1
theorem dgs_nil : DGs K O X [] gNil fNil [] := by
  refine ⟨pgs_nil, fun H0 σ ρ G H s v d ρ' Q F r e q => ?_⟩
  cases r with
  | nil => cases e; exact ⟨rfl, q σ F fun _ _ => rfl⟩
  | cons _ _ => cases e
theorem dgs_cons {e : Expr} {es : List Expr} {t : TG} {u : TGs} {f : D → Ev → Option Ev} {g : List D → Ev → Option Ev} {is js : List Nat} (h1 : DG K O X e t f is) (h2 : DGs K O X es u g js)
    (hs : (assignEach (e :: es) X.env).map (·.2) = assign e X.env :: (assignEach es X.env).map (·.2) := by rfl) : DGs K O X (e :: es) (gCons t u) (fCons f g) (is ++ js) := by
  refine ⟨pgs_cons h1.pe h2.pe hs, fun H0 σ ρ G H s v d ρ' Q F r e q => ?_⟩
  cases r with
  | nil => cases e
  | @cons v d vs ds r rr =>
    simp only [fCons, Option.bind_eq_some_iff] at e
    obtain ⟨ρ1, e1, e2⟩ := e
    refine ⟨v, vs, rfl, h1.sn H0 σ ρ G H s v d ρ1 _ F r e1 fun σ1 F1 w1 => ?_⟩
    exact h2.sn H0 σ1 ρ1 G H s vs ds ρ' _ F1 rr e2 fun σ2 F2 w2 => q σ2 F2 fun ws hw => by
      rw [w2 ws fun i hi => hw i (List.mem_append_right _ hi), w1 ws fun i hi => hw i (List.mem_append_left _ hi)]
def fTup (n : Nat) (g : List D → Ev → Option Ev) : D → Ev → Option Ev
  | .tup xs, ρ => if xs.length = n then g xs ρ else none
  | _, _ => none
theorem dg_tup {es : List Expr} {k : Nat} {t : TGs} {g : List D → Ev → Option Ev} {is : List Nat} {n : Nat} {pos : Pos} (hK : X.K = K) (hc : X.calm = true) (h : DGs K O X es t g is)
    (hn : (assignEach es X.env).length = n := by rfl) (hst : (assignEach es X.env).findIdx? (·.1) = none := by rfl) : DG K O X (.Tuple es k pos) (gTup K n t) (fTup n g) is := by
  subst hK
  refine ⟨pg_tup hc h.pe hn hst, fun H0 σ ρ G H s v d ρ' Q F r e q => ?_⟩
  cases r with
  | tup hs r =>
    simp only [fTup] at e
    split at e
    · rename_i hl
      exact ⟨_, _, rfl, sq_t F.gh hs, r.length.trans hl, h.sn H0 σ ρ G H s _ _ ρ' _ F r e q⟩
    · cases e
  | _ => cases e
def mAsg (O : Wo) (m : ME O) (f : D → Ev → Option Ev) : MS O := fun ρ s => toS (m ρ s) ρ fun d s1 => match f d ρ with
  | some ρ1 => .nx ρ1 s1
  | none => .bad
theorem snd_asg {te : TE} {me : ME O} {g : TG} {f : D → Ev → Option Ev} {is : List Nat} (he : SndE K O Wx te me) (hg : SndG K O g f is) : SndS K O Wx (tAsg te g) (mAsg O me f) := by
  intro G0 H0 σ ρ G H s Dn F h
  refine he σ ρ H0 G H s _ F.fm (pst_toS F h fun d s1 _ v G1 H1 t1 k1 r1 h1 => ?_)
  have F1 := F.go t1 k1
  cases e : f d ρ with
  | none => rw [e] at h1; exact (show False from h1).elim
  | some ρ1 =>
    rw [e] at h1
    exact hg H0 σ ρ G1 H1 s1 v d ρ1 _ F1.fm r1 e fun σ' F' _ => h1 σ' G1 H1 (Same.refl _) ⟨F', F1.tr⟩
theorem ds_set (i : Nat) {x : Str} {e : Expr} {te : TE} {me : ME O} {pos pos' : Pos} (hN : X.N.Nodup) (he : DE K O Wx X e te me) (hi : X.N[i]? = some x := by rfl) (hx : Loc X.env.scope x := by first | exact Or.inl rfl | exact Or.inr rfl) (hs : swapsWith e (some (.Name x pos')) pos.line X.env = pure false := by rfl)
    (hf : X.fn x = true ∨ X.env.scope.names.lookup x = some .local := by first | exact .inl rfl | exact .inr rfl | assumption) : DS K O Wx X (.Assign [.Name x pos'] e pos) (tAsg te (gName i)) (mAsg O me (fName i)) :=
  ⟨ps_set hN hi hx he.pe hs hf, snd_asg he.sn (dg_name (K := K) (O := O) (X := X) (pos := pos') i hN hi hx hf).sn⟩
theorem ds_asg {tg e : Expr} {te : TE} {me : ME O} {g : TG} {f : D → Ev → Option Ev} {is : List Nat} {pos : Pos} (he : DE K O Wx X e te me) (hg : DG K O X tg g f is) (hs : swapsWithSole [tg] e pos.line X.env = pure false := by rfl) (hw : swappedStores [tg] e X.env = pure none := by rfl)
    (h1 : (assignEach [tg] X.env).map (·.2) = [assign tg X.env] := by rfl) : DS K O Wx X (.Assign [tg] e pos) (tAsg te g) (mAsg O me f) := ⟨ps_asg he.pe hg.pe hs hw h1, snd_asg he.sn hg.sn⟩
/-- a, b = x, y -/
def mPar (O : Wo) (i j : Nat) (m : MA O) : MS O := fun ρ s => toS (m ρ s) ρ fun ds s1 => match ds with
  | [a, b] => .nx ((ρ.set i (.sh a)).set j (.sh b)) s1
  | _ => .bad
theorem ds_par (i j : Nat) {x y : Str} {a b : Expr} {ta : TA} {ma : MA O} {px py pt pos : Pos} {kt k2 pt2} (c : Cs K Wx X) (ha : DA K O Wx X [a, b] ta ma) (hi : X.N[i]? = some x := by rfl) (hj : X.N[j]? = some y := by rfl) (hij : i ≠ j := by decide)
    (hx : X.env.scope.names.lookup x = some .local := by rfl) (hy : X.env.scope.names.lookup y = some .local := by rfl)
    (hw : swappedStores [.Tuple [.Name x px, .Name y py] kt pt] (.Tuple [a, b] k2 pt2) X.env = pure (some [x, y]) := by rfl)
    (hs : swapsWithSole [.Tuple [.Name x px, .Name y py] kt pt] (.Tuple [a, b] k2 pt2) pos.line X.env = pure false := by rfl) :
    DS K O Wx X (.Assign [.Tuple [.Name x px, .Name y py] kt pt] (.Tuple [a, b] k2 pt2) pos) (tPar i j ta) (mPar O i j ma) := by
  refine ⟨ps_par c.hc c.nd hi hj hij hx hy ha.pe hw hs, fun G0 H0 σ ρ G H s Dn F h => ?_⟩
  refine ha.sn σ ρ H0 G H s _ F.fm (pst_toS F h fun ds s1 _ v G1 H1 t1 k1 r1 h1 => ?_)
  have F1 := F.go t1 k1
  cases r1 with
  | nil => exact (show False from h1).elim
  | cons r1 r2 =>
    cases r2 with
    | nil => exact (show False from h1).elim
    | cons r2 r3 =>
      cases r3 with
      | nil => exact ⟨_, _, rfl, h1 _ G1 H1 (Same.refl _) ⟨(F1.fm.set r1).set r2, F1.tr⟩⟩
      | cons _ _ => exact (show False from h1).elim
/-- name op= e -/
def VIp (K : PySem.W.Frag) (r : TIp) (f : D → D → Option D) : Prop := VOp K r f
def mAug (O : Wo) (i : Nat) (f : D → D → Option D) (m : ME O) : MS O := fun ρ s => match ρ[i]? with
  | some (.sh x) => toS (m ρ s) ρ fun y s1 => match f x y with
    | some z => .nx (ρ.set i (.sh z)) s1
    | none => .bad
  | _ => .bad
theorem ds_aug (i : Nat) {x : Str} {e : Expr} {te : TE} {me : ME O} {op : Operator} {ti : TIp} {f : D → D → Option D} {pos pos' : Pos} (hN : X.N.Nodup) (ho : PIp X op ti) (hv : VOp K ti f) (he : DE K O Wx X e te me) (hi : X.N[i]? = some x := by rfl) (hx : Loc X.env.scope x := by first | exact Or.inl rfl | exact Or.inr rfl)
    (hf : X.fn x = true ∨ X.env.scope.names.lookup x = some .local := by first | exact .inl rfl | exact .inr rfl | assumption) : DS K O Wx X (.AugAssign (.Name x pos') op e pos) (tAug i te ti) (mAug O i f me) := by
  refine ⟨ps_aug hN hi hx he.pe ho hf, fun G0 H0 σ ρ G H s Dn F h => ?_⟩
  unfold mAug at h
  split at h
  · rename_i dx e1
    obtain ⟨v, ev, r⟩ := F.fm.get e1
    refine ⟨v, ev, he.sn σ ρ H0 G H s _ F.fm (pst_toS F h fun d s1 _ y G1 H1 t1 k1 r1 h1 => ?_)⟩
    have F1 := F.go t1 k1
    cases e2 : f dx d with
    | none => rw [e2] at h1; exact (show False from h1).elim
    | some z =>
      rw [e2] at h1
      refine hv G1 H1 v y dx d z _ F1.fm.gh (r.mono t1.gg) r1 e2 fun w G2 H2 t2 r2 => ?_
      have F2 := F1.go t2.up (F1.fm.keepW t2)
      exact h1 _ G2 H2 t2.gg ⟨F2.fm.set r2, F2.tr⟩
  · exact h.elim
/-! ### what is walked -/
/-- the iterator J gives the items, one by one -/
def ItOk (K : PySem.W.Frag) (J : It) (G : Hp) (items : List D) : Prop := ∀ G1 H, Same G G1 → Same G1 H → ∀ i : Nat,
  (∀ d, items[i]? = some d → J.go i H ∧ ∀ x H', J.yld i H x H' → ∃ G2, Tr0 G1 H G2 H' ∧ Rep K G2 x d) ∧ (items.length ≤ i → J.stop i H)
abbrev MI (O : Wo) := Ev → O.S → R O.S (List D)
def SndI (K : PySem.W.Frag) (O : Wo) (Wx : WX) (w : TI) (m : MI O) : Prop := ∀ σ ρ H0 G H s Q, Fm K O H0 σ ρ G H s → Pst K O Wx σ G H (fun G' J items => ItOk K J G' items) (m ρ s) Q → w σ H Q
structure DI (K : PySem.W.Frag) (O : Wo) (Wx : WX) (X : Cx) (tg e : Expr) (w : TI) (m : MI O) : Prop where
  pe : PI X tg e w
  sn : SndI K O Wx w m
theorem it_list {a : Addr} {vs : List V} {ds : List D} (hs : SqL K G a vs) (r : Reps K G vs ds) : ItOk K (Itl K a) G ds := fun G1 H e1 e2 i => by
  have h1 : SqL K H a vs := e2.seq (e1.seq hs)
  refine ⟨fun d hd => ?_, fun hl => ⟨vs, h1, by rw [r.length]; exact hl⟩⟩
  obtain ⟨v, hv, rv⟩ := r.get' hd
  refine ⟨⟨vs, v, h1, hv⟩, fun x H' y => ?_⟩
  obtain ⟨e, y⟩ := y
  subst e
  have := y vs h1
  rw [hv] at this
  cases this
  exact ⟨G1, .refl e2, rv.mono e1⟩
theorem it_tup {a : Addr} {vs : List V} {ds : List D} (hs : SqT K G a vs) (r : Reps K G vs ds) : ItOk K (Itt K a) G ds := fun G1 H e1 e2 i => by
  have h1 : SqT K H a vs := sq_t e2 (sq_t e1 hs)
  refine ⟨fun d hd => ?_, fun hl => ⟨vs, h1, by rw [r.length]; exact hl⟩⟩
  obtain ⟨v, hv, rv⟩ := r.get' hd
  refine ⟨⟨vs, v, h1, hv⟩, fun x H' y => ?_⟩
  obtain ⟨e, y⟩ := y
  subst e
  have := y vs h1
  rw [hv] at this
  cases this
  exact ⟨G1, .refl e2, rv.mono e1⟩
/-- the ints lo, lo + 1, .., n of them -/
def rangeD (lo : Int) (n : Nat) : List D := (List.range n).map fun (i : Nat) => .int (lo + (i : Int))
theorem it_range {lo : Int} {n : Nat} : ItOk K (Itr lo n) G (rangeD lo n) := fun G1 H e1 e2 i => by
  unfold rangeD
  refine ⟨fun d hd => ?_, fun hl => show n ≤ i by simpa using hl⟩
  rw [List.getElem?_map, Option.map_eq_some_iff] at hd
  obtain ⟨j, hj, rfl⟩ := hd
  obtain ⟨h1, h2⟩ := List.getElem?_eq_some_iff.mp hj
  rw [List.length_range] at h1
  rw [List.getElem_range] at h2
  subst h2
  refine ⟨h1, fun x H' y => ?_⟩
  obtain ⟨e, y⟩ := y
  subst e y
  exact ⟨G1, .refl e2, .int _⟩
def asList : D → Option (List D)
  | .lst xs => some xs
  | _ => none
def asTup : D → Option (List D)
  | .tup xs => some xs
  | _ => none
def mItL (O : Wo) (m : ME O) : MI O := fun ρ s => (m ρ s).bind fun x s1 => R.lift (asList x) s1
def mItT (O : Wo) (m : ME O) : MI O := fun ρ s => (m ρ s).bind fun x s1 => R.lift (asTup x) s1
theorem di_list {tg e : Expr} {te : TE} {me : ME O} (he : DE K O Wx X e te me) : DI K O Wx X tg e (iList K te) (mItL O me) := by
  refine ⟨by have := he.hK; subst this; exact pi_list he.pe, fun σ ρ H0 G H s Q F h => ?_⟩
  refine he.sn σ ρ H0 G H s _ F (pst_bind h fun dx s1 _ x G1 H1 t1 k1 r1 h1 => ?_)
  cases r1 with
  | lst hs r => exact ⟨_, rfl, ⟨_, t1.gh.seq hs⟩, h1 _ G1 H1 (.refl t1.gh) k1 (it_list hs r)⟩
  | _ => exact (show False from h1).elim
theorem di_tup {tg e : Expr} {te : TE} {me : ME O} (he : DE K O Wx X e te me) : DI K O Wx X tg e (iTup K te) (mItT O me) := by
  refine ⟨by have := he.hK; subst this; exact pi_tup he.pe, fun σ ρ H0 G H s Q F h => ?_⟩
  refine he.sn σ ρ H0 G H s _ F (pst_bind h fun dx s1 _ x G1 H1 t1 k1 r1 h1 => ?_)
  cases r1 with
  | tup hs r => exact ⟨_, rfl, ⟨_, sq_t t1.gh hs⟩, h1 _ G1 H1 (.refl t1.gh) k1 (it_tup hs r)⟩
  | _ => exact (show False from h1).elim
def mRng1 (O : Wo) (m : MA O) : MI O := fun ρ s => (m ρ s).bind fun xs s1 => match xs with
  | [.int j] => if j ≤ 100000 ∧ -100000 ≤ j then .ok (rangeD 0 j.toNat) s1 else .bad
  | _ => .bad
def mRng2 (O : Wo) (m : MA O) : MI O := fun ρ s => (m ρ s).bind fun xs s1 => match xs with
  | [.int i, .int j] => if (j ≤ 100000 ∧ -100000 ≤ j) ∧ i ≤ 100000 ∧ -100000 ≤ i then .ok (rangeD i (j - i).toNat) s1 else .bad
  | _ => .bad
theorem di_range1 {tg a : Expr} {ta : TA} {ma : MA O} {p pos : Pos} (hm : X.mg "range" = none) (ha : DA K O Wx X [a] ta ma) (hg : Gl X "range" := by rfl) (hs : starEach [a] X.env = [(false, eval a X.env)] := by rfl) : DI K O Wx X tg (.Call (.Name "range" p) [a] [] pos) (iRng1 ta) (mRng1 O ma) := by
  refine ⟨pi_range1 hg hm ha.pe hs, fun σ ρ H0 G H s Q F h => ?_⟩
  refine ha.sn σ ρ H0 G H s _ F (pst_bind h fun ds s1 _ x G1 H1 t1 k1 r1 h1 => ?_)
  split at h1
  · rename_i j
    cases r1 with
    | cons r1 r2 =>
      cases r2
      cases r1
      split at h1
      · rename_i hj
        exact ⟨_, rfl, by omega, by omega, h1 _ G1 H1 (.refl t1.gh) k1 it_range⟩
      · exact (show False from h1).elim
  · exact (show False from h1).elim
theorem di_range2 {tg a b : Expr} {ta : TA} {ma : MA O} {p pos : Pos} (hm : X.mg "range" = none) (ha : DA K O Wx X [a, b] ta ma) (hg : Gl X "range" := by rfl) (hs : starEach [a, b] X.env = [(false, eval a X.env), (false, eval b X.env)] := by rfl) (hs2 : starEach [b] X.env = [(false, eval b X.env)] := by rfl) :
    DI K O Wx X tg (.Call (.Name "range" p) [a, b] [] pos) (iRng2 ta) (mRng2 O ma) := by
  refine ⟨pi_range2 hg hm ha.pe hs hs2, fun σ ρ H0 G H s Q F h => ?_⟩
  refine ha.sn σ ρ H0 G H s _ F (pst_bind h fun ds s1 _ x G1 H1 t1 k1 r1 h1 => ?_)
  split at h1
  · rename_i i j
    cases r1 with
    | cons r1 r2 =>
      cases r2 with
      | cons r2 r3 =>
        cases r3
        cases r1
        cases r2
        split at h1
        · rename_i hj
          exact ⟨_, _, rfl, ⟨by omega, by omega, by omega, by omega⟩, h1 _ G1 H1 (.refl t1.gh) k1 it_range⟩
        · exact (show False from h1).elim
  · exact (show False from h1).elim
/-! ### for -/
def forL (S : Type) (f : D → Ev → Option Ev) (mb : Ev → S → RS S) : List D → Ev → S → RS S
  | [], ρ, s => .nx ρ s
  | d :: ds, ρ, s => match f d ρ with
    | none => .bad
    | some ρ1 => match mb ρ1 s with
      | .nx ρ2 s2 => forL S f mb ds ρ2 s2
      | .ct ρ2 s2 => forL S f mb ds ρ2 s2
      | .bk ρ2 s2 => .nx ρ2 s2
      | r => r
def mFor (O : Wo) (mi : MI O) (f : D → Ev → Option Ev) (mb : MS O) : MS O := fun ρ s => toS (mi ρ s) ρ fun items s1 => forL O.S f mb items ρ s1
theorem ds_for {tg iter : Expr} {body : List Stmt} {wi : TI} {g : TG} {tb : TS} {mi : MI O} {f : D → Ev → Option Ev} {is : List Nat} {mb : MS O} {pos : Pos} (c : Cs K Wx X) (hi : DI K O Wx X tg iter wi mi) (hg : DG K O X tg g f is) (hb : DB K O Wx X body tb mb)
    (hs : ∀ x, foldedSetIterable iter X.env x = pure x := by intro _; rfl) : DS K O Wx X (.For tg iter body [] pos) (tFor wi g tb) (mFor O mi f mb) := by
  refine ⟨ps_for c.po c.hc hi.pe hg.pe hb.pe hs, fun G0 H0 σ ρ G H s Dn F h => ?_⟩
  refine hi.sn σ ρ H0 G H s _ F.fm (pst_toS F h fun items s1 _ J G1 H1 t1 k1 ok h1 => ?_)
  refine ⟨fun i m σ' H' => ∃ ρ' G' s', m = (items.drop i).length ∧ Same G1 G' ∧ Fs K O G0 H0 σ' ρ' G' H' s' ∧ PstS K O Wx G0 H0 G' (forL O.S f mb (items.drop i) ρ' s') Dn, ⟨items.length, ρ, G1, s1, by simp, Same.refl _, F.go t1 k1, by simpa using h1⟩, ?_⟩
  rintro i m σ' H' ⟨ρ', G', s', rfl, e1, F', h'⟩
  obtain ⟨ok1, ok2⟩ := ok G' H' e1 F'.fm.gh i
  cases hd : items.drop i with
  | nil =>
    rw [hd] at h'
    exact .inl ⟨ok2 (by simpa using hd), h' σ' G' H' (Same.refl _) F'⟩
  | cons d ds =>
    have hlt : i < items.length := by
      by_cases z : i < items.length
      · exact z
      · rw [List.drop_eq_nil_of_le (by omega)] at hd; cases hd
    have hi? : items[i]? = some d := by
      have := List.drop_eq_getElem_cons hlt
      rw [hd] at this
      injection this with a b
      rw [List.getElem?_eq_getElem hlt, a]
    have hds : items.drop (i + 1) = ds := by
      have := List.drop_eq_getElem_cons hlt
      rw [hd] at this
      injection this with a b
      exact b.symm
    obtain ⟨go, yl⟩ := ok1 d hi?
    rw [hd] at h'
    refine .inr ⟨go, fun σ2 H2 => ∃ ρ2 G2 s2, Same G1 G2 ∧ Fs K O G0 H0 σ2 ρ2 G2 H2 s2 ∧ PstS K O Wx G0 H0 G2 (forL O.S f mb ds ρ2 s2) Dn, ?_, fun x H2 y => ?_⟩
    · rintro σ2 H2 ⟨ρ2, G2, s2, a1, a2, a3⟩
      exact ⟨ds.length, by simp, ρ2, G2, s2, by rw [hds], a1, a2, by rw [hds]; exact a3⟩
    · obtain ⟨G2, t2, r2⟩ := yl x H2 y
      have F2 := F'.go t2.up (F'.fm.keepW t2)
      unfold forL at h'
      cases ef : f d ρ' with
      | none => rw [ef] at h'; exact (show False from h').elim
      | some ρ1 =>
        rw [ef] at h'
        refine hg.sn H0 σ' ρ' G2 H2 s' x d ρ1 _ F2.fm r2 ef fun σ3 F3 _ => ?_
        refine hb.sn G0 H0 σ3 ρ1 G2 H2 s' _ ⟨F3, F2.tr⟩ ?_
        have h2 := PstS.shift t2.gg h'
        revert h2
        dsimp only
        cases mb ρ1 s' with
        | nx ρ2 s2 => exact fun h2 σ4 G4 H4 a b => ⟨ρ2, G4, s2, (e1.trans t2.gg).trans a, b, h2.shift a⟩
        | ct ρ2 s2 => exact fun h2 σ4 G4 H4 a b => ⟨ρ2, G4, s2, (e1.trans t2.gg).trans a, b, h2.shift a⟩
        | bk ρ2 s2 => exact fun h2 => h2
        | rt d s => exact fun h2 => h2
        | rn ds s => exact fun h2 => h2
        | err c fs ρ s => exact fun h2 => h2
        | bad => exact fun h2 => h2
/-! ### while, with as many turns as fu says -/
def whileL (S : Type) (mc : Ev → S → R S Bool) (mb : Ev → S → RS S) : Nat → Ev → S → RS S
  | 0, _, _ => .bad
  | n + 1, ρ, s => toS (mc ρ s) ρ fun b s1 => if b = true then match mb ρ s1 with
      | .nx ρ2 s2 => whileL S mc mb n ρ2 s2
      | .ct ρ2 s2 => whileL S mc mb n ρ2 s2
      | .bk ρ2 s2 => .nx ρ2 s2
      | r => r
    else .nx ρ s1
def mWhile (O : Wo) (fu : Ev → O.S → Nat) (mc : MT O) (mb : MS O) : MS O := fun ρ s => whileL O.S mc mb (fu ρ s) ρ s
theorem ds_while (fu : Ev → O.S → Nat) {cnd : Expr} {body : List Stmt} {tc : TT} {tb : TS} {mc : MT O} {mb : MS O} {pos : Pos} (c : Cs K Wx X) (hc : DT K O Wx X cnd tc mc) (hb : DB K O Wx X body tb mb) : DS K O Wx X (.While cnd body [] pos) (tWhile tc tb) (mWhile O fu mc mb) := by
  refine ⟨ps_while c.po hc.pe hb.pe, fun G0 H0 σ ρ G H s Dn F h => ?_⟩
  refine ⟨fun m σ' H' => ∃ ρ' G' s', Fs K O G0 H0 σ' ρ' G' H' s' ∧ PstS K O Wx G0 H0 G' (whileL O.S mc mb m ρ' s') Dn, ⟨fu ρ s, ρ, G, s, F, h⟩, ?_⟩
  rintro m σ' H' ⟨ρ', G', s', F', h'⟩
  cases m with
  | zero => exact (show False from h').elim
  | succ n =>
    unfold whileL at h'
    refine hc.sn σ' ρ' H0 G' H' s' _ F'.fm (pst_toS F' h' fun b s1 _ v G1 H1 t1 k1 r1 h1 => ?_)
    subst r1
    have F1 := F'.go t1 k1
    cases v with
    | false => exact h1 σ' G1 H1 (Same.refl _) F1
    | true =>
      refine ⟨fun σ2 H2 => ∃ ρ2 G2 s2, Fs K O G0 H0 σ2 ρ2 G2 H2 s2 ∧ PstS K O Wx G0 H0 G2 (whileL O.S mc mb n ρ2 s2) Dn, ?_, ?_⟩
      · rintro σ2 H2 ⟨ρ2, G2, s2, a2, a3⟩
        exact ⟨n, by omega, ρ2, G2, s2, a2, a3⟩
      · refine hb.sn G0 H0 σ' ρ' G1 H1 s1 _ F1 ?_
        revert h1
        simp only [if_true]
        cases mb ρ' s1 with
        | nx ρ2 s2 => exact fun h2 σ4 G4 H4 a b => ⟨ρ2, G4, s2, b, h2.shift a⟩
        | ct ρ2 s2 => exact fun h2 σ4 G4 H4 a b => ⟨ρ2, G4, s2, b, h2.shift a⟩
        | bk ρ2 s2 => exact fun h2 => h2
        | rt d s => exact fun h2 => h2
        | rn ds s => exact fun h2 => h2
        | err c fs ρ s => exact fun h2 => h2
        | bad => exact fun h2 => h2
end
/-! ### a def -/
def runF (O : Wo) (n : Nat) (m : MS O) : List D → O.S → R O.S D := fun ds s => match m (ds.map .sh ++ List.replicate (n - ds.length) .no) s with
  | .nx _ s1 => .ok .non s1
  | .rt d s1 => .ok d s1
  | .rn ds s1 => .ok (.lst ds) s1
  | .err c fs _ s1 => .err c fs s1
  | _ => .bad
/-- what was kept apart never changes any more -/
theorem Tr.frz {W : Addr → Prop} {G H G' H' : Hp} {p : Addr} {o : HO} (t : Tr W G H G' H') (n : H p = none) (g : G' p = none) (h : H' p = some o) : Tr W G H (upd G' p o) H' := by
  refine ⟨fun b u e => ?_, fun b u e => ?_, fun b u e => ?_, t.kp, t.dm⟩
  · rw [upd_ne (ne_of_none (t.gg b u e) g)]; exact t.gg b u e
  · by_cases hb : b = p
    · subst hb; rw [upd_same] at e; rw [h]; exact e
    · rw [upd_ne hb] at e; exact t.gh b u e
  · by_cases hb : b = p
    · subst hb; exact .inr n
    · rw [upd_ne hb] at e; exact t.gr b u e
theorem frz_rep {K : PySem.W.Frag} {G : Hp} {p : Addr} {vs : List V} {ds : List D} (g : G p = none) (r : Reps K G vs ds) : Rep K (upd G p (.lst vs)) (.ref p) (.lst ds) :=
  .lst (.inl (.inl upd_same)) (r.mono fun b u eb => by rw [upd_ne (ne_of_none eb g)]; exact eb)
section
variable {P : Program} {w : World} {K : PySem.W.Frag} {mg : Str → Option Value} {base : Heap} {O : Wo}
theorem start_fm {H0 G H : Hp} {s : O.S} (g : Same G H) (wg : ∀ a, O.W a → G a = none) (ok : O.ok s H) {n : Nat} {N : List Str} (hn : N.length = n) : ∀ {vs : List V} {ds : List D}, Reps K G vs ds → Fm K O H0 (L2.start N vs) (ds.map .sh ++ List.replicate (n - ds.length) .no) G H s := by
  intro vs ds r
  subst hn
  have hl := r.length
  refine ⟨g, wg, ok, by simp [L2.start, hl], fun i o x a b => ?_, fun i j p x y hij a b c => ?_⟩
  · unfold L2.start at a
    by_cases hi : i < vs.length
    · rw [List.getElem?_append_left (by simpa using hi), List.getElem?_map] at a
      rw [List.getElem?_append_left (by rw [List.length_map, ← hl]; exact hi), List.getElem?_map] at b
      rw [Option.map_eq_some_iff] at a b
      obtain ⟨v, ha, rfl⟩ := a
      obtain ⟨d, hb, rfl⟩ := b
      obtain ⟨d', h1, h2⟩ := r.get ha
      rw [hb] at h1
      cases h1
      exact ⟨v, rfl, h2⟩
    · rw [List.getElem?_append_right (by rw [List.length_map, ← hl]; omega)] at b
      have := List.mem_of_getElem? b
      rw [List.mem_replicate] at this
      rw [this.2]
      trivial
  · have hx : isOwn x = false := by
      have := List.mem_of_getElem? a
      rw [List.mem_append] at this
      rcases this with q | q
      · rw [List.mem_map] at q
        obtain ⟨d, _, rfl⟩ := q
        rfl
      · rw [List.mem_replicate] at q
        rw [q.2]
        rfl
    rw [hx] at c
    cases c
theorem fo_mk {x qual : Str} {st : Stmt} {f : Addr} {fd : FuncData} {N ps : List Str} {k : Nat} {m : MS O} (F : Fun K x qual st f fd) (S : FnScope N ps (defScope st)) (hg : mg x = some (.ref f)) (hb : Binds K fd ps [])
    (hbody : ∀ (cdv : Value) (A : Around) (outer : List Env) (s : Shared) (H : Hp) (E : XK), Room k (A.deeper (envOfC qual (defScope st) s.heap.objs.size f cdv)) →
      Cs K (fun cls d _ H => E cls d H) (cxOf (L2.CX P w) P w K mg base N qual (defScope st) f cdv A outer s H E) →
      ∃ t, DB K O (fun cls d _ H => E cls d H) (cxOf (L2.CX P w) P w K mg base N qual (defScope st) f cdv A outer s H E) (defBody st) t m) : Fo P w K mg base O (k + 1) x ps.length (runF O N.length m) := by
  refine ⟨f, fd, ps, F.okX S (fun vs H Q E h => h.1) (fun cdv A outer s H vs Q E hr h => ?_), hg, F.kp, hb⟩
  obtain ⟨hl, G, ds, s0, g, wg, ok, r, q⟩ := h
  have tk : Takes (cxOf (L2.CX P w) P w K mg base N qual (defScope st) f cdv A outer s H E) (fun cls d _ H => E cls d H) := takes_of rfl rfl rfl rfl
  obtain ⟨t, hd⟩ := hbody cdv A outer s H E hr ⟨⟨rfl, tk⟩, passes_of rfl, rfl, S.nd⟩
  refine ⟨t, hd.pe, hd.sn G H _ _ G H s0 _ ⟨start_fm g wg ok rfl r, .refl g⟩ ?_⟩
  unfold runF at q
  revert q
  cases m (ds.map .sh ++ List.replicate (N.length - ds.length) .no) s0 with
  | nx ρ s1 => exact fun q σ' G' H' e F' => q .non G' H' F'.tr F'.fm.ok .non
  | rt d s1 => exact fun q v G' H' e t' k' r' => q v G' H' t' k' r'
  | rn ds s1 => exact fun q p vs G' H' e t' k' n g hp r' => q (.ref p) _ H' (t'.frz n g hp) k' (frz_rep g r')
  | err c fs ρ s1 => exact fun q σ' dd xs G' H' e F' a b c' => q dd xs G' H' F'.tr F'.fm.ok a b c'
  | bk ρ s1 => exact fun q => q.elim
  | ct ρ s1 => exact fun q => q.elim
  | bad => exact fun q => q.elim
theorem Fo.imp {k n : Nat} {x : Str} {m m' : List D → O.S → R O.S D} (F : Fo P w K mg base O k x n m) (h : ∀ ds s, ds.length = n → m' ds s = .bad ∨ m ds s = m' ds s) : Fo P w K mg base O k x n m' := by
  obtain ⟨f, fd, ps, Fn, hm, kp, bi⟩ := F.ex
  refine ⟨f, fd, ps, Fn.imp fun vs H Q E q => ?_, hm, kp, bi⟩
  obtain ⟨hl, G, ds, s0, g, wg, ok, r, q⟩ := q
  refine ⟨hl, G, ds, s0, g, wg, ok, r, ?_⟩
  rcases h ds s0 (r.length.symm.trans hl) with e | e
  · rw [e] at q; exact q.elim
  · rw [e]; exact q
theorem Fo.mono {k j n : Nat} {x : Str} {m : List D → O.S → R O.S D} (F : Fo P w K mg base O k x n m) (h : k ≤ j) : Fo P w K mg base O j x n m := by
  obtain ⟨f, fd, ps, Fn, hm, kp, bi⟩ := F.ex
  exact ⟨f, fd, ps, Fn.mono h, hm, kp, bi⟩
end
end Mr

namespace Mr
open PySem PySem.Spec PyProof.Rows L2 RZ
/-! ### zip of any number of lists and tuples -/
structure Sr where
  k : Bool
  it : Addr
  l : Addr
def It01 (k : Bool) (h : Heap) (it l : Addr) (i : Nat) : Prop := match k with
  | true => h.IsListIter it l i
  | false => h.IsTupleIter it l i
def Sq01 (k : Bool) (h : Heap) (l : Addr) (xs : Array Value) : Prop := match k with
  | true => h.IsList l xs
  | false => h.IsTuple l xs
theorem It01.at {k : Bool} {h h' : Heap} {it l : Addr} {i : Nat} (x : It01 k h it l i) (e : ∀ o, h.get? it = some o → h'.get? it = some o) : It01 k h' it l i := by
  cases k
  · exact Heap.IsTupleIter.at x e
  · exact Heap.IsListIter.at x e
theorem It01.obj {k : Bool} {h : Heap} {it l : Addr} {i : Nat} (x : It01 k h it l i) : ∃ o, h.get? it = some o ∧ o.data = .fields #[.ref l, .int i 0] := by
  cases k <;> exact let ⟨o, e, _, d⟩ := x; ⟨o, e, d⟩
theorem Sq01.at {k : Bool} {h h' : Heap} {l : Addr} {xs : Array Value} (x : Sq01 k h l xs) (e : ∀ o, h.get? l = some o → h'.get? l = some o) : Sq01 k h' l xs := by
  cases k <;> exact let ⟨o, ho, r⟩ := x; ⟨o, e o ho, r⟩
def itO (k : Bool) (l : Addr) : Obj := match k with
  | true => { cls := .type "list_iterator", data := .fields #[.ref l, .int 0 0] }
  | false => { cls := .type "tuple_iterator", data := .fields #[.ref l, .int 0 0] }
abbrev tupO (xs : Array Value) : Obj := { cls := .type "tuple", data := .seq xs }
section
variable {prog : Program} {w : World} {A : Around} {E : Value → Shared → Prop} {s : Shared}
theorem next01_item {k : Bool} {it l : Addr} {i : Nat} {items : Array Value} {x : Value} {Q : Value → Shared → Prop} (hit : It01 k s.heap it l i)
    (hl : Sq01 k s.heap l items) (hx : items[i]? = some x) (hQ : ∀ h', It01 k h' it l (i + 1) → Heap.SameBut it s.heap h' → Q x { s with heap := h' }) :
    wpAny (model prog w) A (Builtin.SmallTypes.nextOf (.ref it)) Q E s := by
  cases k
  · exact nextOf_tuple_item hit hl hx hQ
  · exact wpAny_nextOf_list_item hit hl hx hQ
theorem next01_end {k : Bool} {it l : Addr} {i : Nat} {items : Array Value} {Q : Value → Shared → Prop} (hh : A.handled = none)
    (hit : It01 k s.heap it l i) (hl : Sq01 k s.heap l items) (hx : items[i]? = none)
    (hE : ∀ h' e, Heap.ExtBut it s.heap h' → (∃ o, h'.get? e = some o ∧ o.cls = .type "StopIteration") → E (.ref e) { s with heap := h' }) :
    wpAny (model prog w) A (Builtin.SmallTypes.nextOf (.ref it)) Q E s := by
  cases k
  · exact nextOf_tuple_end hh hit hl hx hE
  · exact wpAny_nextOf_list_end hh hit hl hx hE
theorem iter01 {k : Bool} {l : Addr} {items : Array Value} {Q : Value → Shared → Prop} (hl : Sq01 k s.heap l items)
    (hQ : Q (.ref s.heap.objs.size) { s with heap := s.heap.push (itO k l) }) :
    wpAny (model prog w) A (pyIter (.ref l)) Q E s := by
  cases k
  · exact wpAny_pyIter_tuple hl hQ
  · exact wpAny_pyIter_list hl hQ
end
/-- each source has one more item -/
inductive AtI (h : Heap) (i : Nat) : List Sr → List Value → Prop
  | nil : AtI h i [] []
  | cons {r : Sr} {rs : List Sr} {x : Value} {xs : List Value} {items : Array Value} : It01 r.k h r.it r.l i → Sq01 r.k h r.l items → items[i]? = some x → AtI h i rs xs → AtI h i (r :: rs) (x :: xs)
/-- some source has no more items -/
inductive EndI (h : Heap) (i : Nat) : List Sr → Prop
  | here {r : Sr} {rs : List Sr} {items : Array Value} : It01 r.k h r.it r.l i → Sq01 r.k h r.l items → items[i]? = none → EndI h i (r :: rs)
  | next {r : Sr} {rs : List Sr} {items : Array Value} {x : Value} : It01 r.k h r.it r.l i → Sq01 r.k h r.l items → items[i]? = some x → EndI h i rs → EndI h i (r :: rs)
theorem AtI.length {h : Heap} {i : Nat} {rs : List Sr} {xs : List Value} (a : AtI h i rs xs) : xs.length = rs.length := by
  induction a with
  | nil => rfl
  | cons _ _ _ _ ih => rw [List.length_cons, List.length_cons, ih]
theorem AtI.keep {h h' : Heap} {i : Nat} {rs : List Sr} {xs : List Value} (a : AtI h i rs xs) : (∀ r ∈ rs, (∀ o, h.get? r.it = some o → h'.get? r.it = some o) ∧ ∀ o, h.get? r.l = some o → h'.get? r.l = some o) → AtI h' i rs xs := by
  induction a with
  | nil => exact fun _ => .nil
  | cons h1 h2 h3 _ ih => exact fun k => .cons (h1.at (k _ List.mem_cons_self).1) (h2.at (k _ List.mem_cons_self).2) h3 (ih fun q hq => k q (List.mem_cons_of_mem _ hq))
theorem EndI.keep {h h' : Heap} {i : Nat} {rs : List Sr} (a : EndI h i rs) : (∀ r ∈ rs, (∀ o, h.get? r.it = some o → h'.get? r.it = some o) ∧ ∀ o, h.get? r.l = some o → h'.get? r.l = some o) → EndI h' i rs := by
  induction a with
  | here h1 h2 h3 => exact fun k => .here (h1.at (k _ List.mem_cons_self).1) (h2.at (k _ List.mem_cons_self).2) h3
  | next h1 h2 h3 _ ih => exact fun k => .next (h1.at (k _ List.mem_cons_self).1) (h2.at (k _ List.mem_cons_self).2) h3 (ih fun q hq => k q (List.mem_cons_of_mem _ hq))
def setFrom (a : Array Value) (k : Nat) : List Value → Array Value
  | [] => a
  | x :: xs => setFrom (a.setIfInBounds k x) (k + 1) xs
theorem setFrom_list : ∀ (xs : List Value) (a : Array Value) (pre suf : List Value), a.toList = pre ++ suf → suf.length = xs.length → (setFrom a pre.length xs).toList = pre ++ xs
  | [], a, pre, suf, h, hl => by
    cases suf with
    | nil => simpa [setFrom] using h
    | cons => cases hl
  | x :: xs, a, pre, suf, h, hl => by
    cases suf with
    | nil => cases hl
    | cons y suf =>
      have e : (a.setIfInBounds pre.length x).toList = (pre ++ [x]) ++ suf := by
        rw [Array.toList_setIfInBounds, h]
        simp
      have := setFrom_list xs _ (pre ++ [x]) suf e (by simpa using hl)
      rw [List.length_append] at this
      unfold setFrom
      rw [show pre.length + 1 = pre.length + [x].length from rfl, this]
      simp
theorem setFrom_all {xs : List Value} {a : Array Value} (h : a.size = xs.length) : setFrom a 0 xs = xs.toArray := by
  have := setFrom_list xs a [] a.toList rfl (by simpa using h)
  exact Array.toList_inj.mp (by simpa using this)
theorem setFrom_size : ∀ (xs : List Value) (a : Array Value) (k : Nat), (setFrom a k xs).size = a.size
  | [], _, _ => rfl
  | x :: xs, a, k => by unfold setFrom; rw [setFrom_size]; simp
structure Apart (z TI TO : Addr) (src : List Sr) : Prop where
  TIz : TI ≠ z
  TOz : TO ≠ z
  TITO : TI ≠ TO
  it : ∀ r ∈ src, r.it ≠ z ∧ r.it ≠ TI ∧ r.it ≠ TO ∧ r.l ≠ z ∧ r.l ≠ TO
  its : src.Pairwise fun a b => a.it ≠ b.it
  lit : ∀ r ∈ src, ∀ q ∈ src, r.l ≠ q.it
section
variable {prog : Program} {w : World} {A : Around} {E : Value → Shared → Prop}
theorem zloop_item {σ : Type} {init : σ} {b : Value × Nat → σ → Sem (ForInStep σ)} {TO : Addr} {i : Nat}
    (hb : ∀ (s : Shared) (r : Sr) (x : Value) (j : Nat) (kept items : Array Value) (Q : ForInStep σ → Shared → Prop), It01 r.k s.heap r.it r.l i → Sq01 r.k s.heap r.l items → items[i]? = some x → r.it ≠ TO → s.heap.get? TO = some (tupO kept) → kept.size ≤ 1000 →
      (∀ h', It01 r.k h' r.it r.l (i + 1) → h'.get? TO = some (tupO (kept.setIfInBounds j x)) → (∀ c, c ≠ TO → c ≠ r.it → h'.get? c = s.heap.get? c) → h'.objs.size = s.heap.objs.size → Q (.yield init) { s with heap := h' }) →
      wpAny (model prog w) A (b (.ref r.it, j) init) Q E s) :
    ∀ (rs : List Sr) (xs : List Value) (k : Nat) (kept : Array Value) (s : Shared) (Q : σ → Shared → Prop), AtI s.heap i rs xs → (∀ r ∈ rs, r.it ≠ TO ∧ r.l ≠ TO) → (rs.Pairwise fun a b => a.it ≠ b.it) → (∀ r ∈ rs, ∀ q ∈ rs, r.l ≠ q.it) → s.heap.get? TO = some (tupO kept) → kept.size ≤ 1000 →
      (∀ h', (∀ r ∈ rs, It01 r.k h' r.it r.l (i + 1)) → h'.get? TO = some (tupO (setFrom kept k xs)) → (∀ c, c ≠ TO → (∀ r ∈ rs, c ≠ r.it) → h'.get? c = s.heap.get? c) → h'.objs.size = s.heap.objs.size → Q init { s with heap := h' }) →
      wpAny (model prog w) A (forIn ((rs.map fun r => Value.ref r.it).zipIdx k) init b) Q E s := by
  intro rs
  induction rs with
  | nil =>
    intro xs k kept s Q hat _ _ _ hTO _ hQ
    cases hat
    simp only [List.map_nil, List.zipIdx_nil, List.forIn_nil]
    exact wpAny_pure (hQ s.heap (fun r hr => absurd hr List.not_mem_nil) hTO (fun _ _ _ => rfl) rfl)
  | cons r rs ih =>
    intro xs k kept s Q hat ap pw li hTO hz hQ
    obtain ⟨x, xs, items, rfl, h1, h2, h3, h4⟩ : ∃ x xs' items, xs = x :: xs' ∧ It01 r.k s.heap r.it r.l i ∧ Sq01 r.k s.heap r.l items ∧ items[i]? = some x ∧ AtI s.heap i rs xs' := by
      cases hat with
      | cons h1 h2 h3 h4 => exact ⟨_, _, _, rfl, h1, h2, h3, h4⟩
    simp only [List.map_cons, List.zipIdx_cons, List.forIn_cons]
    have ar := ap r List.mem_cons_self
    have pr : ∀ {q : Sr}, q ∈ rs → r.it ≠ q.it := fun hq => List.rel_of_pairwise_cons pw hq
    refine wpAny_bind (hb s r x k kept items _ h1 h2 h3 ar.1 hTO hz fun h' i1 t1 f1 z1 => ?_)
    refine ih xs (k + 1) (kept.setIfInBounds k x) { s with heap := h' } Q (h4.keep fun q hq => ⟨fun o e => ?_, fun o e => ?_⟩) (fun q hq => ap q (List.mem_cons_of_mem _ hq)) (List.Pairwise.of_cons pw) (fun q hq q2 hq2 => li q (List.mem_cons_of_mem _ hq) q2 (List.mem_cons_of_mem _ hq2)) t1 (by simpa using hz) fun h'' i2 t2 f2 z2 => ?_
    · rw [f1 _ (ap q (List.mem_cons_of_mem _ hq)).1 (pr hq).symm]; exact e
    · rw [f1 _ (ap q (List.mem_cons_of_mem _ hq)).2 (li q (List.mem_cons_of_mem _ hq) r List.mem_cons_self)]; exact e
    · refine hQ h'' (fun q hq => ?_) t2 (fun c c1 c2 => ?_) (z2.trans z1)
      · rcases List.mem_cons.mp hq with rfl | hq
        · exact i1.at fun o e => by rw [f2 _ ar.1 fun q2 hq2 => pr hq2]; exact e
        · exact i2 q hq
      · rw [f2 c c1 fun q hq => c2 q (List.mem_cons_of_mem _ hq)]
        exact f1 c c1 (c2 r List.mem_cons_self)
theorem zloop_end {σ : Type} {init : σ} {b : Value × Nat → σ → Sem (ForInStep σ)} {TO : Addr} {i : Nat}
    (hb : ∀ (s : Shared) (r : Sr) (x : Value) (j : Nat) (kept items : Array Value) (Q : ForInStep σ → Shared → Prop), It01 r.k s.heap r.it r.l i → Sq01 r.k s.heap r.l items → items[i]? = some x → r.it ≠ TO → s.heap.get? TO = some (tupO kept) → kept.size ≤ 1000 →
      (∀ h', It01 r.k h' r.it r.l (i + 1) → h'.get? TO = some (tupO (kept.setIfInBounds j x)) → (∀ c, c ≠ TO → c ≠ r.it → h'.get? c = s.heap.get? c) → h'.objs.size = s.heap.objs.size → Q (.yield init) { s with heap := h' }) →
      wpAny (model prog w) A (b (.ref r.it, j) init) Q E s) (z : Addr) (oz : Obj)
    (he : ∀ (s : Shared) (r : Sr) (j : Nat) (items : Array Value) (Q : ForInStep σ → Shared → Prop), It01 r.k s.heap r.it r.l i → Sq01 r.k s.heap r.l items → items[i]? = none → r.it ≠ z → s.heap.get? z = some oz →
      (∀ h' e, (∀ c o, c ≠ z → c ≠ r.it → s.heap.get? c = some o → h'.get? c = some o) → (∃ o, h'.get? e = some o ∧ o.cls = .type "StopIteration") → E (.ref e) { s with heap := h' }) → wpAny (model prog w) A (b (.ref r.it, j) init) Q E s) :
    ∀ (rs : List Sr) (k : Nat) (kept : Array Value) (s : Shared) (Q : σ → Shared → Prop), EndI s.heap i rs → (∀ r ∈ rs, r.it ≠ TO ∧ r.l ≠ TO ∧ r.it ≠ z) → z ≠ TO → (rs.Pairwise fun a b => a.it ≠ b.it) → (∀ r ∈ rs, ∀ q ∈ rs, r.l ≠ q.it) → s.heap.get? TO = some (tupO kept) → kept.size ≤ 1000 → s.heap.get? z = some oz →
      (∀ h' e, (∀ c o, c ≠ z → c ≠ TO → (∀ r ∈ rs, c ≠ r.it) → s.heap.get? c = some o → h'.get? c = some o) → (∃ o, h'.get? e = some o ∧ o.cls = .type "StopIteration") → E (.ref e) { s with heap := h' }) →
      wpAny (model prog w) A (forIn ((rs.map fun r => Value.ref r.it).zipIdx k) init b) Q E s := by
  intro rs
  induction rs with
  | nil =>
    intro k kept s Q hat
    cases hat
  | cons r rs ih =>
    intro k kept s Q hat ap zT pw li hTO hz oz hE
    have hat : (∃ items, It01 r.k s.heap r.it r.l i ∧ Sq01 r.k s.heap r.l items ∧ items[i]? = none) ∨ (∃ items x, It01 r.k s.heap r.it r.l i ∧ Sq01 r.k s.heap r.l items ∧ items[i]? = some x ∧ EndI s.heap i rs) := by
      cases hat with
      | here h1 h2 h3 => exact .inl ⟨_, h1, h2, h3⟩
      | next h1 h2 h3 h4 => exact .inr ⟨_, _, h1, h2, h3, h4⟩
    simp only [List.map_cons, List.zipIdx_cons, List.forIn_cons]
    have ar := ap r List.mem_cons_self
    have pr : ∀ {q : Sr}, q ∈ rs → r.it ≠ q.it := fun hq => List.rel_of_pairwise_cons pw hq
    rcases hat with ⟨items, h1, h2, h3⟩ | ⟨items, x, h1, h2, h3, h4⟩
    · exact wpAny_bind (he s r k items _ h1 h2 h3 ar.2.2 oz fun h' e f st => hE h' e (fun c o c1 c2 c3 q => f c o c1 (c3 r List.mem_cons_self) q) st)
    refine wpAny_bind (hb s r x k kept items _ h1 h2 h3 ar.1 hTO hz fun h' i1 t1 f1 z1 => ?_)
    refine ih (k + 1) (kept.setIfInBounds k x) { s with heap := h' } Q (h4.keep fun q hq => ⟨fun o e => ?_, fun o e => ?_⟩) (fun q hq => ap q (List.mem_cons_of_mem _ hq)) zT (List.Pairwise.of_cons pw) (fun q hq q2 hq2 => li q (List.mem_cons_of_mem _ hq) q2 (List.mem_cons_of_mem _ hq2)) t1 (by simpa using hz) ?_ fun h'' e f st => ?_
    · rw [f1 _ (ap q (List.mem_cons_of_mem _ hq)).1 (pr hq).symm]; exact e
    · rw [f1 _ (ap q (List.mem_cons_of_mem _ hq)).2.1 (li q (List.mem_cons_of_mem _ hq) r List.mem_cons_self)]; exact e
    · rw [f1 _ zT (Ne.symm ar.2.2)]; exact oz
    · refine hE h'' e (fun c o c1 c2 c3 q => f c o c1 c2 (fun q2 hq2 => c3 q2 (List.mem_cons_of_mem _ hq2)) ?_) st
      rw [f1 c c2 (c3 r List.mem_cons_self)]
      exact q
abbrev frE (z TO : Addr) (src : List Sr) (h h' : Heap) : Prop := ∀ c o, c ≠ z → c ≠ TO → (∀ r ∈ src, c ≠ r.it) → h.get? c = some o → h'.get? c = some o
variable {s : Shared}
theorem zipN_step {z TI TO : Addr} {i : Nat} {σ : Type} {init : σ} {cont : Option Value → Sem (ForInStep σ)} {r : Sr} {x : Value} {j : Nat} {kept items : Array Value} {Q : ForInStep σ → Shared → Prop}
    (hcont : ∀ (s : Shared) (Q : ForInStep σ → Shared → Prop), s.heap.get? TO = some (tupO kept) → (∀ h', h'.get? TO = some (tupO (kept.setIfInBounds j x)) → Heap.SameBut TO s.heap h' → Q (.yield init) { s with heap := h' }) → wpAny (model prog w) A (cont (some x)) Q E s)
    (h1 : It01 r.k s.heap r.it r.l i) (h2 : Sq01 r.k s.heap r.l items) (h3 : items[i]? = some x) (ne : r.it ≠ TO) (hTO : s.heap.get? TO = some (tupO kept)) 
    (hQ : ∀ h', It01 r.k h' r.it r.l (i + 1) → h'.get? TO = some (tupO (kept.setIfInBounds j x)) → (∀ c, c ≠ TO → c ≠ r.it → h'.get? c = s.heap.get? c) → h'.objs.size = s.heap.objs.size → Q (.yield init) { s with heap := h' }) :
    wpAny (model prog w) A ((do let v ← (do let y ← Builtin.SmallTypes.nextOf (.ref r.it); return some y).onRaise fun _ => setField (.ref z) 0 .none; cont v)) Q E s := by
  refine wpAny_bind (wpAny_onRaise (wpAny_bind (next01_item h1 h2 h3 fun h' i1 sb => wpAny_pure ?_)))
  have hTO' : h'.get? TO = some (tupO kept) := by rw [sb.2 TO (Ne.symm ne)]; exact hTO
  refine hcont _ _ hTO' fun h'' t2 sb2 => hQ h'' (i1.at fun o e => ?_) t2 (fun c c1 c2 => ?_) ?_
  · rw [sb2.2 _ ne]; exact e
  · rw [sb2.2 c c1]; exact sb.2 c c2
  · exact sb2.1.trans sb.1
theorem zipN_next_item {z TI TO : Addr} {r0 : Sr} {rs : List Sr} {xs : List Value} {i : Nat} {kept : Array Value} {Q : Value → Shared → Prop} (ap : Apart z TI TO (r0 :: rs))
    (hz : IsZip s.heap z TI TO .none) (hTI : s.heap.get? TI = some (tupO ((r0 :: rs).map fun r => Value.ref r.it).toArray)) (hTO : s.heap.get? TO = some (tupO kept)) (hk : kept.size = (r0 :: rs).length) (hkl : (r0 :: rs).length ≤ 1000) (hat : AtI s.heap i (r0 :: rs) xs)
    (hQ : ∀ h', IsZip h' z TI TO (rawInt s.heap.objs.size) → h'.get? TO = some (tupO xs.toArray) → (∀ r ∈ (r0 :: rs), It01 r.k h' r.it r.l (i + 1)) → h'.get? s.heap.objs.size = some (tupO xs.toArray) → h'.objs.size = s.heap.objs.size + 1 →
      frE z TO (r0 :: rs) s.heap h' → Q (.ref s.heap.objs.size) { s with heap := h' }) :
    wpAny (model prog w) A (Builtin.«zip.__next__» ⟨[.ref z], []⟩) (fun fin s' => ∃ v, fin = .done (.ret v) ∧ Q v s') E s := by
  have hxl := hat.length
  show wpAny _ _ (field (.ref z) 2 >>= _) _ _ _
  refine wpAny_bind (wpAny_field hz rfl (x := .bool false) rfl ?_)
  show wpAny _ _ (field (.ref z) 3 >>= _) _ _ _
  refine wpAny_bind (wpAny_field hz rfl (x := .ref TI) rfl ?_)
  refine wpAny_bind (wpAny_seqItems hTI rfl ?_)
  show wpAny _ _ (Builtin.SmallTypes.ownedTupleIsFree (.ref z) >>= _) _ _ _
  refine wpAny_bind ?_
  unfold Builtin.SmallTypes.ownedTupleIsFree
  refine wpAny_bind (wpAny_field hz rfl (x := .none) rfl (wpAny_pure ?_))
  simp only [if_true]
  refine wpAny_bind (wpAny_rule ?_)
  refine wpAny_bind (wpAny_field hz rfl (x := .ref TO) rfl ?_)
  refine wpAny_bind (wpAny_setField_rec hz (by simp) fun h₁ hz₁ hs₁ => ?_)
  replace hz₁ : IsZip h₁ z TI TO .ellipsis := hz₁
  have e₁ : ∀ c o, c ≠ z → s.heap.get? c = some o → h₁.get? c = some o := fun c o hc e => by rw [hs₁.2 c hc]; exact e
  refine wpAny_bind ?_
  refine zloop_item (TO := TO) (i := i) ?_ (r0 :: rs) xs 0 kept { s with heap := h₁ } _ (hat.keep fun r hr => ⟨fun o => e₁ _ o (ap.it r hr).1, fun o => e₁ _ o (ap.it r hr).2.2.2.1⟩) (fun r hr => ⟨(ap.it r hr).2.2.1, (ap.it r hr).2.2.2.2⟩) ap.its ap.lit (e₁ _ _ ap.TOz hTO) (by omega) ?_
  · intro s r x j kept items Q h1 h2 h3 ne hTO hkz hQ
    refine zipN_step (TI := TI) (cont := _) ?_ h1 h2 h3 ne hTO hQ
    intro s Q hTO hQ
    refine wpAny_bind (wpAny_seqItems hTO rfl ?_)
    refine wpAny_bind (wpAny_updateSeq hTO rfl ?_ ?_ ?_)
    · refine wpAny_bind (wpAny_letGo (wpAny_pure (hQ _ ?_ (Heap.SameBut.update ..))))
      rw [Heap.get?_update_self _ hTO rfl]
      simp [Obj.mapSeq]
    · have : (1000 : Nat) ≤ sizeLine := by size_fits
      omega
    · have : (1000 : Nat) ≤ sizeLine := by size_fits
      rw [Array.size_setIfInBounds]
      omega
  intro h₅ i5 t5 f5 z5
  rw [setFrom_all (by omega)] at t5
  have hsz : h₅.objs.size = s.heap.objs.size := z5.trans hs₁.1
  have zs : ∀ r ∈ r0 :: rs, z ≠ r.it := fun r hr => (ap.it r hr).1.symm
  have hz₅ : IsZip h₅ z TI TO .ellipsis := (f5 z (Ne.symm ap.TOz) zs).trans hz₁
  refine wpAny_bind (wpAny_seqItems t5 rfl ?_)
  refine wpAny_bind (wpAny_newTuple ?_)
  show wpAny _ _ (Builtin.SmallTypes.ownedTupleHandOut (.ref z) (.ref h₅.objs.size) >>= _) _ _ _
  refine wpAny_bind ?_
  unfold Builtin.SmallTypes.ownedTupleHandOut
  have hzlt : z < h₅.objs.size := Heap.lt_size hz₅
  have hz₆ : IsZip (h₅.push (tupO xs.toArray)) z TI TO .ellipsis := Heap.get?_push_of_some _ hz₅
  refine wpAny_bind (wpAny_setField_rec hz₆ (by simp) fun h₇ hz₇ hs₇ => ?_)
  replace hz₇ : IsZip h₇ z TI TO (rawInt h₅.objs.size) := hz₇
  refine wpAny_setField_rec hz₇ (by simp) fun h₈ hz₈ hs₈ => ?_
  replace hz₈ : IsZip h₈ z TI TO (rawInt h₅.objs.size) := hz₈
  have up : ∀ c o, c ≠ z → h₅.get? c = some o → h₈.get? c = some o := fun c o c1 e => by
    rw [hs₈.2 c c1, hs₇.2 c c1]
    exact Heap.get?_push_of_some _ e
  have hT₈ : h₈.get? h₅.objs.size = some (tupO xs.toArray) := by
    rw [hs₈.2 _ (Nat.ne_of_gt hzlt), hs₇.2 _ (Nat.ne_of_gt hzlt)]
    exact Heap.get?_push_size _ rfl
  have hz8 : h₈.objs.size = h₅.objs.size + 1 := by rw [hs₈.1, hs₇.1, Heap.size_push]
  rw [hsz] at hz₈ hT₈ hz8
  refine wpAny_pure ⟨_, rfl, ?_⟩
  show Q (.ref h₅.objs.size) _
  rw [hsz]
  refine hQ h₈ hz₈ (up _ _ ap.TOz t5) (fun r hr => (i5 r hr).at fun o e => up _ o (ap.it r hr).1 e) hT₈ hz8 fun c o c1 c2 c3 e => up c o c1 ?_
  rw [f5 c c2 c3]
  exact e₁ c o c1 e
theorem zipN_next_end {z TI TO : Addr} {r0 : Sr} {rs : List Sr} {i : Nat} {kept : Array Value} {Q : Fin → Shared → Prop} (hh : A.handled = none) (ap : Apart z TI TO (r0 :: rs))
    (hz : IsZip s.heap z TI TO .none) (hTI : s.heap.get? TI = some (tupO ((r0 :: rs).map fun r => Value.ref r.it).toArray)) (hTO : s.heap.get? TO = some (tupO kept)) (hk : kept.size ≤ 1000) (hat : EndI s.heap i (r0 :: rs))
    (hE : ∀ h' e, frE z TO (r0 :: rs) s.heap h' → (∃ o, h'.get? e = some o ∧ o.cls = .type "StopIteration") → E (.ref e) { s with heap := h' }) :
    wpAny (model prog w) A (Builtin.«zip.__next__» ⟨[.ref z], []⟩) Q E s := by
  show wpAny _ _ (field (.ref z) 2 >>= _) _ _ _
  refine wpAny_bind (wpAny_field hz rfl (x := .bool false) rfl ?_)
  show wpAny _ _ (field (.ref z) 3 >>= _) _ _ _
  refine wpAny_bind (wpAny_field hz rfl (x := .ref TI) rfl ?_)
  refine wpAny_bind (wpAny_seqItems hTI rfl ?_)
  show wpAny _ _ (Builtin.SmallTypes.ownedTupleIsFree (.ref z) >>= _) _ _ _
  refine wpAny_bind ?_
  unfold Builtin.SmallTypes.ownedTupleIsFree
  refine wpAny_bind (wpAny_field hz rfl (x := .none) rfl (wpAny_pure ?_))
  simp only [if_true]
  refine wpAny_bind (wpAny_rule ?_)
  refine wpAny_bind (wpAny_field hz rfl (x := .ref TO) rfl ?_)
  refine wpAny_bind (wpAny_setField_rec hz (by simp) fun h₁ hz₁ hs₁ => ?_)
  replace hz₁ : IsZip h₁ z TI TO .ellipsis := hz₁
  have e₁ : ∀ c o, c ≠ z → s.heap.get? c = some o → h₁.get? c = some o := fun c o hc e => by rw [hs₁.2 c hc]; exact e
  refine wpAny_bind ?_
  refine zloop_end (TO := TO) (i := i) ?_ z _ ?_ (r0 :: rs) 0 kept { s with heap := h₁ } _ (hat.keep fun r hr => ⟨fun o => e₁ _ o (ap.it r hr).1, fun o => e₁ _ o (ap.it r hr).2.2.2.1⟩) (fun r hr => ⟨(ap.it r hr).2.2.1, (ap.it r hr).2.2.2.2, (ap.it r hr).1⟩) (Ne.symm ap.TOz) ap.its ap.lit (e₁ _ _ ap.TOz hTO) hk hz₁ ?_
  · intro s r x j kept items Q h1 h2 h3 ne hTO hkz hQ
    refine zipN_step (TI := TI) (cont := _) ?_ h1 h2 h3 ne hTO hQ
    intro s Q hTO hQ
    refine wpAny_bind (wpAny_seqItems hTO rfl ?_)
    refine wpAny_bind (wpAny_updateSeq hTO rfl ?_ ?_ ?_)
    · refine wpAny_bind (wpAny_letGo (wpAny_pure (hQ _ ?_ (Heap.SameBut.update ..))))
      rw [Heap.get?_update_self _ hTO rfl]
      simp [Obj.mapSeq]
    · have : (1000 : Nat) ≤ sizeLine := by size_fits
      omega
    · have : (1000 : Nat) ≤ sizeLine := by size_fits
      rw [Array.size_setIfInBounds]
      omega
  · intro s r j items Q h1 h2 h3 ne oz hE
    refine wpAny_bind (wpAny_onRaise ?_)
    show wpAny _ _ (Builtin.SmallTypes.nextOf (.ref r.it) >>= _) _ _ _
    refine wpAny_bind (next01_end hh h1 h2 h3 fun h₂ e hs₂ he => ?_)
    obtain ⟨oe, hoe, hce⟩ := he
    have hz₂ : IsZip h₂ z TI TO .ellipsis := hs₂ _ _ (Ne.symm ne) oz
    have hez : e ≠ z := fun x => by subst x; rw [hz₂] at hoe; cases hoe; simp at hce
    exact wpAny_setField_rec hz₂ (by simp) fun h₃ _ hs₃ => hE h₃ e (fun c o c1 c2 x => hs₃.extBut _ _ c1 (hs₂ _ _ c2 x)) ⟨oe, hs₃.extBut _ _ hez hoe, hce⟩
  · exact fun h' e f st => hE h' e (fun c o c1 c2 c3 q => f c o c1 c2 c3 (e₁ c o c1 q)) st
theorem pyNext_zipN_item {z TI TO : Addr} {r0 : Sr} {rs : List Sr} {xs : List Value} {i : Nat} {kept : Array Value} {Q : Option Value → Shared → Prop} (ap : Apart z TI TO (r0 :: rs))
    (hz : IsZip s.heap z TI TO .none) (hTI : s.heap.get? TI = some (tupO ((r0 :: rs).map fun r => Value.ref r.it).toArray)) (hTO : s.heap.get? TO = some (tupO kept)) (hk : kept.size = (r0 :: rs).length) (hkl : (r0 :: rs).length ≤ 1000) (hat : AtI s.heap i (r0 :: rs) xs)
    (hQ : ∀ h', IsZip h' z TI TO (rawInt s.heap.objs.size) → h'.get? TO = some (tupO xs.toArray) → (∀ r ∈ (r0 :: rs), It01 r.k h' r.it r.l (i + 1)) → h'.get? s.heap.objs.size = some (tupO xs.toArray) → h'.objs.size = s.heap.objs.size + 1 →
      frE z TO (r0 :: rs) s.heap h' → Q (some (.ref s.heap.objs.size)) { s with heap := h' }) : wpAny (model prog w) A (pyNext (.ref z)) Q E s := by
  have hT : s.TypeIs (.ref z) "zip" := ⟨_, hz, rfl⟩
  unfold pyNext
  exact wpAny_bind (wpAny_attempt (wpAny_callSpecial?_slot (name := Str.ofString "__next__") hT F.slot_zip_next
    (wpAny_call_entry F.slot_zip_next hT F.entry_zip_next
      (zipN_next_item ap hz hTI hTO hk hkl hat fun h' a1 a2 a3 a4 a5 a6 => wpAny_pure (hQ h' a1 a2 a3 a4 a5 a6)) (F.args_zip_next_1 _))))
theorem pyNext_zipN_end {z TI TO : Addr} {r0 : Sr} {rs : List Sr} {i : Nat} {kept : Array Value} {Q : Option Value → Shared → Prop} (hh : A.handled = none) (ap : Apart z TI TO (r0 :: rs))
    (hz : IsZip s.heap z TI TO .none) (hTI : s.heap.get? TI = some (tupO ((r0 :: rs).map fun r => Value.ref r.it).toArray)) (hTO : s.heap.get? TO = some (tupO kept)) (hk : kept.size ≤ 1000) (hat : EndI s.heap i (r0 :: rs))
    (hQ : ∀ h', frE z TO (r0 :: rs) s.heap h' → Q none { s with heap := h' }) : wpAny (model prog w) A (pyNext (.ref z)) Q E s := by
  have hT : s.TypeIs (.ref z) "zip" := ⟨_, hz, rfl⟩
  unfold pyNext
  refine wpAny_bind (wpAny_attempt (wpAny_callSpecial?_slot (name := Str.ofString "__next__") hT F.slot_zip_next
    (wpAny_call_entry F.slot_zip_next hT F.entry_zip_next (zipN_next_end hh ap hz hTI hTO hk hat fun h' e hk he => ?_) (F.args_zip_next_1 _))))
  obtain ⟨o, ho, hc⟩ := he
  refine wpAny_bind (wpAny_isInstance (T := "StopIteration") (b := true) ⟨o, ho, hc⟩ isSubtype_stop ?_)
  exact wpAny_pure (hQ _ hk)
end
/-! ### zip is called -/
theorem typeCall_zip_3 (a b c : Value) : checkTypeCall "zip" ⟨[a, b, c], []⟩ = pure () := by kernel_rfl
theorem newCall_zip_3 (a b c : Value) : checkBuiltinCall "zip.__new__" ⟨[.type "zip", a, b, c], []⟩ = pure () := by kernel_rfl
theorem args_object_init_4 (a b c d : Value) : argsOk "object.__init__" ⟨[a, b, c, d], []⟩ := by
  unfold argsOk; rw [signature?_of (id := "object.__init__") (n := ['_', '_', 't', 'i', 'n', 'i', '_', '_']) (o := ['t', 'c', 'e', 'j', 'b', 'o']) (by kernel_rfl) F.owner_object]; kernel_rfl
theorem Sq01.push {k : Bool} {h : Heap} {l : Addr} {xs : Array Value} (x : Sq01 k h l xs) (o : Obj) : Sq01 k (h.push o) l xs := x.at fun _ e => Heap.get?_push_of_some _ e
abbrev zOb (ti to : Addr) : Obj := { cls := .type "zip", data := .fields #[.none, .bool false, .bool false, .ref ti, .ref to] }
theorem meets_zip2 (k1 k2 : Bool) (l1 l2 : Addr) (xs ys : Array Value) :
    Meets (Builtin.«zip.__new__» ⟨[.type "zip", .ref l1, .ref l2], []⟩) (fun _ R s => Sq01 k1 s.heap l1 xs ∧ Sq01 k2 s.heap l2 ys ∧
      R (.ok (.ret (.ref (((s.heap.push (itO k1 l1)).push (itO k2 l2)).push (tupO #[.ref s.heap.objs.size, .ref (s.heap.push (itO k1 l1)).objs.size]) |>.push (tupO #[.none, .none])).objs.size))) { s with heap := (((s.heap.push (itO k1 l1)).push (itO k2 l2)).push (tupO #[.ref s.heap.objs.size, .ref (s.heap.push (itO k1 l1)).objs.size]) |>.push (tupO #[.none, .none])).push (zOb ((s.heap.push (itO k1 l1)).push (itO k2 l2)).objs.size (((s.heap.push (itO k1 l1)).push (itO k2 l2)).push (tupO #[.ref s.heap.objs.size, .ref (s.heap.push (itO k1 l1)).objs.size])).objs.size) }) :=
  .of_wp fun prog w A R s h => by
    obtain ⟨hp, g, d, tk, os⟩ := s; obtain ⟨hl1, hl2, h⟩ := h
    have hsub := sub_zip
    have hL1 : Sq01 k1 (Shared.heap ⟨hp, g, d, tk, os⟩) l1 xs := hl1
    have hL2 : Sq01 k2 (Shared.heap ⟨hp.push (itO k1 l1), g, d, tk, os⟩) l2 ys := hl2.push _
    wp_walk using iter01 hL1, iter01 hL2
    exact ⟨_, rfl, h⟩
abbrev zi1 (h : Heap) (k1 : Bool) (l1 : Addr) : Heap := h.push (itO k1 l1)
abbrev zi2 (h : Heap) (k1 k2 : Bool) (l1 l2 : Addr) : Heap := (zi1 h k1 l1).push (itO k2 l2)
abbrev zi3 (h : Heap) (k1 k2 k3 : Bool) (l1 l2 l3 : Addr) : Heap := (zi2 h k1 k2 l1 l2).push (itO k3 l3)
abbrev zt3 (h : Heap) (k1 k2 k3 : Bool) (l1 l2 l3 : Addr) : Heap := (zi3 h k1 k2 k3 l1 l2 l3).push (tupO #[.ref h.objs.size, .ref (zi1 h k1 l1).objs.size, .ref (zi2 h k1 k2 l1 l2).objs.size])
abbrev zu3 (h : Heap) (k1 k2 k3 : Bool) (l1 l2 l3 : Addr) : Heap := (zt3 h k1 k2 k3 l1 l2 l3).push (tupO #[.none, .none, .none])
abbrev zv3 (h : Heap) (k1 k2 k3 : Bool) (l1 l2 l3 : Addr) : Heap := (zu3 h k1 k2 k3 l1 l2 l3).push (zOb (zi3 h k1 k2 k3 l1 l2 l3).objs.size (zt3 h k1 k2 k3 l1 l2 l3).objs.size)
abbrev zt2 (h : Heap) (k1 k2 : Bool) (l1 l2 : Addr) : Heap := (zi2 h k1 k2 l1 l2).push (tupO #[.ref h.objs.size, .ref (zi1 h k1 l1).objs.size])
abbrev zu2 (h : Heap) (k1 k2 : Bool) (l1 l2 : Addr) : Heap := (zt2 h k1 k2 l1 l2).push (tupO #[.none, .none])
abbrev zv2 (h : Heap) (k1 k2 : Bool) (l1 l2 : Addr) : Heap := (zu2 h k1 k2 l1 l2).push (zOb (zi2 h k1 k2 l1 l2).objs.size (zt2 h k1 k2 l1 l2).objs.size)
theorem meets_zip3 (k1 k2 k3 : Bool) (l1 l2 l3 : Addr) (xs ys zs : Array Value) :
    Meets (Builtin.«zip.__new__» ⟨[.type "zip", .ref l1, .ref l2, .ref l3], []⟩) (fun _ R s => Sq01 k1 s.heap l1 xs ∧ Sq01 k2 s.heap l2 ys ∧ Sq01 k3 s.heap l3 zs ∧
      R (.ok (.ret (.ref (zu3 s.heap k1 k2 k3 l1 l2 l3).objs.size))) { s with heap := zv3 s.heap k1 k2 k3 l1 l2 l3 }) :=
  .of_wp fun prog w A R s h => by
    obtain ⟨hp, g, d, tk, os⟩ := s; obtain ⟨hl1, hl2, hl3, h⟩ := h
    have hsub := sub_zip
    have hL1 : Sq01 k1 (Shared.heap ⟨hp, g, d, tk, os⟩) l1 xs := hl1
    have hL2 : Sq01 k2 (Shared.heap ⟨hp.push (itO k1 l1), g, d, tk, os⟩) l2 ys := hl2.push _
    have hL3 : Sq01 k3 (Shared.heap ⟨(hp.push (itO k1 l1)).push (itO k2 l2), g, d, tk, os⟩) l3 zs := (hl3.push _).push _
    wp_walk using iter01 hL1, iter01 hL2, iter01 hL3
    exact ⟨_, rfl, h⟩
theorem it01_new (k : Bool) (h : Heap) (l : Addr) : It01 k (h.push (itO k l)) h.objs.size l 0 := by
  cases k
  · exact ⟨_, Heap.get?_push_size _ rfl, rfl, rfl⟩
  · exact ⟨_, Heap.get?_push_size _ rfl, rfl, rfl⟩
section
variable {prog : Program} {w : World} {A : Around} {E : Value → Shared → Prop} {s : Shared}
theorem call_zip2 {k1 k2 : Bool} {l1 l2 : Addr} {xs ys : Array Value} {Q : Value → Shared → Prop} (hl1 : Sq01 k1 s.heap l1 xs) (hl2 : Sq01 k2 s.heap l2 ys)
    (h : ∀ h', IsZip h' (s.heap.objs.size + 4) (s.heap.objs.size + 2) (s.heap.objs.size + 3) .none → h'.get? (s.heap.objs.size + 2) = some (tupO #[.ref s.heap.objs.size, .ref (s.heap.objs.size + 1)]) →
      h'.get? (s.heap.objs.size + 3) = some (tupO #[.none, .none]) → It01 k1 h' s.heap.objs.size l1 0 → It01 k2 h' (s.heap.objs.size + 1) l2 0 → (∀ c o, s.heap.get? c = some o → h'.get? c = some o) → Q (.ref (s.heap.objs.size + 4)) { s with heap := h' }) :
    wpAny (model prog w) A (call (.type "zip") [.ref l1, .ref l2]) Q E s := by
  refine callType_new F.called_zip (by decide) (F.typeCall_zip_2 _ _) (F.newCall_zip_2 _ _) (fun obj => F.args_object_init_3 obj _ _) F.entry_zip_new (meets_zip2 k1 k2 l1 l2 xs ys) ⟨hl1, hl2, ?_⟩
  have z1 : (zi1 s.heap k1 l1).objs.size = s.heap.objs.size + 1 := Heap.size_push ..
  have z2 : (zi2 s.heap k1 k2 l1 l2).objs.size = s.heap.objs.size + 2 := by rw [Heap.size_push, z1]
  have z3 : (zt2 s.heap k1 k2 l1 l2).objs.size = s.heap.objs.size + 3 := by rw [Heap.size_push, z2]
  have z4 : (zu2 s.heap k1 k2 l1 l2).objs.size = s.heap.objs.size + 4 := by rw [Heap.size_push, z3]
  have g5 : (zv2 s.heap k1 k2 l1 l2).get? (zu2 s.heap k1 k2 l1 l2).objs.size = some _ := Heap.get?_push_size _ rfl
  have g4 : (zv2 s.heap k1 k2 l1 l2).get? (zt2 s.heap k1 k2 l1 l2).objs.size = some _ := Heap.get?_push_of_some _ (Heap.get?_push_size _ rfl)
  have g3 : (zv2 s.heap k1 k2 l1 l2).get? (zi2 s.heap k1 k2 l1 l2).objs.size = some _ := Heap.get?_push_of_some _ (Heap.get?_push_of_some _ (Heap.get?_push_size _ rfl))
  have g2 : It01 k2 (zv2 s.heap k1 k2 l1 l2) (zi1 s.heap k1 l1).objs.size l2 0 := (it01_new k2 _ l2).at fun o e => Heap.get?_push_of_some _ (Heap.get?_push_of_some _ (Heap.get?_push_of_some _ e))
  have g1 : It01 k1 (zv2 s.heap k1 k2 l1 l2) s.heap.objs.size l1 0 := (it01_new k1 _ l1).at fun o e => Heap.get?_push_of_some _ (Heap.get?_push_of_some _ (Heap.get?_push_of_some _ (Heap.get?_push_of_some _ e)))
  show _ ∧ _
  rw [z2, z3, z4] at g5
  rw [z1, z2] at g3
  rw [z3] at g4
  rw [z1] at g2
  rw [show (((s.heap.push (itO k1 l1)).push (itO k2 l2)).push (tupO #[.ref s.heap.objs.size, .ref (s.heap.push (itO k1 l1)).objs.size]) |>.push (tupO #[.none, .none])).objs.size = s.heap.objs.size + 4 from z4]
  exact ⟨⟨_, g5, rfl⟩, h _ g5 g3 g4 g1 g2 fun c o x => Heap.get?_push_of_some _ (Heap.get?_push_of_some _ (Heap.get?_push_of_some _ (Heap.get?_push_of_some _ (Heap.get?_push_of_some _ x))))⟩
theorem call_zip3 {k1 k2 k3 : Bool} {l1 l2 l3 : Addr} {xs ys zs : Array Value} {Q : Value → Shared → Prop} (hl1 : Sq01 k1 s.heap l1 xs) (hl2 : Sq01 k2 s.heap l2 ys) (hl3 : Sq01 k3 s.heap l3 zs)
    (h : ∀ h', IsZip h' (s.heap.objs.size + 5) (s.heap.objs.size + 3) (s.heap.objs.size + 4) .none → h'.get? (s.heap.objs.size + 3) = some (tupO #[.ref s.heap.objs.size, .ref (s.heap.objs.size + 1), .ref (s.heap.objs.size + 2)]) →
      h'.get? (s.heap.objs.size + 4) = some (tupO #[.none, .none, .none]) → It01 k1 h' s.heap.objs.size l1 0 → It01 k2 h' (s.heap.objs.size + 1) l2 0 → It01 k3 h' (s.heap.objs.size + 2) l3 0 → (∀ c o, s.heap.get? c = some o → h'.get? c = some o) → Q (.ref (s.heap.objs.size + 5)) { s with heap := h' }) :
    wpAny (model prog w) A (call (.type "zip") [.ref l1, .ref l2, .ref l3]) Q E s := by
  refine callType_new F.called_zip (by decide) (typeCall_zip_3 _ _ _) (newCall_zip_3 _ _ _) (fun obj => args_object_init_4 obj _ _ _) F.entry_zip_new (meets_zip3 k1 k2 k3 l1 l2 l3 xs ys zs) ⟨hl1, hl2, hl3, ?_⟩
  have z1 : (zi1 s.heap k1 l1).objs.size = s.heap.objs.size + 1 := Heap.size_push ..
  have z2 : (zi2 s.heap k1 k2 l1 l2).objs.size = s.heap.objs.size + 2 := by rw [Heap.size_push, z1]
  have z3 : (zi3 s.heap k1 k2 k3 l1 l2 l3).objs.size = s.heap.objs.size + 3 := by rw [Heap.size_push, z2]
  have z4 : (zt3 s.heap k1 k2 k3 l1 l2 l3).objs.size = s.heap.objs.size + 4 := by rw [Heap.size_push, z3]
  have z5 : (zu3 s.heap k1 k2 k3 l1 l2 l3).objs.size = s.heap.objs.size + 5 := by rw [Heap.size_push, z4]
  have g6 : (zv3 s.heap k1 k2 k3 l1 l2 l3).get? (zu3 s.heap k1 k2 k3 l1 l2 l3).objs.size = some _ := Heap.get?_push_size _ rfl
  have g5 : (zv3 s.heap k1 k2 k3 l1 l2 l3).get? (zt3 s.heap k1 k2 k3 l1 l2 l3).objs.size = some _ := Heap.get?_push_of_some _ (Heap.get?_push_size _ rfl)
  have g4 : (zv3 s.heap k1 k2 k3 l1 l2 l3).get? (zi3 s.heap k1 k2 k3 l1 l2 l3).objs.size = some _ := Heap.get?_push_of_some _ (Heap.get?_push_of_some _ (Heap.get?_push_size _ rfl))
  have g3 : It01 k3 (zv3 s.heap k1 k2 k3 l1 l2 l3) (zi2 s.heap k1 k2 l1 l2).objs.size l3 0 := (it01_new k3 _ l3).at fun o e => Heap.get?_push_of_some _ (Heap.get?_push_of_some _ (Heap.get?_push_of_some _ e))
  have g2 : It01 k2 (zv3 s.heap k1 k2 k3 l1 l2 l3) (zi1 s.heap k1 l1).objs.size l2 0 := (it01_new k2 _ l2).at fun o e => Heap.get?_push_of_some _ (Heap.get?_push_of_some _ (Heap.get?_push_of_some _ (Heap.get?_push_of_some _ e)))
  have g1 : It01 k1 (zv3 s.heap k1 k2 k3 l1 l2 l3) s.heap.objs.size l1 0 := (it01_new k1 _ l1).at fun o e => Heap.get?_push_of_some _ (Heap.get?_push_of_some _ (Heap.get?_push_of_some _ (Heap.get?_push_of_some _ (Heap.get?_push_of_some _ e))))
  show _ ∧ _
  rw [z3, z4, z5] at g6
  rw [z4] at g5
  rw [z1, z2, z3] at g4
  rw [z2] at g3
  rw [z1] at g2
  rw [z5]
  exact ⟨⟨_, g6, rfl⟩, h _ g6 g4 g5 g1 g2 g3 fun c o x => Heap.get?_push_of_some _ (Heap.get?_push_of_some _ (Heap.get?_push_of_some _ (Heap.get?_push_of_some _ (Heap.get?_push_of_some _ (Heap.get?_push_of_some _ x)))))⟩
end
end Mr

namespace Mr
open PySem PySem.Spec PyProof.Rows L2 RZ
/-! ### the turns of a zip of any number of lists and tuples -/
def SqX (K : PySem.W.Frag) (H : Hp) (k : Bool) (a : Addr) (xs : List V) : Prop := match k with
  | true => SqL K H a xs
  | false => SqT K H a xs
inductive AtV (K : PySem.W.Frag) (H : Hp) (i : Nat) : List (Bool × Addr) → List V → Prop
  | nil : AtV K H i [] []
  | cons {k : Bool} {a : Addr} {ks : List (Bool × Addr)} {x : V} {xs ys : List V} : SqX K H k a xs → xs[i]? = some x → AtV K H i ks ys → AtV K H i ((k, a) :: ks) (x :: ys)
inductive EndV (K : PySem.W.Frag) (H : Hp) (i : Nat) : List (Bool × Addr) → Prop
  | here {k : Bool} {a : Addr} {ks : List (Bool × Addr)} {xs : List V} : SqX K H k a xs → xs.length ≤ i → EndV K H i ((k, a) :: ks)
  | next {k : Bool} {a : Addr} {ks : List (Bool × Addr)} {x : V} {xs : List V} : SqX K H k a xs → xs[i]? = some x → EndV K H i ks → EndV K H i ((k, a) :: ks)
/-- the sources as they stand at each turn, the items in new tuples -/
def ItN (K : PySem.W.Frag) (ks : List (Bool × Addr)) : It :=
  ⟨fun i H => ∃ ys, AtV K H i ks ys, fun i H v H' => ∃ T ys, v = .ref T ∧ H T = none ∧ H' = upd H T (.tup ys) ∧ ∀ zs, AtV K H i ks zs → zs = ys, fun i H => EndV K H i ks⟩
section
variable {X : Cx} {pins : List (Addr × Obj)} {σ : L2.St} {H : Hp} {s : Shared}
theorem SqX.has {k : Bool} {a : Addr} {xs : List V} (I : Inv X pins σ H s) (q : SqX X.K H k a xs) : ∃ its : List Value, Vals xs its ∧ Sq01 k s.heap a its.toArray := by
  cases k
  · obtain ⟨its, rv, p, _⟩ := I.tuple q
    exact ⟨its, rv, p⟩
  · obtain ⟨its, rv, p, _⟩ := I.list q
    exact ⟨its, rv, p.isList⟩
theorem SqX.inj {k : Bool} {a : Addr} {xs ys : List V} (I : Inv X pins σ H s) (q : SqX X.K H k a xs) (r : SqX X.K H k a ys) : xs = ys := by
  cases k
  · exact I.tuple_inj q r
  · exact I.list_inj q r
theorem AtV.inj {i : Nat} {ks : List (Bool × Addr)} {xs ys : List V} (I : Inv X pins σ H s) (a : AtV X.K H i ks xs) : AtV X.K H i ks ys → ys = xs := by
  induction a generalizing ys with
  | nil => intro b; cases b; rfl
  | cons h1 h2 _ ih =>
    intro b
    cases b with
    | cons g1 g2 g3 =>
      rw [ih g3]
      have := g1.inj I h1
      subst this
      rw [h2] at g2
      cases g2
      rfl
theorem AtV.has {i : Nat} (I : Inv X pins σ H s) : ∀ {src : List Sr} {xs : List V}, (∀ r ∈ src, It01 r.k s.heap r.it r.l i) → AtV X.K H i (src.map fun r => (r.k, r.l)) xs → ∃ us, Vals xs us ∧ AtI s.heap i src us := by
  intro src
  induction src with
  | nil => intro xs _ a; cases a; exact ⟨[], .nil, .nil⟩
  | cons r rs ih =>
    intro xs hi a
    cases a with
    | cons h1 h2 h3 =>
      obtain ⟨us, v1, a1⟩ := ih (fun q hq => hi q (List.mem_cons_of_mem _ hq)) h3
      obtain ⟨its, rv, p⟩ := h1.has I
      obtain ⟨u, hu, ru⟩ := rv.get h2
      exact ⟨u :: us, .cons ru v1, .cons (hi r List.mem_cons_self) p (by simpa using hu) a1⟩
theorem EndV.has {i : Nat} (I : Inv X pins σ H s) : ∀ {src : List Sr}, (∀ r ∈ src, It01 r.k s.heap r.it r.l i) → EndV X.K H i (src.map fun r => (r.k, r.l)) → EndI s.heap i src := by
  intro src
  induction src with
  | nil => intro _ a; cases a
  | cons r rs ih =>
    intro hi a
    cases a with
    | here h1 h2 =>
      obtain ⟨its, rv, p⟩ := h1.has I
      have := rv.length
      exact .here (hi r List.mem_cons_self) p (by simp; omega)
    | next h1 h2 h3 =>
      obtain ⟨its, rv, p⟩ := h1.has I
      obtain ⟨u, hu, ru⟩ := rv.get h2
      exact .next (hi r List.mem_cons_self) p (by simpa using hu) (ih (fun q hq => hi q (List.mem_cons_of_mem _ hq)) h3)
end
def zFp (z TI TO : Addr) (src : List Sr) : List Addr := z :: TI :: TO :: src.map fun r => r.it
def zSt (z TI TO : Addr) (src : List Sr) (i : Nat) (h : Heap) : Prop :=
  IsZip h z TI TO .none ∧ h.get? TI = some (tupO (src.map fun r => Value.ref r.it).toArray) ∧ (∃ kept, kept.size = src.length ∧ h.get? TO = some (tupO kept)) ∧ ∀ r ∈ src, It01 r.k h r.it r.l i
theorem turn_zipN {P : Program} {w : World} {K : PySem.W.Frag} {elts : List Expr} {kk : Nat} {tpos : Pos} {z TI TO : Addr} {r0 : Sr} {rs : List Sr} (D : Apart z TI TO (r0 :: rs)) (hl : (r0 :: rs).length ≤ 1000) :
    Turn P w K (.Tuple elts kk tpos) (ItN K ((r0 :: rs).map fun r => (r.k, r.l))) (zFp z TI TO (r0 :: rs)) z (zSt z TI TO (r0 :: rs)) where
  mem := by simp [zFp]
  obj := fun i h st c hc => by
    obtain ⟨hz, hTI, ⟨kept, _, hTO⟩, hi⟩ := st
    unfold zFp at hc
    rcases List.mem_cons.mp hc with rfl | hc
    · exact ⟨_, hz, fun v q => nomatch q⟩
    rcases List.mem_cons.mp hc with rfl | hc
    · exact ⟨_, hTI, fun v q => nomatch q⟩
    rcases List.mem_cons.mp hc with rfl | hc
    · exact ⟨_, hTO, fun v q => nomatch q⟩
    obtain ⟨r, hr, rfl⟩ := List.mem_map.mp hc
    obtain ⟨o, e, d⟩ := (hi r hr).obj
    exact ⟨o, e, fun v q => by rw [d] at q; cases q⟩
  keep := fun i h h' st k => by
    obtain ⟨hz, hTI, ⟨kept, hk, hTO⟩, hi⟩ := st
    exact ⟨k z (by simp [zFp]) _ hz, k TI (by simp [zFp]) _ hTI, ⟨kept, hk, k TO (by simp [zFp]) _ hTO⟩, fun r hr => (hi r hr).at fun o q => k r.it (by unfold zFp; exact List.mem_cons_of_mem _ (List.mem_cons_of_mem _ (List.mem_cons_of_mem _ (List.mem_map_of_mem hr)))) o q⟩
  item := by
    intro X hP hw hK hc i pins s σ H E I hf st hg
    subst hP hw hK
    obtain ⟨hz, hTI, ⟨kept, hk, hTO⟩, hi⟩ := st
    obtain ⟨ys, hat⟩ := hg
    obtain ⟨us, vu, hat'⟩ := hat.has I hi
    have hul := hat'.length
    have hzl : z < s.heap.objs.size := Heap.lt_size hz
    refine pyNext_zipN_item D hz hTI hTO hk hl hat' fun h' z' TO' i' hT hsz hk' => ?_
    refine ⟨_, rfl, wpAny_letOwnedTupleGo_zip (s := { s with heap := h' }) z' fun h'' z'' sb => ?_⟩
    have hT2 : h''.get? s.heap.objs.size = some (tupO us.toArray) := (sb.2 _ (Nat.ne_of_gt hzl)).trans hT
    have hyl : ys.length ≤ sizeLine := by
      have e := vu.length
      have : (1000 : Nat) ≤ sizeLine := by size_fits
      omega
    have new : ObjOk X.prog X.w (upd H s.heap.objs.size (.tup ys)) h'' s.heap.objs.size (.tup ys) := ⟨hyl, us, vu, ⟨_, hT2, rfl, _, rfl⟩⟩
    have nin : ∀ {c : Addr}, c ∉ zFp z TI TO (r0 :: rs) → c ≠ z ∧ c ≠ TO ∧ ∀ r ∈ r0 :: rs, c ≠ r.it := fun {c} hn => by
      unfold zFp at hn
      refine ⟨fun e => hn (by rw [e]; exact List.mem_cons_self), fun e => hn (by rw [e]; exact List.mem_cons_of_mem _ (List.mem_cons_of_mem _ List.mem_cons_self)), fun r hr e => hn ?_⟩
      rw [e]
      exact List.mem_cons_of_mem _ (List.mem_cons_of_mem _ (List.mem_cons_of_mem _ (List.mem_map_of_mem hr)))
    have I1 : Inv X pins σ (upd H s.heap.objs.size (.tup ys)) { s with heap := h'' } :=
      I.turnedNew (t' := s.toks) (ch := zFp z TI TO (r0 :: rs)) (fun c o hb q => (sb.2 c (nin hb).1).trans (hk' c o (nin hb).1 (nin hb).2.1 (nin hb).2.2 q)) hf (Nat.le_refl _) new
    have TIi : ∀ r ∈ r0 :: rs, TI ≠ r.it := fun r hr => (D.it r hr).2.1.symm
    refine ⟨.ref s.heap.objs.size, _, I1, rfl, ⟨_, ys, rfl, I.hok.fresh (Nat.le_refl _), rfl, fun zs hzs => hat.inj I hzs⟩, ⟨z'', (sb.2 _ D.TIz).trans (hk' _ _ D.TIz D.TITO TIi hTI), ⟨us.toArray, by simpa using hul, (sb.2 _ D.TOz).trans TO'⟩, fun r hr => (i' r hr).at fun o q => (sb.2 _ (D.it r hr).1).trans q⟩, fun c hcm => ?_⟩
    have hlt : c < s.heap.objs.size := by
      unfold zFp at hcm
      rcases List.mem_cons.mp hcm with rfl | hcm
      · exact hzl
      rcases List.mem_cons.mp hcm with rfl | hcm
      · exact Heap.lt_size hTI
      rcases List.mem_cons.mp hcm with rfl | hcm
      · exact Heap.lt_size hTO
      obtain ⟨r, hr, rfl⟩ := List.mem_map.mp hcm
      obtain ⟨o, e, d⟩ := (hi r hr).obj
      exact Heap.lt_size e
    rw [upd_ne (Nat.ne_of_lt hlt)]
    exact (hf c hcm).1
  done := by
    intro X hP hw hK hc i pins s σ H E I hf st hg
    subst hP hw hK
    obtain ⟨hz, hTI, ⟨kept, hk, hTO⟩, hi⟩ := st
    have nin : ∀ {c : Addr}, c ∉ zFp z TI TO (r0 :: rs) → c ≠ z ∧ c ≠ TO ∧ ∀ r ∈ r0 :: rs, c ≠ r.it := fun {c} hn => by
      unfold zFp at hn
      refine ⟨fun e => hn (by rw [e]; exact List.mem_cons_self), fun e => hn (by rw [e]; exact List.mem_cons_of_mem _ (List.mem_cons_of_mem _ List.mem_cons_self)), fun r hr e => hn ?_⟩
      rw [e]
      exact List.mem_cons_of_mem _ (List.mem_cons_of_mem _ (List.mem_cons_of_mem _ (List.mem_map_of_mem hr)))
    exact pyNext_zipN_end (I.ok.hd hc) D hz hTI hTO (by omega) (EndV.has I hi hg) fun h' hk => ⟨rfl, I.turnedL (t' := s.toks) (ch := zFp z TI TO (r0 :: rs)) (fun c o hb q => hk c o (nin hb).1 (nin hb).2.1 (nin hb).2.2 q) hf⟩
  self := fun A i s Q E st h => wpAny_pyIter_zip st.1 h
theorem sq01_lt {k : Bool} {h : Heap} {l : Addr} {xs : Array Value} (q : Sq01 k h l xs) : l < h.objs.size := by
  cases k <;> (obtain ⟨o, e, _⟩ := q; exact Heap.lt_size e)
theorem neA {a b : Nat} (h : a ≠ b) : @Ne Addr a b := h
theorem apart2 (k1 k2 : Bool) (n a b : Nat) (la : a < n) (lb : b < n) : Apart (n + 4) (n + 2) (n + 3) [⟨k1, n, a⟩, ⟨k2, n + 1, b⟩] := by
  refine ⟨neA (by first | omega | (dsimp only; omega)), neA (by first | omega | (dsimp only; omega)), neA (by first | omega | (dsimp only; omega)), ?_, ?_, ?_⟩
  · intro r hr
    simp only [List.mem_cons, List.not_mem_nil, or_false] at hr
    rcases hr with rfl | rfl <;> exact ⟨neA (by first | omega | (dsimp only; omega)), neA (by first | omega | (dsimp only; omega)), neA (by first | omega | (dsimp only; omega)), neA (by first | omega | (dsimp only; omega)), neA (by first | omega | (dsimp only; omega))⟩
  · exact .cons (fun r hr => by rw [List.mem_singleton] at hr; subst hr; exact neA (by first | omega | (dsimp only; omega))) (.cons (fun r hr => absurd hr List.not_mem_nil) .nil)
  · intro r hr q hq
    simp only [List.mem_cons, List.not_mem_nil, or_false] at hr hq
    rcases hr with rfl | rfl <;> rcases hq with rfl | rfl <;> exact neA (by first | omega | (dsimp only; omega))
theorem apart3 (k1 k2 k3 : Bool) (n a b c : Nat) (la : a < n) (lb : b < n) (lc : c < n) : Apart (n + 5) (n + 3) (n + 4) [⟨k1, n, a⟩, ⟨k2, n + 1, b⟩, ⟨k3, n + 2, c⟩] := by
  refine ⟨neA (by first | omega | (dsimp only; omega)), neA (by first | omega | (dsimp only; omega)), neA (by first | omega | (dsimp only; omega)), ?_, ?_, ?_⟩
  · intro r hr
    simp only [List.mem_cons, List.not_mem_nil, or_false] at hr
    rcases hr with rfl | rfl | rfl <;> exact ⟨neA (by first | omega | (dsimp only; omega)), neA (by first | omega | (dsimp only; omega)), neA (by first | omega | (dsimp only; omega)), neA (by first | omega | (dsimp only; omega)), neA (by first | omega | (dsimp only; omega))⟩
  · refine .cons (fun r hr => ?_) (.cons (fun r hr => by rw [List.mem_singleton] at hr; subst hr; exact neA (by first | omega | (dsimp only; omega))) (.cons (fun r hr => absurd hr List.not_mem_nil) .nil))
    simp only [List.mem_cons, List.not_mem_nil, or_false] at hr
    rcases hr with rfl | rfl <;> exact neA (by first | omega | (dsimp only; omega))
  · intro r hr q hq
    simp only [List.mem_cons, List.not_mem_nil, or_false] at hr hq
    rcases hr with rfl | rfl | rfl <;> rcases hq with rfl | rfl | rfl <;> exact neA (by first | omega | (dsimp only; omega))
theorem le_of5 {n c : Nat} (h : c = n + 4 ∨ c = n + 2 ∨ c = n + 3 ∨ c = n ∨ c = n + 1) : n ≤ c := by omega
theorem le_of6 {n c : Nat} (h : c = n + 5 ∨ c = n + 3 ∨ c = n + 4 ∨ c = n ∨ c = n + 1 ∨ c = n + 2) : n ≤ c := by omega
def iZip2 (K : PySem.W.Frag) (ta : TA) : TI := fun σ H R => ta σ H fun vs H1 => ∃ k1 k2 a b xs ys, vs = [.ref a, .ref b] ∧ SqX K H1 k1 a xs ∧ SqX K H1 k2 b ys ∧ R (ItN K [(k1, a), (k2, b)]) H1
theorem pi_zip2 {X : Cx} {e e2 : Expr} {ta : TA} {p pos tpos : Pos} {elts : List Expr} {kk : Nat} (hg : Gl X "zip") (hm : X.mg "zip" = none) (ha : PA X [e, e2] ta)
    (hs : starEach [e, e2] X.env = (false, eval e X.env) :: starEach [e2] X.env := by rfl) (hpl : (backTo pos (starEach [e2] X.env)).any (·.1) = false := by rfl) :
    PI X (.Tuple elts kk tpos) (.Call (.Name "zip" p) [e, e2] [] pos) (iZip2 X.K ta) := by
  refine ⟨fun pins s σ H R I h => ?_⟩
  refine Call_ (ld_blt I hg hm PyProof.Rows.boot_zip (PyProof.Rows.callWith_type1 (thn (ha.run pos pins s σ H _ I h) fun us s1 ⟨vs, H1, I1, r1, q1⟩ => ?_) hs hpl))
  obtain ⟨k1, k2, a, b, xs, ys, ex, hqx, hqy, q⟩ := q1
  subst ex
  cases r1 with
  | cons r rr =>
    cases rr with
    | cons r' rr =>
      cases rr
      cases r
      cases r'
      obtain ⟨its, rv, p1⟩ := hqx.has I1
      obtain ⟨its2, rv2, p2⟩ := hqy.has I1
      have la := sq01_lt p1
      have lb := sq01_lt p2
      refine call_zip2 p1 p2 fun h' hz hTI hTO h1 h2 hk => wpAny_pyIter_zip hz ?_
      have I2 : Inv X pins σ H1 { s1 with heap := h' } := I1.kept (t' := s1.toks) hk
      have D := apart2 k1 k2 s1.heap.objs.size a b la lb
      refine ⟨s1.heap.objs.size + 4, zFp _ _ _ [⟨k1, s1.heap.objs.size, a⟩, ⟨k2, s1.heap.objs.size + 1, b⟩], _, _, H1, rfl, I2, turn_zipN D (by simp), ⟨hz, hTI, ⟨_, rfl, hTO⟩, ?_⟩, fun c hcm => ?_, q⟩
      · intro r hr
        simp only [List.mem_cons, List.not_mem_nil, or_false] at hr
        rcases hr with rfl | rfl
        · exact h1
        · exact h2
      · have hle : s1.heap.objs.size ≤ c := by
          simp only [zFp, List.map_cons, List.map_nil, List.mem_cons, List.not_mem_nil, or_false] at hcm
          exact le_of5 hcm
        exact I1.fpOk hle (I1.hok.fresh hle)
def iZip3 (K : PySem.W.Frag) (ta : TA) : TI := fun σ H R => ta σ H fun vs H1 => ∃ k1 k2 k3 a b c xs ys zs, vs = [.ref a, .ref b, .ref c] ∧ SqX K H1 k1 a xs ∧ SqX K H1 k2 b ys ∧ SqX K H1 k3 c zs ∧ R (ItN K [(k1, a), (k2, b), (k3, c)]) H1
theorem pi_zip3 {X : Cx} {e e2 e3 : Expr} {ta : TA} {p pos tpos : Pos} {elts : List Expr} {kk : Nat} (hg : Gl X "zip") (hm : X.mg "zip" = none) (ha : PA X [e, e2, e3] ta)
    (hs : starEach [e, e2, e3] X.env = (false, eval e X.env) :: starEach [e2, e3] X.env := by rfl) (hpl : (backTo pos (starEach [e2, e3] X.env)).any (·.1) = false := by rfl) :
    PI X (.Tuple elts kk tpos) (.Call (.Name "zip" p) [e, e2, e3] [] pos) (iZip3 X.K ta) := by
  refine ⟨fun pins s σ H R I h => ?_⟩
  refine Call_ (ld_blt I hg hm PyProof.Rows.boot_zip (PyProof.Rows.callWith_type1 (thn (ha.run pos pins s σ H _ I h) fun us s1 ⟨vs, H1, I1, r1, q1⟩ => ?_) hs hpl))
  obtain ⟨k1, k2, k3, a, b, c, xs, ys, zs, ex, hqx, hqy, hqz, q⟩ := q1
  subst ex
  cases r1 with
  | cons r rr =>
    cases rr with
    | cons r' rr =>
      cases rr with
      | cons r'' rr =>
        cases rr
        cases r
        cases r'
        cases r''
        obtain ⟨its, rv, p1⟩ := hqx.has I1
        obtain ⟨its2, rv2, p2⟩ := hqy.has I1
        obtain ⟨its3, rv3, p3⟩ := hqz.has I1
        have la := sq01_lt p1
        have lb := sq01_lt p2
        have lc := sq01_lt p3
        refine call_zip3 p1 p2 p3 fun h' hz hTI hTO h1 h2 h3 hk => wpAny_pyIter_zip hz ?_
        have I2 : Inv X pins σ H1 { s1 with heap := h' } := I1.kept (t' := s1.toks) hk
        have D := apart3 k1 k2 k3 s1.heap.objs.size a b c la lb lc
        refine ⟨s1.heap.objs.size + 5, zFp _ _ _ [⟨k1, s1.heap.objs.size, a⟩, ⟨k2, s1.heap.objs.size + 1, b⟩, ⟨k3, s1.heap.objs.size + 2, c⟩], _, _, H1, rfl, I2, turn_zipN D (by simp), ⟨hz, hTI, ⟨_, rfl, hTO⟩, ?_⟩, fun c hcm => ?_, q⟩
        · intro r hr
          simp only [List.mem_cons, List.not_mem_nil, or_false] at hr
          rcases hr with rfl | rfl | rfl
          · exact h1
          · exact h2
          · exact h3
        · have hle : s1.heap.objs.size ≤ c := by
            simp only [zFp, List.map_cons, List.map_nil, List.mem_cons, List.not_mem_nil, or_false] at hcm
            exact le_of6 hcm
          exact I1.fpOk hle (I1.hok.fresh hle)
end Mr

namespace Mr
open PySem PySem.Spec PyProof.Rows L2 RZ
section
variable {K : PySem.W.Frag} {O : Wo} {Wx : WX} {X : Cx} {G0 H0 G H G1 H1 : Hp} {σ : L2.St} {ρ : Ev} {s s1 : O.S}
/-! ### zip, enumerate, reversed -/
def zipD (xs ys : List D) : List D := (xs.zip ys).map fun p => .tup [p.1, p.2]
theorem zipD_at {xs ys : List D} {i : Nat} {d : D} (h : (zipD xs ys)[i]? = some d) : ∃ a b, xs[i]? = some a ∧ ys[i]? = some b ∧ d = .tup [a, b] := by
  unfold zipD at h
  rw [List.getElem?_map, Option.map_eq_some_iff] at h
  obtain ⟨p, hp, rfl⟩ := h
  rw [List.getElem?_zip_eq_some] at hp
  exact ⟨p.1, p.2, hp.1, hp.2, rfl⟩
theorem zipD_length (xs ys : List D) : (zipD xs ys).length = min xs.length ys.length := by simp [zipD]
theorem new_pair {H : Hp} {T : Addr} {x y : V} {a b : D} (g : Same G H) (n : H T = none) (ra : Rep K G x a) (rb : Rep K G y b) : Tr0 G H (upd G T (.tup [x, y])) (upd H T (.tup [x, y])) ∧ Rep K (upd G T (.tup [x, y])) (.ref T) (.tup [a, b]) :=
  ⟨Tr0.new g n, new_tup g n (.cons ra (.cons rb .nil))⟩
theorem SqX.mono {k : Bool} {a : Addr} {vs : List V} (e : Same G H) (q : SqX K G k a vs) : SqX K H k a vs := by
  cases k
  · exact sq_t e q
  · exact e.seq q
theorem it_zip2 {k1 k2 : Bool} {a b : Addr} {vs ws : List V} {ds es : List D} (hs : SqX K G k1 a vs) (r : Reps K G vs ds) (hs2 : SqX K G k2 b ws) (r2 : Reps K G ws es) : ItOk K (ItN K [(k1, a), (k2, b)]) G (zipD ds es) := fun G1 H e1 e2 i => by
  have h1 : SqX K H k1 a vs := (hs.mono e1).mono e2
  have h2 : SqX K H k2 b ws := (hs2.mono e1).mono e2
  refine ⟨fun d hd => ?_, fun hl => ?_⟩
  · obtain ⟨da, db, q1, q2, rfl⟩ := zipD_at hd
    obtain ⟨v, hv, rv⟩ := r.get' q1
    obtain ⟨w, hw, rw'⟩ := r2.get' q2
    refine ⟨⟨[v, w], .cons h1 hv (.cons h2 hw .nil)⟩, fun x H' y => ?_⟩
    obtain ⟨T, ys, rfl, nT, rfl, f1⟩ := y
    have ep := f1 [v, w] (.cons h1 hv (.cons h2 hw .nil))
    subst ep
    obtain ⟨t, rr⟩ := new_pair e2 nT (rv.mono e1) (rw'.mono e1)
    exact ⟨_, t, rr⟩
  · rw [zipD_length, ← r.length, ← r2.length] at hl
    by_cases hv : vs.length ≤ i
    · exact .here h1 hv
    · exact .next h1 (List.getElem?_eq_getElem (show i < vs.length by omega)) (.here h2 (by omega))
def zip3D (xs ys zs : List D) : List D := (xs.zip (ys.zip zs)).map fun p => .tup [p.1, p.2.1, p.2.2]
theorem zip3D_at {xs ys zs : List D} {i : Nat} {d : D} (h : (zip3D xs ys zs)[i]? = some d) : ∃ a b c, xs[i]? = some a ∧ ys[i]? = some b ∧ zs[i]? = some c ∧ d = .tup [a, b, c] := by
  unfold zip3D at h
  rw [List.getElem?_map, Option.map_eq_some_iff] at h
  obtain ⟨p, hp, rfl⟩ := h
  rw [List.getElem?_zip_eq_some, List.getElem?_zip_eq_some] at hp
  exact ⟨p.1, p.2.1, p.2.2, hp.1, hp.2.1, hp.2.2, rfl⟩
theorem zip3D_length (xs ys zs : List D) : (zip3D xs ys zs).length = min xs.length (min ys.length zs.length) := by simp [zip3D]
theorem it_zip3 {k1 k2 k3 : Bool} {a b c : Addr} {vs ws us : List V} {ds es fs : List D} (hs : SqX K G k1 a vs) (r : Reps K G vs ds) (hs2 : SqX K G k2 b ws) (r2 : Reps K G ws es) (hs3 : SqX K G k3 c us) (r3 : Reps K G us fs) : ItOk K (ItN K [(k1, a), (k2, b), (k3, c)]) G (zip3D ds es fs) := fun G1 H e1 e2 i => by
  have h1 : SqX K H k1 a vs := (hs.mono e1).mono e2
  have h2 : SqX K H k2 b ws := (hs2.mono e1).mono e2
  have h3 : SqX K H k3 c us := (hs3.mono e1).mono e2
  refine ⟨fun d hd => ?_, fun hl => ?_⟩
  · obtain ⟨da, db, dc, q1, q2, q3, rfl⟩ := zip3D_at hd
    obtain ⟨v, hv, rv⟩ := r.get' q1
    obtain ⟨w, hw, rw'⟩ := r2.get' q2
    obtain ⟨u, hu, ru⟩ := r3.get' q3
    refine ⟨⟨[v, w, u], .cons h1 hv (.cons h2 hw (.cons h3 hu .nil))⟩, fun x H' y => ?_⟩
    obtain ⟨T, ys, rfl, nT, rfl, f1⟩ := y
    have ep := f1 [v, w, u] (.cons h1 hv (.cons h2 hw (.cons h3 hu .nil)))
    subst ep
    exact ⟨_, Tr0.new e2 nT, new_tup e2 nT (.cons (rv.mono e1) (.cons (rw'.mono e1) (.cons (ru.mono e1) .nil)))⟩
  · rw [zip3D_length, ← r.length, ← r2.length, ← r3.length] at hl
    by_cases hv : vs.length ≤ i
    · exact .here h1 hv
    · by_cases hw : ws.length ≤ i
      · exact .next h1 (List.getElem?_eq_getElem (show i < vs.length by omega)) (.here h2 hw)
      · exact .next h1 (List.getElem?_eq_getElem (show i < vs.length by omega)) (.next h2 (List.getElem?_eq_getElem (show i < ws.length by omega)) (.here h3 (by omega)))
def sqD : D → Option (List D)
  | .lst xs => some xs
  | .tup xs => some xs
  | _ => none
theorem rep_sqD {v : V} {d : D} {ds : List D} (r : Rep K G v d) (h : sqD d = some ds) : ∃ k a vs, v = .ref a ∧ SqX K G k a vs ∧ Reps K G vs ds := by
  unfold sqD at h
  split at h
  · cases h
    cases r with
    | lst hs r => exact ⟨true, _, _, rfl, hs, r⟩
  · cases h
    cases r with
    | tup hs r => exact ⟨false, _, _, rfl, hs, r⟩
  · cases h
def dZip : List D → Option (List D)
  | [.lst xs, .lst ys] => some (zipD xs ys)
  | [.tup xs, .tup ys] => some (zipD xs ys)
  | [.lst xs, .tup ys] => some (zipD xs ys)
  | [.tup xs, .lst ys] => some (zipD xs ys)
  | _ => none
theorem dZip_sq {ds its : List D} (h : dZip ds = some its) : ∃ d e xs ys, ds = [d, e] ∧ sqD d = some xs ∧ sqD e = some ys ∧ its = zipD xs ys := by
  unfold dZip at h
  split at h <;> first | (cases h; exact ⟨_, _, _, _, rfl, rfl, rfl, rfl⟩) | cases h
def dZip3 : List D → Option (List D)
  | [d, e, f] => (sqD d).bind fun xs => (sqD e).bind fun ys => (sqD f).map fun zs => zip3D xs ys zs
  | _ => none
theorem dZip3_sq {ds its : List D} (h : dZip3 ds = some its) : ∃ d e f xs ys zs, ds = [d, e, f] ∧ sqD d = some xs ∧ sqD e = some ys ∧ sqD f = some zs ∧ its = zip3D xs ys zs := by
  unfold dZip3 at h
  split at h
  · rename_i d e f
    cases h1 : sqD d with
    | none => rw [h1] at h; cases h
    | some xs =>
      cases h2 : sqD e with
      | none => rw [h1, h2] at h; cases h
      | some ys =>
        cases h3 : sqD f with
        | none => rw [h1, h2, h3] at h; cases h
        | some zs => rw [h1, h2, h3] at h; cases h; exact ⟨_, _, _, _, _, _, rfl, h1, h2, h3, rfl⟩
  · cases h
def mItA (O : Wo) (f : List D → Option (List D)) (m : MA O) : MI O := fun ρ s => (m ρ s).bind fun xs s1 => R.lift (f xs) s1
theorem di_zip {e e2 : Expr} {ta : TA} {ma : MA O} {p pos tpos : Pos} {elts : List Expr} {kk : Nat} (hm : X.mg "zip" = none) (ha : DA K O Wx X [e, e2] ta ma) (hg : Gl X "zip" := by rfl)
    (hs : starEach [e, e2] X.env = (false, eval e X.env) :: starEach [e2] X.env := by rfl) (hpl : (backTo pos (starEach [e2] X.env)).any (·.1) = false := by rfl) :
    DI K O Wx X (.Tuple elts kk tpos) (.Call (.Name "zip" p) [e, e2] [] pos) (iZip2 K ta) (mItA O dZip ma) := by
  refine ⟨by have := ha.hK; subst this; exact pi_zip2 hg hm ha.pe hs hpl, fun σ ρ H0 G H s Q F h => ?_⟩
  refine ha.sn σ ρ H0 G H s _ F (pst_bind h fun ds s1 _ x G1 H1 t1 k1 r1 h1 => ?_)
  cases e0 : dZip ds with
  | none => rw [e0] at h1; exact (show False from h1).elim
  | some its =>
    rw [e0] at h1
    obtain ⟨d, e, xs, ys, rfl, s1, s2, rfl⟩ := dZip_sq e0
    cases r1 with
    | cons r1 r2 =>
      cases r2 with
      | cons r2 r3 =>
        cases r3
        obtain ⟨k1', a, vs, rfl, q1, p1⟩ := rep_sqD r1 s1
        obtain ⟨k2', b, ws, rfl, q2, p2⟩ := rep_sqD r2 s2
        exact ⟨_, _, _, _, _, _, rfl, q1.mono t1.gh, q2.mono t1.gh, h1 _ G1 H1 (.refl t1.gh) k1 (it_zip2 q1 p1 q2 p2)⟩
theorem di_zip3 {e e2 e3 : Expr} {ta : TA} {ma : MA O} {p pos tpos : Pos} {elts : List Expr} {kk : Nat} (hm : X.mg "zip" = none) (ha : DA K O Wx X [e, e2, e3] ta ma) (hg : Gl X "zip" := by rfl)
    (hs : starEach [e, e2, e3] X.env = (false, eval e X.env) :: starEach [e2, e3] X.env := by rfl) (hpl : (backTo pos (starEach [e2, e3] X.env)).any (·.1) = false := by rfl) :
    DI K O Wx X (.Tuple elts kk tpos) (.Call (.Name "zip" p) [e, e2, e3] [] pos) (iZip3 K ta) (mItA O dZip3 ma) := by
  refine ⟨by have := ha.hK; subst this; exact pi_zip3 hg hm ha.pe hs hpl, fun σ ρ H0 G H s Q F h => ?_⟩
  refine ha.sn σ ρ H0 G H s _ F (pst_bind h fun ds s1 _ x G1 H1 t1 k1 r1 h1 => ?_)
  cases e0 : dZip3 ds with
  | none => rw [e0] at h1; exact (show False from h1).elim
  | some its =>
    rw [e0] at h1
    obtain ⟨d, e, f, xs, ys, zs, rfl, s1, s2, s3, rfl⟩ := dZip3_sq e0
    cases r1 with
    | cons r1 r2 =>
      cases r2 with
      | cons r2 r3 =>
        cases r3 with
        | cons r3 r4 =>
          cases r4
          obtain ⟨k1', a, vs, rfl, q1, p1⟩ := rep_sqD r1 s1
          obtain ⟨k2', b, ws, rfl, q2, p2⟩ := rep_sqD r2 s2
          obtain ⟨k3', c, us, rfl, q3, p3⟩ := rep_sqD r3 s3
          exact ⟨_, _, _, _, _, _, _, _, _, rfl, q1.mono t1.gh, q2.mono t1.gh, q3.mono t1.gh, h1 _ G1 H1 (.refl t1.gh) k1 (it_zip3 q1 p1 q2 p2 q3 p3)⟩
def enumD (xs : List D) : List D := xs.zipIdx.map fun p => .tup [.int (p.2 : Int), p.1]
theorem it_enum {a : Addr} {vs : List V} {ds : List D} (hs : SqL K G a vs) (r : Reps K G vs ds) : ItOk K (Ite K a) G (enumD ds) := fun G1 H e1 e2 i => by
  have h1 : SqL K H a vs := e2.seq (e1.seq hs)
  refine ⟨fun d hd => ?_, fun hl => ⟨vs, h1, by rw [r.length]; simpa [enumD] using hl⟩⟩
  unfold enumD at hd
  rw [List.getElem?_map, Option.map_eq_some_iff] at hd
  obtain ⟨p, hp, rfl⟩ := hd
  rw [List.getElem?_zipIdx, Option.map_eq_some_iff] at hp
  obtain ⟨d0, hd0, rfl⟩ := hp
  obtain ⟨v, hv, rv⟩ := r.get' hd0
  refine ⟨⟨vs, v, h1, hv⟩, fun x H' y => ?_⟩
  obtain ⟨T, q, rfl, nT, rfl, f1⟩ := y
  have ep := f1 vs h1
  rw [hv] at ep
  cases ep
  have ei : ((0 + i : Nat) : Int) = (i : Int) := by omega
  obtain ⟨t, rr⟩ := new_pair (a := .int (i : Int)) e2 nT (.int (i : Int)) (rv.mono e1)
  refine ⟨_, t, ?_⟩
  dsimp only
  rw [ei]
  exact rr
def dEnum : List D → Option (List D)
  | [.lst xs] => some (enumD xs)
  | _ => none
theorem di_enum {e : Expr} {ta : TA} {ma : MA O} {p pos tpos : Pos} {elts : List Expr} {kk : Nat} (hm : X.mg "enumerate" = none) (ha : DA K O Wx X [e] ta ma) (hg : Gl X "enumerate" := by rfl) (hs : starEach [e] X.env = [(false, eval e X.env)] := by rfl) :
    DI K O Wx X (.Tuple elts kk tpos) (.Call (.Name "enumerate" p) [e] [] pos) (iEnum K ta) (mItA O dEnum ma) := by
  refine ⟨by have := ha.hK; subst this; exact pi_enum hg hm ha.pe hs, fun σ ρ H0 G H s Q F h => ?_⟩
  refine ha.sn σ ρ H0 G H s _ F (pst_bind h fun ds s1 _ x G1 H1 t1 k1 r1 h1 => ?_)
  cases e0 : dEnum ds with
  | none => rw [e0] at h1; exact (show False from h1).elim
  | some its =>
    rw [e0] at h1
    unfold dEnum at e0
    split at e0
    · cases e0
      cases r1 with
      | cons r1 r2 =>
        cases r2
        cases r1 with
        | lst hs r1 => exact ⟨_, _, rfl, t1.gh.seq hs, h1 _ G1 H1 (.refl t1.gh) k1 (it_enum hs r1)⟩
    · cases e0
theorem getElem?_rev {α : Type} {l : List α} {i : Nat} (h : i < l.length) : l.reverse[i]? = l[l.length - 1 - i]? := by
  rw [List.getElem?_reverse h]
theorem it_rev {a : Addr} {vs : List V} {ds : List D} (hs : SqL K G a vs) (r : Reps K G vs ds) : ItOk K (Itv K a vs.length) G ds.reverse := fun G1 H e1 e2 i => by
  have h1 : SqL K H a vs := e2.seq (e1.seq hs)
  refine ⟨fun d hd => ?_, fun hl => show vs.length ≤ i by rw [r.length]; simpa using hl⟩
  have hi : i < ds.length := by simpa using (List.getElem?_eq_some_iff.mp hd).1
  rw [getElem?_rev hi, ← r.length] at hd
  obtain ⟨v, hv, rv⟩ := r.get' hd
  refine ⟨⟨by rw [r.length]; exact hi, vs, v, h1, hv⟩, fun x H' y => ?_⟩
  obtain ⟨e, y⟩ := y
  subst e
  have := y vs h1
  rw [hv] at this
  cases this
  exact ⟨G1, .refl e2, rv.mono e1⟩
theorem it_revT {a : Addr} {vs : List V} {ds : List D} (hs : SqT K G a vs) (r : Reps K G vs ds) : ItOk K (RT.ItvT K a vs.length) G ds.reverse := fun G1 H e1 e2 i => by
  have h1 : SqT K H a vs := sq_t e2 (sq_t e1 hs)
  refine ⟨fun d hd => ?_, fun hl => show vs.length ≤ i by rw [r.length]; simpa using hl⟩
  have hi : i < ds.length := by simpa using (List.getElem?_eq_some_iff.mp hd).1
  rw [getElem?_rev hi, ← r.length] at hd
  obtain ⟨v, hv, rv⟩ := r.get' hd
  refine ⟨⟨by rw [r.length]; exact hi, vs, v, h1, hv⟩, fun x H' y => ?_⟩
  obtain ⟨e, y⟩ := y
  subst e
  have := y vs h1
  rw [hv] at this
  cases this
  exact ⟨G1, .refl e2, rv.mono e1⟩
def dRev : List D → Option (List D)
  | [.lst xs] => some xs.reverse
  | [.tup xs] => some xs.reverse
  | _ => none
theorem di_rev {tg e : Expr} {te : TE} {me : ME O} {p pos : Pos} (hm : X.mg "reversed" = none) (he : DE K O Wx X e te me) (hg : Gl X "reversed" := by rfl) (hs : starEach [e] X.env = (false, eval e X.env) :: starEach [] X.env := by rfl) :
    DI K O Wx X tg (.Call (.Name "reversed" p) [e] [] pos) (RT.iRevA K te) (mItA O dRev (mCons O me (mNil O))) := by
  refine ⟨by have := he.hK; subst this; exact RT.pi_revA hg hm he.pe hs, fun σ ρ H0 G H s Q F h => ?_⟩
  refine he.sn σ ρ H0 G H s _ F ?_
  unfold mItA mCons mNil at h
  revert h
  cases me ρ s with
  | ok d s1 =>
    intro h v G1 H1 t1 k1 r1
    simp only [bind_ok] at h
    cases e0 : dRev [d] with
    | none => rw [e0] at h; exact (show False from h).elim
    | some its =>
      rw [e0] at h
      cases d with
      | lst xs =>
        cases e0
        cases r1 with
        | lst hs r1 => exact ⟨_, _, rfl, .inl ⟨t1.gh.seq hs, h _ G1 H1 t1 k1 (it_rev hs r1)⟩⟩
      | tup xs =>
        cases e0
        cases r1 with
        | tup hs r1 => exact ⟨_, _, rfl, .inr ⟨sq_t t1.gh hs, h _ G1 H1 t1 k1 (it_revT hs r1)⟩⟩
      | _ => cases e0
  | err c fs s1 => exact fun h => h
  | bad => exact fun h => h
/-! ### new lists -/
/-- an expression whose value is a new list, that nobody else holds -/
def PstN (K : PySem.W.Frag) (O : Wo) (Wx : WX) (σ : L2.St) (G H : Hp) (r : R O.S (List D)) (Q : VK) : Prop :=
  match r with
  | .ok ds s' => ∀ p vs G' H', Tr O.W G H G' H' → O.ok s' H' → H p = none → G' p = none → H' p = some (.lst vs) → Reps K G' vs ds → Q (.ref p) H'
  | .err c fs s' => ∀ dd xs G' H', Tr O.W G H G' H' → O.ok s' H' → H' dd = some (.xd xs) → ¬ O.W dd → RepF K G' xs fs → Wx (.ref c) (some dd) σ H'
  | .bad => False
def SndN (K : PySem.W.Frag) (O : Wo) (Wx : WX) (t : TE) (m : MA O) : Prop := ∀ σ ρ H0 G H s Q, Fm K O H0 σ ρ G H s → PstN K O Wx σ G H (m ρ s) Q → t σ H Q
structure DN (K : PySem.W.Frag) (O : Wo) (Wx : WX) (X : Cx) (e : Expr) (t : TE) (m : MA O) : Prop where
  hK : X.K = K
  tk : Takes X Wx
  pe : PE X e t
  sn : SndN K O Wx t m
def mLst (O : Wo) (m : MA O) : ME O := fun ρ s => (m ρ s).bind fun xs s1 => .ok (.lst xs) s1
theorem DN.de {e : Expr} {t : TE} {m : MA O} (h : DN K O Wx X e t m) : DE K O Wx X e t (mLst O m) := by
  refine ⟨h.hK, h.tk, h.pe, fun σ ρ H0 G H s Q F q => ?_⟩
  refine h.sn σ ρ H0 G H s Q F ?_
  unfold mLst at q
  revert q
  cases m ρ s with
  | ok ds s1 =>
    exact fun q p vs G' H' t k n g e r => q (.ref p) (upd G' p (.lst vs)) H' (t.frz n g e) k (.lst (.inl (.inl upd_same)) (r.mono fun b u eb => by rw [upd_ne (ne_of_none eb g)]; exact eb))
  | err c fs s1 => exact fun q => q
  | bad => exact fun q => q
/-- a hidden new object is written -/
theorem Tr.mut {W : Addr → Prop} {G H G' H' : Hp} {p : Addr} {o : HO} (t : Tr W G H G' H') (n : H p = none) (g : G' p = none) : Tr W G H G' (upd H' p o) := by
  refine ⟨t.gg, fun b u e => by rw [upd_ne (ne_of_none e g)]; exact t.gh b u e, t.gr, fun b u w e => by rw [upd_ne (ne_of_none e n)]; exact t.kp b u w e, fun b e => ?_⟩
  by_cases hb : b = p
  · subst hb; exact n
  · rw [upd_ne hb] at e; exact t.dm b e
def listMax (xs : List D) : Option (List D) := if xs.length ≤ 100000 then some xs else none
def mDisp (O : Wo) (m : MA O) : MA O := fun ρ s => (m ρ s).bind fun xs s1 => R.lift (listMax xs) s1
theorem dn_list {es : List Expr} {ta : TA} {ma : MA O} {pos : Pos} (ha : DA K O Wx X es ta ma) : DN K O Wx X (.List es pos) (tLst ta) (mDisp O ma) := by
  refine ⟨ha.hK, ha.tk, pe_lst ha.pe, fun σ ρ H0 G H s Q F h => ?_⟩
  refine ha.sn σ ρ H0 G H s _ F ?_
  unfold mDisp at h
  revert h
  cases ma ρ s with
  | ok ds s1 =>
    intro h xs G1 H1 t1 k1 r1
    have F1 := F.tr t1 k1
    rw [bind_ok] at h
    unfold listMax at h
    split at h
    · rename_i hz
      refine ⟨by rw [r1.length]; exact sz5 hz, fun p np => ?_⟩
      refine h p xs G1 (upd H1 p (.lst xs)) (t1.mut (t1.dm p np) (F1.gh.free np)) ?_ (t1.dm p np) (F1.gh.free np) upd_same r1
      exact O.loc s1 H1 _ (fun a w => by rw [upd_ne]; intro e; rw [e] at w; exact O.dom s1 H1 p k1 w np) k1
    · exact h.elim
  | err c fs s1 => exact fun h => h
  | bad => exact fun h => h
/-! ### comprehensions -/
abbrev WF : WX := fun _ _ _ _ => False
def wipeE (ρ : Ev) : List Nat → Ev
  | [] => ρ
  | v :: vs => (wipeE ρ vs).set v .no
theorem Fm.clr (f : Fm K O H0 σ ρ G H s) (i : Nat) : Fm K O H0 (σ.set i none) (ρ.set i .no) G H s := by
  refine ⟨f.gh, f.wg, f.ok, by simpa using f.len, fun j o x a b => ?_, fun j k p x y hjk a b c e g => ?_⟩
  · by_cases hj : i = j
    · subst hj
      have h2 := (List.getElem?_eq_some_iff.mp b).1
      rw [List.length_set] at h2
      rw [List.getElem?_set_self h2] at b
      cases b
      trivial
    · rw [List.getElem?_set_ne hj] at a b
      exact f.sl j o x a b
  · by_cases hj : i = j
    · subst hj
      have h2 := (List.getElem?_eq_some_iff.mp a).1
      rw [List.length_set] at h2
      rw [List.getElem?_set_self h2] at a
      cases a
      cases c
    · by_cases hk : i = k
      · subst hk
        have h2 := (List.getElem?_eq_some_iff.mp b).1
        rw [List.length_set] at h2
        rw [List.getElem?_set_self h2] at b
        cases b
        cases e
      · rw [List.getElem?_set_ne hj] at a g
        rw [List.getElem?_set_ne hk] at b
        rw [List.getElem?_set_ne hk]
        exact f.ds j k p x y hjk a b c e g
theorem Fm.wipe (f : Fm K O H0 σ ρ G H s) : ∀ vs : List Nat, Fm K O H0 (L2.wipe σ vs) (wipeE ρ vs) G H s
  | [] => f
  | v :: vs => (f.wipe vs).clr v
structure DTs (K : PySem.W.Frag) (O : Wo) (Wx : WX) (X : Cx) (e : List Expr) (t : TT) (m : MT O) : Prop where
  pe : PTs X e t
  sn : SndT K O Wx t m
def mYes (O : Wo) : MT O := fun _ s => .ok true s
theorem dts_nil : DTs K O Wx X [] tYes (mYes O) := ⟨pts_nil, fun σ ρ H0 G H s Q F h => h true G H (.refl F.gh) F.ok rfl⟩
theorem dts_one {c : Expr} {t : TT} {m : MT O} (h : DT K O Wx X c t m) : DTs K O Wx X [c] t m := ⟨pts_one h.pe, h.sn⟩
def lcL (S : Type) (f : D → Ev → Option Ev) (mt : Ev → S → R S Bool) (me : Ev → S → R S D) (ρ : Ev) : List D → List D → S → R S (List D)
  | [], acc, s => .ok acc s
  | d :: ds, acc, s => match f d ρ with
    | none => .bad
    | some ρ1 => match mt ρ1 s with
      | .ok true s1 => match me ρ1 s1 with
        | .ok y s2 => if acc.length < 100000 then lcL S f mt me ρ ds (acc ++ [y]) s2 else .bad
        | _ => .bad
      | .ok false s1 => lcL S f mt me ρ ds acc s1
      | _ => .bad
def mLc (O : Wo) (mi : MI O) (f : D → Ev → Option Ev) (mt : MT O) (me : ME O) (vs : List Nat) : MA O := fun ρ s => (mi ρ s).bind fun items s1 => lcL O.S f mt me (wipeE ρ vs) items [] s1
theorem snd_lc {wi : TI} {mi : MI O} {g : TG} {f : D → Ev → Option Ev} {is vs : List Nat} {tt : TT} {mt : MT O} {te : TE} {me : ME O} (hi : SndI K O Wx wi mi) (hg : SndG K O g f is) (ht : SndT K O WF tt mt) (he : SndE K O WF te me) (hv : ∀ i ∈ is, i ∈ vs) :
    SndN K O Wx (tLc wi g tt te vs) (mLc O mi f mt me vs) := by
  intro σ ρ H0 G H s Q F h
  refine hi σ ρ H0 G H s _ F ?_
  unfold mLc at h
  revert h
  cases mi ρ s with
  | err c fs s1 => exact fun h => h
  | bad => exact fun h => h
  | ok items s1 =>
    intro h J G1 H1 t1 k1 ok Da nD
    rw [bind_ok] at h
    have F1 := F.tr t1 k1
    have nDH : H Da = none := t1.dm Da nD
    have nW : ¬ O.W Da := fun w => O.dom s1 H1 Da k1 w nD
    refine ⟨fun i m H2 => ∃ G2 s2 accV acc, m = (items.drop i).length ∧ Tr O.W G1 H1 G2 H2 ∧ O.ok s2 H2 ∧ G2 Da = none ∧ H2 Da = some (.lst accV) ∧ Reps K G2 accV acc ∧ PstN K O Wx σ G H (lcL O.S f mt me (wipeE ρ vs) (items.drop i) acc s2) Q, ?_, ?_⟩
    · refine ⟨items.length, G1, s1, [], [], by simp, (Tr.refl F1.gh).mut nD (F1.gh.free nD), ?_, F1.gh.free nD, upd_same, .nil, by simpa using h⟩
      exact O.loc s1 H1 _ (fun a w => by rw [upd_ne]; intro e; rw [e] at w; exact nW w) k1
    · rintro i m H2 ⟨G2, s2, accV, acc, rfl, t2, k2, g2, hD, ra, h2⟩
      obtain ⟨ok1, ok2⟩ := ok G2 H2 t2.gg t2.gh i
      have F2 : Fm K O H0 σ ρ G2 H2 s2 := F1.tr t2 k2
      cases hd : items.drop i with
      | nil =>
        rw [hd] at h2
        exact .inl ⟨ok2 (by simpa using hd), h2 Da accV G2 H2 (t1.trans t2) k2 nDH g2 hD ra⟩
      | cons d ds =>
        have hlt : i < items.length := by
          by_cases z : i < items.length
          · exact z
          · rw [List.drop_eq_nil_of_le (by omega)] at hd; cases hd
        have hi? : items[i]? = some d := by
          have := List.drop_eq_getElem_cons hlt
          rw [hd] at this
          injection this with a b
          rw [List.getElem?_eq_getElem hlt, a]
        have hds : items.drop (i + 1) = ds := by
          have := List.drop_eq_getElem_cons hlt
          rw [hd] at this
          injection this with a b
          exact b.symm
        obtain ⟨go, yl⟩ := ok1 d hi?
        rw [hd] at h2
        refine .inr ⟨go, fun H3 => ∃ G3 s3 accV acc, Tr O.W G1 H1 G3 H3 ∧ O.ok s3 H3 ∧ G3 Da = none ∧ H3 Da = some (.lst accV) ∧ Reps K G3 accV acc ∧ PstN K O Wx σ G H (lcL O.S f mt me (wipeE ρ vs) ds acc s3) Q, ?_, fun x H3 y => ?_⟩
        · rintro H3 ⟨G3, s3, aV, a, b1, b2, b3, b4, b5, b6⟩
          exact ⟨ds.length, by simp, G3, s3, aV, a, by rw [hds], b1, b2, b3, b4, b5, by rw [hds]; exact b6⟩
        · obtain ⟨G3, t3, r3⟩ := yl x H3 y
          have F3 := F2.tr0 t3
          have F3w := F3.wipe vs
          have kpD : ∀ {Ga Ha Gb Hb : Hp}, Tr O.W Ga Ha Gb Hb → Ga Da = none → Ha Da = some (.lst accV) → Gb Da = none ∧ Hb Da = some (.lst accV) := fun {Ga Ha Gb Hb} t a b => by
            refine ⟨?_, t.kp _ _ nW b⟩
            cases e : Gb Da with
            | none => rfl
            | some z => rcases t.gr Da z e with q | q <;> simp_all
          obtain ⟨g3, hD3⟩ := kpD t3.up g2 hD
          unfold lcL at h2
          cases ef : f d (wipeE ρ vs) with
          | none => rw [ef] at h2; exact (show False from h2).elim
          | some ρ1 =>
            rw [ef] at h2
            refine hg H0 (L2.wipe σ vs) (wipeE ρ vs) G3 H3 s2 x d ρ1 _ F3w r3 ef fun σ4 F4 w4 => ?_
            refine ⟨by rw [w4 vs hv]; exact wipe_idem σ vs, ?_⟩
            refine ht σ4 ρ1 H0 G3 H3 s2 _ F4 ?_
            revert h2
            dsimp only
            cases mt ρ1 s2 with
            | bad => exact fun h2 => h2
            | err c fs s' => exact fun h2 => (show False from h2).elim
            | ok b s5 =>
              intro h2 b' G5 H5 t5 k5 e5
              subst e5
              obtain ⟨g5, hD5⟩ := kpD t5 g3 hD3
              cases b' with
              | false =>
                rw [if_neg Bool.false_ne_true]
                exact ⟨G5, s5, accV, acc, (t2.trans t3.up).trans t5, k5, g5, hD5, (ra.mono t3.gg).mono t5.gg, h2⟩
              | true =>
                rw [if_pos rfl]
                have F5 := F4.tr t5 k5
                refine he σ4 ρ1 H0 G5 H5 s5 _ F5 ?_
                revert h2
                dsimp only
                cases me ρ1 s5 with
                | bad => exact fun h2 => h2
                | err c fs s' => exact fun h2 => (show False from h2).elim
                | ok dy s6 =>
                  intro h2 yv G6 H6 t6 k6 r6
                  obtain ⟨g6, hD6⟩ := kpD t6 g5 hD5
                  have ra6 : Reps K G6 accV acc := ((ra.mono t3.gg).mono t5.gg).mono t6.gg
                  dsimp only at h2
                  split at h2
                  · rename_i hz
                    refine ⟨accV, hD6, by rw [ra6.length]; exact sz5l hz, G6, s6, accV ++ [yv], acc ++ [dy], (((t2.trans t3.up).trans t5).trans t6).mut nD g6, ?_, g6, upd_same, ra6.append (.cons r6 .nil), h2⟩
                    exact O.loc s6 H6 _ (fun a w => by rw [upd_ne]; intro e; rw [e] at w; exact nW w) k6
                  · exact (show False from h2).elim
where
  wipe_idem (σ : L2.St) (vs : List Nat) : L2.wipe (L2.wipe σ vs) vs = L2.wipe σ vs := by
    have key : ∀ ws : List Nat, (∀ i ∈ ws, i ∈ vs) → L2.wipe (L2.wipe σ ws) vs = L2.wipe σ vs := by
      intro ws
      induction ws with
      | nil => intro _; rfl
      | cons w ws ih =>
        intro hw
        show L2.wipe ((L2.wipe σ ws).set w none) vs = _
        rw [wipe_set (hw w List.mem_cons_self)]
        exact ih fun i hi => hw i (List.mem_cons_of_mem _ hi)
    exact key vs fun _ h => h
/-- [e for tg in iter if ..] -/
theorem dn_lc {elt tg iter : Expr} {ifs : List Expr} {scope : Scope} {own : List (Str × Nat)} {pos : Pos} {wi : TI} {g : TG} {tt : TT} {te : TE} {mi : MI O} {f : D → Ev → Option Ev} {is : List Nat} {mt : MT O} {me : ME O} (c : Cs K Wx X) (hi : DI K O Wx X tg iter wi mi) (ok : BlkOk X.N X.env.scope scope own)
    (hg : ∀ (s : Shared) (H : Hp) (C : Addr) (cl : List (Str × Addr)) (fp : List Addr), DG K O (X.blk s H scope (compEnvC scope cl C X.env) fp) tg g f is)
    (ht : ∀ (s : Shared) (H : Hp) (C : Addr) (cl : List (Str × Addr)) (fp : List Addr), Cn K WF (X.blk s H scope (compEnvC scope cl C X.env) fp) → DTs K O WF (X.blk s H scope (compEnvC scope cl C X.env) fp) ifs tt mt)
    (he : ∀ (s : Shared) (H : Hp) (C : Addr) (cl : List (Str × Addr)) (fp : List Addr), Cn K WF (X.blk s H scope (compEnvC scope cl C X.env) fp) → DE K O WF (X.blk s H scope (compEnvC scope cl C X.env) fp) elt te me)
    (hv : ∀ i ∈ is, i ∈ own.map (·.2) := by decide) (hs : ∀ x, foldedSetIterable iter X.env x = pure x := by intro _; rfl) : DN K O Wx X (.ListComp elt [⟨tg, iter, ifs, 0⟩] scope pos) (tLc wi g tt te (own.map (·.2))) (mLc O mi f mt me (own.map (·.2))) := by
  have cn : ∀ (s : Shared) (H : Hp) (C : Addr) (cl : List (Str × Addr)) (fp : List Addr), Cn K WF (X.blk s H scope (compEnvC scope cl C X.env) fp) := fun s H C cl fp => ⟨c.cn.hK, takes0⟩
  refine ⟨c.cn.hK, c.cn.tk, pe_lc c.hc c.nd hi.pe ok (fun s H C cl fp => (hg s H C cl fp).pe) (fun s H C cl fp => (ht s H C cl fp (cn ..)).pe) (fun s H C cl fp => (he s H C cl fp (cn ..)).pe) hs, ?_⟩
  exact snd_lc hi.sn (hg X.s_0 (fun _ => none) 0 [] []).sn (ht X.s_0 (fun _ => none) 0 [] [] (cn ..)).sn (he X.s_0 (fun _ => none) 0 [] [] (cn ..)).sn hv
end
end Mr

namespace Mr
open PySem PySem.Spec PyProof.Rows L2 RZ
section
variable {K : PySem.W.Frag} {O : Wo} {Wx : WX} {X : Cx} {G0 H0 G H G1 H1 : Hp} {σ : L2.St} {ρ : Ev} {s s1 : O.S}
/-! ### lists of one's own: a slot holds a list that nobody else holds -/
theorem own_in {x : Sl} {o : Option V} (h : SlOk K O H0 G H o x) (hx : isOwn x = true) : ∃ p u, o = some (.ref p) ∧ H p = some u := by
  cases x with
  | own xs => obtain ⟨p, vs, a, b, _⟩ := h; exact ⟨p, _, a, b⟩
  | ownD xs => obtain ⟨p, vs, a, b, _⟩ := h; exact ⟨p, _, a, b⟩
  | ownI C xs => obtain ⟨p, dx, vs, a, b, _⟩ := h; exact ⟨p, _, a, b⟩
  | _ => cases hx
/-- slot i is set to a new thing of one's own, at p -/
theorem Fm.put (f : Fm K O H0 σ ρ G H s) (t : Tr O.W G H G1 H1) (k : O.ok s1 H1) {i : Nat} {p : Addr} {x : Sl} (np : H p = none) (ok : SlOk K O H0 G1 H1 (some (.ref p)) x) : Fm K O H0 (σ.set i (some (.ref p))) (ρ.set i x) G1 H1 s1 := by
  have f1 := f.tr t k
  have far : ∀ (j : Nat) (y : Sl), ρ[j]? = some y → isOwn y = true → σ[j]? ≠ some (some (.ref p)) := fun j y a b e => by
    obtain ⟨o, e1, e2⟩ := f.at a
    rw [e] at e1
    cases e1
    obtain ⟨q, u, e3, e4⟩ := own_in e2 b
    cases e3
    rw [np] at e4
    cases e4
  refine ⟨f1.gh, f1.wg, k, by simpa using f.len, fun j o y a b => ?_, fun j l q y z hjl a b c e g => ?_⟩
  · by_cases hj : i = j
    · subst hj
      have h1 := (List.getElem?_eq_some_iff.mp a).1
      have h2 := (List.getElem?_eq_some_iff.mp b).1
      rw [List.length_set] at h1 h2
      rw [List.getElem?_set_self h1] at a
      rw [List.getElem?_set_self h2] at b
      cases a; cases b
      exact ok
    · rw [List.getElem?_set_ne hj] at a b
      exact f1.sl j o y a b
  · by_cases hj : i = j
    · subst hj
      have hl : ¬ i = l := hjl
      have h1 := (List.getElem?_eq_some_iff.mp g).1
      rw [List.length_set] at h1
      rw [List.getElem?_set_self h1] at g
      rw [List.getElem?_set_ne hl] at b ⊢
      cases g
      exact far l z b e
    · rw [List.getElem?_set_ne hj] at a g
      by_cases hl : i = l
      · subst hl
        intro g2
        have h1 := (List.getElem?_eq_some_iff.mp g2).1
        rw [List.length_set] at h1
        rw [List.getElem?_set_self h1] at g2
        cases g2
        exact far j y a c g
      · rw [List.getElem?_set_ne hl] at b ⊢
        exact f1.ds j l q y z hjl a b c e g
/-- the thing of slot i, at p, is written -/
theorem Fm.wr (f : Fm K O H0 σ ρ G H s) {i : Nat} {p : Addr} {x y : Sl} {o : HO} (hi : ρ[i]? = some x) (hx : isOwn x = true) (hy : isOwn y = true) (hp : σ[i]? = some (some (.ref p))) (gp : G p = none) (wp : ¬ O.W p) (nx : ∀ u, H p = some u → ∀ fs, u ≠ .xd fs) (ok : SlOk K O H0 G (upd H p o) (some (.ref p)) y) :
    Fm K O H0 σ (ρ.set i y) G (upd H p o) s := by
  refine ⟨fun b u e => by rw [upd_ne (ne_of_none e gp)]; exact f.gh b u e, f.wg, O.loc s H _ (fun a w => by rw [upd_ne]; intro e; rw [e] at w; exact wp w) f.ok, by simpa using f.len, fun j o' z a b => ?_, fun j l q z z2 hjl a b c e g => ?_⟩
  · by_cases hj : i = j
    · subst hj
      have h2 := (List.getElem?_eq_some_iff.mp b).1
      rw [List.length_set] at h2
      rw [List.getElem?_set_self h2] at b
      cases b
      rw [hp] at a
      cases a
      exact ok
    · rw [List.getElem?_set_ne hj] at b
      have q := f.sl j o' z a b
      have far : isOwn z = true → o' ≠ some (.ref p) := fun hz e => by
        subst e
        exact f.ds i j p x z hj hi b hx hz hp a
      cases z with
      | no => trivial
      | sh d => exact q
      | own xs =>
        obtain ⟨r, vs, e1, e2, e3, e4, e5, e6⟩ := q
        exact ⟨r, vs, e1, by rw [upd_ne (fun e => far rfl (by rw [e1, e]))]; exact e2, e3, e4, e5, e6⟩
      | ownD xs =>
        obtain ⟨r, vs, e1, e2, e3, e4, e5, e6⟩ := q
        exact ⟨r, vs, e1, by rw [upd_ne (fun e => far rfl (by rw [e1, e]))]; exact e2, e3, e4, e5, e6⟩
      | ownI C xs =>
        obtain ⟨r, dx, vs, e1, e2, e3, e4, e5, e6⟩ := q
        exact ⟨r, dx, vs, e1, by rw [upd_ne (fun e => far rfl (by rw [e1, e]))]; exact e2, e3, e4, e5, e6⟩
      | exc c fs =>
        obtain ⟨a', dd, xs, e1, e2, e3, e4, e5⟩ := q
        exact ⟨a', dd, xs, e1, e2, by rw [upd_ne (fun e => nx _ (by rw [← e]; exact e3) xs rfl)]; exact e3, e4, e5⟩
  · have own_of : ∀ (j : Nat) (z : Sl), (ρ.set i y)[j]? = some z → isOwn z = true → ∃ z', ρ[j]? = some z' ∧ isOwn z' = true := fun j z a c => by
      by_cases hj : i = j
      · subst hj; exact ⟨x, hi, hx⟩
      · rw [List.getElem?_set_ne hj] at a; exact ⟨z, a, c⟩
    obtain ⟨u1, a1, c1⟩ := own_of j z a c
    obtain ⟨u2, a2, c2⟩ := own_of l z2 b e
    exact f.ds j l q u1 u2 hjl a1 a2 c1 c2 g
theorem Fs.wr (f : Fs K O G0 H0 σ ρ G H s) {i : Nat} {p : Addr} {x y : Sl} {o : HO} (hi : ρ[i]? = some x) (hx : isOwn x = true) (hy : isOwn y = true) (hp : σ[i]? = some (some (.ref p))) (gp : G p = none) (wp : ¬ O.W p) (h0 : H0 p = none) (nx : ∀ u, H p = some u → ∀ fs, u ≠ .xd fs) (ok : SlOk K O H0 G (upd H p o) (some (.ref p)) y) :
    Fs K O G0 H0 σ (ρ.set i y) G (upd H p o) s := ⟨f.fm.wr hi hx hy hp gp wp nx ok, f.tr.mut h0 gp⟩
/-- x = a new list -/
def mOwn (O : Wo) (i : Nat) (m : MA O) : MS O := fun ρ s => toS (m ρ s) ρ fun xs s1 => .nx (ρ.set i (.own xs)) s1
theorem snd_own {i : Nat} {te : TE} {me : MA O} (he : SndN K O Wx te me) : SndS K O Wx (tAsg te (gName i)) (mOwn O i me) := by
  intro G0 H0 σ ρ G H s Dn F h
  refine he σ ρ H0 G H s _ F.fm ?_
  unfold mOwn at h
  revert h
  cases me ρ s with
  | ok ds s1 =>
    intro h p vs G' H' t k n g e r
    have n0 : H0 p = none := F.tr.dm p n
    have nW : ¬ O.W p := fun w => O.dom s H p F.fm.ok w n
    exact h _ G' H' t.gg ⟨F.fm.put t k n ⟨p, vs, rfl, e, r, g, nW, n0⟩, F.tr.trans t⟩
  | err c fs s' => exact fun h dd xs G' H' t k e n r => h σ dd xs G' H' t.gg (F.go t k) e n r
  | bad => exact fun h => h
theorem ds_own (i : Nat) {x : Str} {e : Expr} {te : TE} {me : MA O} {pos pos' : Pos} (hN : X.N.Nodup) (he : DN K O Wx X e te me) (hi : X.N[i]? = some x := by rfl) (hx : Loc X.env.scope x := by first | exact Or.inl rfl | exact Or.inr rfl) (hs : swapsWith e (some (.Name x pos')) pos.line X.env = pure false := by rfl)
    (hf : X.fn x = true ∨ X.env.scope.names.lookup x = some .local := by first | exact .inl rfl | exact .inr rfl | assumption) : DS K O Wx X (.Assign [.Name x pos'] e pos) (tAsg te (gName i)) (mOwn O i me) := ⟨ps_set hN hi hx he.pe hs hf, snd_own he.sn⟩
/-- x = [.. for ..], x a local: the list is told (mAsg), or one's own (mOwn) -/
structure DLc (K : PySem.W.Frag) (O : Wo) (Wx : WX) (X : Cx) (elt tg iter : Expr) (ifs : List Expr) (scope : Scope) (pos : Pos) (t : TE) (m : MA O) : Prop where
  dn : DN K O Wx X (.ListComp elt [⟨tg, iter, ifs, 0⟩] scope pos) t m
  ps : ∀ (i : Nat) (y : Str) (py spos : Pos), X.N[i]? = some y → X.env.scope.names.lookup y = some .local → swapsWith (.ListComp elt [⟨tg, iter, ifs, 0⟩] scope pos) (some (.Name y py)) spos.line X.env = pure true →
    PS X (.Assign [.Name y py] (.ListComp elt [⟨tg, iter, ifs, 0⟩] scope pos) spos) (tAsg t (gName i))
theorem dlc {elt tg iter : Expr} {ifs : List Expr} {scope : Scope} {own : List (Str × Nat)} {pos : Pos} {wi : TI} {g : TG} {tt : TT} {te : TE} {mi : MI O} {f : D → Ev → Option Ev} {is : List Nat} {mt : MT O} {me : ME O} (c : Cs K Wx X) (hi : DI K O Wx X tg iter wi mi) (ok : BlkOk X.N X.env.scope scope own)
    (hg : ∀ (s : Shared) (H : Hp) (C : Addr) (cl : List (Str × Addr)) (fp : List Addr), DG K O (X.blk s H scope (compEnvC scope cl C X.env) fp) tg g f is)
    (ht : ∀ (s : Shared) (H : Hp) (C : Addr) (cl : List (Str × Addr)) (fp : List Addr), Cn K WF (X.blk s H scope (compEnvC scope cl C X.env) fp) → DTs K O WF (X.blk s H scope (compEnvC scope cl C X.env) fp) ifs tt mt)
    (he : ∀ (s : Shared) (H : Hp) (C : Addr) (cl : List (Str × Addr)) (fp : List Addr), Cn K WF (X.blk s H scope (compEnvC scope cl C X.env) fp) → DE K O WF (X.blk s H scope (compEnvC scope cl C X.env) fp) elt te me)
    (hv : ∀ i ∈ is, i ∈ own.map (·.2) := by decide) (hs : ∀ x, foldedSetIterable iter X.env x = pure x := by intro _; rfl) : DLc K O Wx X elt tg iter ifs scope pos (tLc wi g tt te (own.map (·.2))) (mLc O mi f mt me (own.map (·.2))) := by
  have cn : ∀ (s : Shared) (H : Hp) (C : Addr) (cl : List (Str × Addr)) (fp : List Addr), Cn K WF (X.blk s H scope (compEnvC scope cl C X.env) fp) := fun s H C cl fp => ⟨c.cn.hK, takes0⟩
  exact ⟨dn_lc c hi ok hg ht he hv hs, fun i y py spos hy hyl hsw => ps_setLc c.hc c.nd hy hyl hsw hi.pe ok (fun s H C cl fp => (hg s H C cl fp).pe) (fun s H C cl fp => (ht s H C cl fp (cn ..)).pe) (fun s H C cl fp => (he s H C cl fp (cn ..)).pe) hs⟩
theorem ds_setLc (i : Nat) {y : Str} {elt tg iter : Expr} {ifs : List Expr} {scope : Scope} {pos py spos : Pos} {t : TE} {m : MA O} (hN : X.N.Nodup) (h : DLc K O Wx X elt tg iter ifs scope pos t m) (hi : X.N[i]? = some y := by rfl) (hyl : X.env.scope.names.lookup y = some .local := by rfl)
    (hsw : swapsWith (.ListComp elt [⟨tg, iter, ifs, 0⟩] scope pos) (some (.Name y py)) spos.line X.env = pure true := by exact sw_true rfl rfl rfl (by decide +kernel))
    (hf : X.fn y = true ∨ X.env.scope.names.lookup y = some .local := by first | exact .inl rfl | exact .inr rfl | assumption) : DS K O Wx X (.Assign [.Name y py] (.ListComp elt [⟨tg, iter, ifs, 0⟩] scope pos) spos) (tAsg t (gName i)) (mAsg O (mLst O m) (fName i)) :=
  ⟨h.ps i y py spos hi hyl hsw, snd_asg h.dn.de.sn (dg_name (K := K) (O := O) (X := X) (pos := py) i hN hi (.inl hyl) hf).sn⟩
theorem ds_ownLc (i : Nat) {y : Str} {elt tg iter : Expr} {ifs : List Expr} {scope : Scope} {pos py spos : Pos} {t : TE} {m : MA O} (h : DLc K O Wx X elt tg iter ifs scope pos t m) (hi : X.N[i]? = some y := by rfl) (hyl : X.env.scope.names.lookup y = some .local := by rfl)
    (hsw : swapsWith (.ListComp elt [⟨tg, iter, ifs, 0⟩] scope pos) (some (.Name y py)) spos.line X.env = pure true := by exact sw_true rfl rfl rfl (by decide +kernel)) :
    DS K O Wx X (.Assign [.Name y py] (.ListComp elt [⟨tg, iter, ifs, 0⟩] scope pos) spos) (tAsg t (gName i)) (mOwn O i m) := ⟨h.ps i y py spos hi hyl hsw, snd_own h.dn.sn⟩
theorem not_xd_l {H : Hp} {p : Addr} {vs : List V} (h : H p = some (.lst vs)) : ∀ u, H p = some u → ∀ fs, u ≠ .xd fs := fun u e fs z => by rw [h] at e; cases e; cases z
/-- x.append(e) -/
def mAppend (O : Wo) (i : Nat) (m : ME O) : MS O := fun ρ s => match ρ[i]? with
  | some (.own xs) => toS (m ρ s) ρ fun d s1 => if xs.length < 100000 then .nx (ρ.set i (.own (xs ++ [d]))) s1 else .bad
  | _ => .bad
theorem ds_append (i : Nat) {x : Str} {e : Expr} {te : TE} {me : ME O} {p1 p2 p3 p4 : Pos} (he : DE K O Wx X e te me) (hN : X.N[i]? = some x := by rfl) (hv : Vis X.env.scope x := by first | exact Or.inl rfl | exact Or.inr (Or.inl rfl) | exact Or.inr (Or.inr rfl)) (hd : (x == ("__debug__" : Str)) = false := by decide)
    (hcd : (x == ("__classdict__" : Str)) = false := by decide) (hbase : attributeBase (.Name x p1) "append" X.env (eval (.Name x p1) X.env) = eval (.Name x p1) X.env := by rfl)
    (hfew : ((backTo p3 (starEach [e] X.env)).all (fun x => !x.1) && (backToKw p3 (keywordEach [] X.env)).all (fun x => x.1.isSome) && decide ([e].length + ([] : List Keyword).length + (if ([] : List Keyword).isEmpty then 0 else 1) < 30)) = true := by rfl)
    (hline : (p2.endLine == p3.line) = true := by rfl) (hse : starEach [e] X.env = (false, eval e X.env) :: starEach [] X.env := by rfl) (hpl : (backTo p3 (starEach [] X.env)).any (·.1) = false := by rfl)
    (hs : swapsWith (.Call (.Attribute (.Name x p1) "append" p2) [e] [] p3) none p4.line X.env = pure false := by rfl) : DS K O Wx X (.Expr (.Call (.Attribute (.Name x p1) "append" p2) [e] [] p3) p4) (tDrop (tBM K "list" rAppend (tVar i) (tCons te tNil))) (mAppend O i me) := by
  refine ⟨by rw [← he.hK]; exact ps_expr (pe_bm PySem.F.plainAttrs_list PySem.F.slot_list_append PySem.F.type_list_append mt_append (pe_var hN hv hd hcd) (pa_cons he.pe pa_nil hse) hbase hfew hline hse hpl) hs, fun G0 H0 σ ρ G H s Dn F h => ?_⟩
  unfold mAppend at h
  split at h
  · rename_i xs ei
    obtain ⟨o, eo, p, vs, rfl, hp, r, gp, wp, h0⟩ := F.fm.at ei
    refine ⟨.ref p, eo, .inl ⟨rfl, vs, .inl (.inl hp)⟩, ?_⟩
    refine he.sn σ ρ H0 G H s _ F.fm (pst_toS F h fun d s1 _ v G1 H1 t1 k1 r1 h1 => ?_)
    have F1 := F.go t1 k1
    split at h1
    · rename_i hz
      obtain ⟨o', eo', p', vs', e', hp', r', gp', wp', h0'⟩ := F1.fm.at ei
      rw [eo] at eo'
      subst e'
      cases eo'
      exact ⟨p, vs', v, rfl, rfl, hp', by rw [r'.length]; exact sz5l hz, h1 σ G1 _ (Same.refl _) (F1.wr ei rfl rfl eo gp' wp' h0' (not_xd_l hp') ⟨p, _, rfl, upd_same, r'.append (.cons r1 .nil), gp', wp', h0'⟩)⟩
    · exact (show False from h1).elim
  · exact h.elim
/-- x.extend(a new list) -/
def mExtend (O : Wo) (i : Nat) (m : MA O) : MS O := fun ρ s => match ρ[i]? with
  | some (.own xs) => toS (m ρ s) ρ fun ds s1 => if xs.length + ds.length ≤ 100000 then .nx (ρ.set i (.own (xs ++ ds))) s1 else .bad
  | _ => .bad
theorem ds_extend (i : Nat) {x : Str} {e : Expr} {te : TE} {me : MA O} {p1 p2 p3 p4 : Pos} (he : DN K O Wx X e te me) (hN : X.N[i]? = some x := by rfl) (hv : Vis X.env.scope x := by first | exact Or.inl rfl | exact Or.inr (Or.inl rfl) | exact Or.inr (Or.inr rfl)) (hd : (x == ("__debug__" : Str)) = false := by decide) (hcd : (x == ("__classdict__" : Str)) = false := by decide)
    (hbase : attributeBase (.Name x p1) "extend" X.env (eval (.Name x p1) X.env) = eval (.Name x p1) X.env := by rfl)
    (hfew : ((backTo p3 (starEach [e] X.env)).all (fun x => !x.1) && (backToKw p3 (keywordEach [] X.env)).all (fun x => x.1.isSome) && decide ([e].length + ([] : List Keyword).length + (if ([] : List Keyword).isEmpty then 0 else 1) < 30)) = true := by rfl)
    (hline : (p2.endLine == p3.line) = true := by rfl) (hse : starEach [e] X.env = (false, eval e X.env) :: starEach [] X.env := by rfl) (hpl : (backTo p3 (starEach [] X.env)).any (·.1) = false := by rfl)
    (hs : swapsWith (.Call (.Attribute (.Name x p1) "extend" p2) [e] [] p3) none p4.line X.env = pure false := by rfl) : DS K O Wx X (.Expr (.Call (.Attribute (.Name x p1) "extend" p2) [e] [] p3) p4) (tDrop (tBM K "list" rExtend (tVar i) (tCons te tNil))) (mExtend O i me) := by
  refine ⟨by rw [← he.hK]; exact ps_expr (pe_bm PySem.F.plainAttrs_list PySem.F.slot_list_extend PySem.F.type_list_extend mt_extend (pe_var hN hv hd hcd) (pa_cons he.pe pa_nil hse) hbase hfew hline hse hpl) hs, fun G0 H0 σ ρ G H s Dn F h => ?_⟩
  unfold mExtend at h
  split at h
  · rename_i xs ei
    obtain ⟨o, eo, p, vs, rfl, hp, r, gp, wp, h0⟩ := F.fm.at ei
    refine ⟨.ref p, eo, .inl ⟨rfl, vs, .inl (.inl hp)⟩, ?_⟩
    refine he.sn σ ρ H0 G H s _ F.fm ?_
    revert h
    cases me ρ s with
    | err c fs s' => exact fun h dd xs G' H' t k e n r => h σ dd xs G' H' t.gg (F.go t k) e n r
    | bad => exact fun h => h
    | ok ds s1 =>
      intro h q ws G1 H1 t1 k1 nq gq hq rq
      have F1 := F.go t1 k1
      rw [toS_ok] at h
      split at h
      · rename_i hz
        obtain ⟨o', eo', p', vs', e', hp', r', gp', wp', h0'⟩ := F1.fm.at ei
        rw [eo] at eo'
        subst e'
        cases eo'
        exact ⟨p, q, vs', ws, rfl, rfl, hp', hq, by rw [r'.length, rq.length]; exact sz5 hz, h σ G1 _ t1.gg (F1.wr ei rfl rfl eo gp' wp' h0' (not_xd_l hp') ⟨p, _, rfl, upd_same, r'.append rq, gp', wp', h0'⟩)⟩
      · exact h.elim
  · exact h.elim
/-- x[e1] = e2 -/
def mSetI (O : Wo) (i : Nat) (mi me : ME O) : MS O := fun ρ s => toS (me ρ s) ρ fun d s1 => match ρ[i]? with
  | some (.own xs) => toS (mi ρ s1) ρ fun k s2 => match k with
    | .int z => match ixN xs.length z with
      | some j => .nx (ρ.set i (.own (xs.set j d))) s2
      | none => .bad
    | _ => .bad
  | _ => .bad
theorem ds_setI (i : Nat) {x : Str} {e ei : Expr} {te ti : TE} {me mi : ME O} {p1 p2 p3 : Pos} (he : DE K O Wx X e te me) (hi : DE K O Wx X ei ti mi) (hN : X.N[i]? = some x := by rfl) (hv : Vis X.env.scope x := by first | exact Or.inl rfl | exact Or.inr (Or.inl rfl) | exact Or.inr (Or.inr rfl))
    (hd : (x == ("__debug__" : Str)) = false := by decide) (hcd : (x == ("__classdict__" : Str)) = false := by decide) (hsw : swapsWithSole [.Subscript (.Name x p1) ei p2] e p3.line X.env = pure false := by rfl) (hw : swappedStores [.Subscript (.Name x p1) ei p2] e X.env = pure none := by rfl) (h1 : (assignEach [.Subscript (.Name x p1) ei p2] X.env).map (·.2) = [assign (.Subscript (.Name x p1) ei p2) X.env] := by rfl)
    (ha : ∀ v, assign (.Subscript (.Name x p1) ei p2) X.env v = (do
      let ov ← holding [v] (eval (.Name x p1) X.env)
      let iv ← holding [v, ov] (eval ei X.env)
      standAt p2
      holding [v, ov, iv] (setItem ov iv v)
      release [v, ov, iv] []) := by intro _; rfl) : DS K O Wx X (.Assign [.Subscript (.Name x p1) ei p2] e p3) (tAsg te (gSub (tVar i) ti rSetL)) (mSetI O i mi me) := by
  refine ⟨ps_asg he.pe (pg_sub (pe_var hN hv hd hcd) hi.pe set_list ha) hsw hw h1, fun G0 H0 σ ρ G H s Dn F h => ?_⟩
  refine he.sn σ ρ H0 G H s _ F.fm (pst_toS F h fun d s1 _ v G1 H1 t1 k1 r1 h1 => ?_)
  have F1 := F.go t1 k1
  split at h1
  · rename_i xs ei
    obtain ⟨o, eo, p, vs, rfl, hp, r, gp, wp, h0⟩ := F1.fm.at ei
    refine ⟨.ref p, eo, ?_⟩
    refine hi.sn σ ρ H0 G1 H1 s1 _ F1.fm (pst_toS F1 h1 fun k s2 _ kv G2 H2 t2 k2 r2 h2 => ?_)
    have F2 := F1.go t2 k2
    cases k with
    | int z =>
      cases r2
      dsimp only at h2
      split at h2
      · rename_i j ej
        obtain ⟨o', eo', p', vs', e', hp', r', gp', wp', h0'⟩ := F2.fm.at ei
        rw [eo] at eo'
        subst e'
        cases eo'
        exact ⟨p, vs', z, j, rfl, rfl, hp', by rw [r'.length]; exact ej, h2 σ G2 _ (Same.refl _) (F2.wr ei rfl rfl eo gp' wp' h0' (not_xd_l hp') ⟨p, _, rfl, upd_same, r'.set (r1.mono t2.gg) j, gp', wp', h0'⟩)⟩
      · exact (show False from h2).elim
    | _ => exact (show False from h2).elim
  · exact (show False from h1).elim
/-! ### what is one's own never changes any more -/
def frzE (i : Nat) (ρ : Ev) : Ev := match ρ[i]? with
  | some (.own xs) => ρ.set i (.sh (.lst xs))
  | _ => ρ
theorem Fm.frz (f : Fm K O H0 σ ρ G H s) (i : Nat) : ∃ G', Same G G' ∧ Same G' H ∧ (∀ b o, G' b = some o → G b = some o ∨ H0 b = none) ∧ Fm K O H0 σ (frzE i ρ) G' H s := by
  unfold frzE
  split
  · rename_i xs ei
    obtain ⟨o, eo, p, vs, rfl, hp, r, gp, wp, h0⟩ := f.at ei
    have e1 : Same G (upd G p (.lst vs)) := fun b u e => by rw [upd_ne (ne_of_none e gp)]; exact e
    have e2 : Same (upd G p (.lst vs)) H := fun b u e => by
      by_cases hb : b = p
      · subst hb; rw [upd_same] at e; rw [hp]; exact e
      · rw [upd_ne hb] at e; exact f.gh b u e
    refine ⟨upd G p (.lst vs), e1, e2, fun b u e => ?_, ⟨e2, fun a w => ?_, f.ok, by simpa using f.len, fun j o' z a b => ?_, fun j l q z z2 hjl a b c e g => ?_⟩⟩
    · by_cases hb : b = p
      · subst hb; exact .inr h0
      · rw [upd_ne hb] at e; exact .inl e
    · rw [upd_ne (fun e => wp (by rw [← e]; exact w))]; exact f.wg a w
    · by_cases hj : i = j
      · subst hj
        have h2 := (List.getElem?_eq_some_iff.mp b).1
        rw [List.length_set] at h2
        rw [List.getElem?_set_self h2] at b
        cases b
        rw [eo] at a
        cases a
        exact ⟨_, rfl, .lst (.inl (.inl upd_same)) (r.mono e1)⟩
      · rw [List.getElem?_set_ne hj] at b
        have q := f.sl j o' z a b
        have far : isOwn z = true → o' ≠ some (.ref p) := fun hz e => by
          subst e
          exact f.ds i j p _ z hj ei b rfl hz eo a
        cases z with
        | no => trivial
        | sh d => obtain ⟨v, q1, q2⟩ := q; exact ⟨v, q1, q2.mono e1⟩
        | own xs =>
          obtain ⟨r, vs, e1', e2', e3, e4, e5, e6⟩ := q
          exact ⟨r, vs, e1', e2', e3.mono e1, by rw [upd_ne (fun e => far rfl (by rw [e1', e]))]; exact e4, e5, e6⟩
        | ownD xs =>
          obtain ⟨r, vs, e1', e2', e3, e4, e5, e6⟩ := q
          exact ⟨r, vs, e1', e2', e3.mono e1, by rw [upd_ne (fun e => far rfl (by rw [e1', e]))]; exact e4, e5, e6⟩
        | ownI C xs =>
          obtain ⟨r, dx, vs, e1', e2', e3, e4, e5, e6⟩ := q
          exact ⟨r, dx, vs, e1', e2', e3.mono e1, by rw [upd_ne (fun e => far rfl (by rw [e1', e]))]; exact e4, e5, e6⟩
        | exc c fs =>
          obtain ⟨a', dd, xs, q1, q2, q3, q4, q5⟩ := q
          exact ⟨a', dd, xs, q1, q2, q3, q4.mono e1, q5⟩
    · by_cases hj : i = j
      · subst hj
        have h2 := (List.getElem?_eq_some_iff.mp a).1
        rw [List.length_set] at h2
        rw [List.getElem?_set_self h2] at a
        cases a
        cases c
      · by_cases hk : i = l
        · subst hk
          have h2 := (List.getElem?_eq_some_iff.mp b).1
          rw [List.length_set] at h2
          rw [List.getElem?_set_self h2] at b
          cases b
          cases e
        · rw [List.getElem?_set_ne hj] at a
          rw [List.getElem?_set_ne hk] at b
          exact f.ds j l q z z2 hjl a b c e g
  · exact ⟨G, Same.refl _, f.gh, fun b o e => .inl e, f⟩
/-- ahead of a block: slot i's list is from now on as all others -/
def mFrz (O : Wo) (i : Nat) (m : MS O) : MS O := fun ρ s => m (frzE i ρ) s
theorem SndS.frz {t : TS} {m : MS O} (i : Nat) (h : SndS K O Wx t m) : SndS K O Wx t (mFrz O i m) := by
  intro G0 H0 σ ρ G H s Dn F q
  obtain ⟨G', e1, e2, e3, F'⟩ := F.fm.frz i
  refine h G0 H0 σ (frzE i ρ) G' H s Dn ⟨F', ?_⟩ (PstS.shift e1 q)
  refine ⟨F.tr.gg.trans e1, e2, fun b o e => ?_, F.tr.kp, F.tr.dm⟩
  rcases e3 b o e with q | q
  · exact F.tr.gr b o q
  · exact .inr q
theorem db_frz (i : Nat) {e : List Stmt} {t : TS} {m : MS O} (h : DB K O Wx X e t m) : DB K O Wx X e t (mFrz O i m) := ⟨h.pe, h.sn.frz i⟩
theorem ds_frz (i : Nat) {e : Stmt} {t : TS} {m : MS O} (h : DS K O Wx X e t m) : DS K O Wx X e t (mFrz O i m) := ⟨h.pe, h.sn.frz i⟩
/-- lent for one expression whose value is a plain scalar -/
def scalD : D → Bool
  | .non => true
  | .bl _ => true
  | .int _ => true
  | .str _ => true
  | _ => false
theorem Rep.scal {v : V} {d : D} (r : Rep K G v d) (h : scalD d = true) : ∀ G', Rep K G' v d := by
  cases r <;> first | (cases h; done) | (intro G'; constructor)
def frzL (is : List Nat) (ρ : Ev) : Ev := is.foldr frzE ρ
theorem Fm.frzL (f : Fm K O H0 σ ρ G H s) : ∀ is : List Nat, ∃ G', Same G G' ∧ Same G' H ∧ Fm K O H0 σ (Mr.frzL is ρ) G' H s
  | [] => ⟨G, Same.refl _, f.gh, f⟩
  | i :: is => by
    obtain ⟨G1, a, b, c⟩ := f.frzL is
    obtain ⟨G2, a2, b2, _, c2⟩ := c.frz i
    exact ⟨G2, a.trans a2, b2, c2⟩
def mLend (O : Wo) (is : List Nat) (m : ME O) : ME O := fun ρ s => (m (frzL is ρ) s).bind fun d s1 => if scalD d = true then .ok d s1 else .bad
theorem tr_back {W : Addr → Prop} {G Gt H G' H' : Hp} (e : Same G Gt) (t : Tr W Gt H G' H') : Tr W G H G H' := ⟨Same.refl _, (e.trans t.gg).trans t.gh, fun _ _ e => .inl e, t.kp, t.dm⟩
theorem de_lend (is : List Nat) {e : Expr} {t : TE} {m : ME O} (h : DE K O Wx X e t m) (hw : ∀ ρ s c fs s', m ρ s ≠ .err c fs s') : DE K O Wx X e t (mLend O is m) := by
  refine ⟨h.hK, h.tk, h.pe, fun σ ρ H0 G H s Q F q => ?_⟩
  obtain ⟨Gt, e1, e2, Ft⟩ := F.frzL is
  refine h.sn σ (frzL is ρ) H0 Gt H s Q Ft ?_
  unfold mLend at q
  revert q
  cases em : m (frzL is ρ) s with
  | ok d s1 =>
    intro q v G' H' t' k' r'
    rw [bind_ok] at q
    split at q
    · rename_i hs
      exact q v G H' (tr_back e1 t') k' (r'.scal hs G)
    · exact q.elim
  | err c fs s1 => exact absurd em (hw _ _ _ _ _)
  | bad => exact fun q => q
def mLendT (O : Wo) (is : List Nat) (m : MT O) : MT O := fun ρ s => m (frzL is ρ) s
theorem dt_lend (is : List Nat) {e : Expr} {t : TT} {m : MT O} (h : DT K O Wx X e t m) (hw : ∀ ρ s c fs s', m ρ s ≠ .err c fs s') : DT K O Wx X e t (mLendT O is m) := by
  refine ⟨h.hK, h.tk, h.pe, fun σ ρ H0 G H s Q F q => ?_⟩
  obtain ⟨Gt, e1, e2, Ft⟩ := F.frzL is
  refine h.sn σ (frzL is ρ) H0 Gt H s Q Ft ?_
  unfold mLendT at q
  revert q
  cases em : m (frzL is ρ) s with
  | ok d s1 => exact fun q v G' H' t' k' r' => q v G H' (tr_back e1 t') k' r'
  | err c fs s1 => exact absurd em (hw _ _ _ _ _)
  | bad => exact fun q => q
/-! ### built-in functions -/
def dLen : List D → Option D
  | [.lst xs] => some (.int xs.length)
  | [.tup xs] => some (.int xs.length)
  | [.str x] => if x.length ≤ 100000 then some (.int x.length) else none
  | _ => none
theorem vcl_len : VCl K (fun xs H Q => ∃ x n, xs = [x] ∧ LenV K x H n ∧ Q (.int n) H) dLen := by
  intro G H x dx d Q g rx e q
  unfold dLen at e
  split at e
  · cases e
    cases rx with
    | cons r1 r2 =>
      cases r2
      cases r1 with
      | lst hs r => exact ⟨_, _, rfl, .inl ⟨_, g.seq hs, r.length.symm⟩, q _ G H (.refl g) (.int _)⟩
  · cases e
    cases rx with
    | cons r1 r2 =>
      cases r2
      cases r1 with
      | tup hs r => exact ⟨_, _, rfl, .inr ⟨_, sq_t g hs, r.length.symm⟩, q _ G H (.refl g) (.int _)⟩
  · split at e
    · rename_i hz
      cases e
      cases rx with
      | cons r1 r2 =>
        cases r2
        cases r1
        exact ⟨_, _, rfl, ⟨sz5 hz, rfl⟩, q _ G H (.refl g) (.int _)⟩
    · cases e
  · cases e
theorem call_lenG (hK : X.K = K) : CallR X (.builtin "len") (fun xs H Q => ∃ x n, xs = [x] ∧ LenV K x H n ∧ Q (.int n) H) := by subst hK; exact call_len
def dInt1 (f : Int → Option D) : List D → Option D
  | [.int i] => f i
  | _ => none
def dAbs : List D → Option D := dInt1 fun i => some (.int (if i < 0 then -i else i))
theorem vcl_abs : VCl K (fun xs H Q => ∃ i, xs = [.int i] ∧ Q (.int (if i < 0 then -i else i)) H) dAbs := by
  intro G H x dx d Q g rx e q
  unfold dAbs dInt1 at e
  split at e
  · cases e
    cases rx with
    | cons r1 r2 =>
      cases r2
      cases r1
      exact ⟨_, rfl, q _ G H (.refl g) (.int _)⟩
  · cases e
def dI2 (f : Int → Int → Int) : List D → Option D
  | [.int i, .int j] => some (.int (f i j))
  | _ => none
theorem vcl_i2 {f : Int → Int → Int} : VCl K (fun xs H Q => ∃ i j, xs = [.int i, .int j] ∧ Q (.int (f i j)) H) (dI2 f) := by
  intro G H x dx d Q g rx e q
  unfold dI2 at e
  split at e
  · cases e
    cases rx with
    | cons r1 r2 =>
      cases r2 with
      | cons r2 r3 =>
        cases r3
        cases r1
        cases r2
        exact ⟨_, _, rfl, q _ G H (.refl g) (.int _)⟩
  · cases e
def dMax2 : List D → Option D := dI2 fun i j => if j > i then j else i
def dMin2 : List D → Option D := dI2 fun i j => if j < i then j else i
def dIntC : List D → Option D
  | [.int i] => some (.int i)
  | [.bl k] => some (.int (if k then 1 else 0))
  | _ => none
theorem vcl_int : VCl K (fun xs H Q => (∃ i, xs = [.int i] ∧ Q (.int i) H) ∨ ∃ k, xs = [.bl k] ∧ Q (.int (if k then 1 else 0)) H) dIntC := by
  intro G H x dx d Q g rx e q
  unfold dIntC at e
  split at e
  · cases e
    cases rx with
    | cons r1 r2 =>
      cases r2
      cases r1
      exact .inl ⟨_, rfl, q _ G H (.refl g) (.int _)⟩
  · cases e
    cases rx with
    | cons r1 r2 =>
      cases r2
      cases r1
      exact .inr ⟨_, rfl, q _ G H (.refl g) (.int _)⟩
  · cases e
def dBoolC : List D → Option D
  | [.int i] => some (.bl (i != 0))
  | [.bl k] => some (.bl k)
  | _ => none
theorem vcl_bool : VCl K (fun xs H Q => (∃ i, xs = [.int i] ∧ Q (.bl (i != 0)) H) ∨ ∃ k, xs = [.bl k] ∧ Q (.bl k) H) dBoolC := by
  intro G H x dx d Q g rx e q
  unfold dBoolC at e
  split at e
  · cases e
    cases rx with
    | cons r1 r2 =>
      cases r2
      cases r1
      exact .inl ⟨_, rfl, q _ G H (.refl g) (.bl _)⟩
  · cases e
    cases rx with
    | cons r1 r2 =>
      cases r2
      cases r1
      exact .inr ⟨_, rfl, q _ G H (.refl g) (.bl _)⟩
  · cases e
def dStrI : List D → Option D := dInt1 fun i => if i.natAbs.log2 < 1920 then some (.str (toString i)) else none
theorem vcl_str : VCl K (fun xs H Q => ∃ i : Int, xs = [.int i] ∧ i.natAbs.log2 < 1920 ∧ Q (.str (toString i)) H) dStrI := by
  intro G H x dx d Q g rx e q
  unfold dStrI dInt1 at e
  split at e
  · dsimp only at e
    split at e
    · rename_i hz
      cases e
      cases rx with
      | cons r1 r2 =>
        cases r2
        cases r1
        exact ⟨_, rfl, hz, q _ G H (.refl g) (.str _)⟩
    · cases e
  · cases e
/-- ints of a list of data -/
def toInts : List D → Option (List Int)
  | [] => some []
  | .int i :: xs => (toInts xs).map (i :: ·)
  | _ :: _ => none
theorem Reps.toInts {G : Hp} : ∀ {vs : List V} {ds : List D} {ns : List Int}, Reps K G vs ds → Mr.toInts ds = some ns → vs = ns.map V.int
  | _, _, _, .nil, h => by cases h; rfl
  | _, _, _, .cons q r, h => by
    cases q <;> simp only [Mr.toInts, Option.map_eq_some_iff] at h <;> first | (cases h; done) | skip
    obtain ⟨ns, h1, rfl⟩ := h
    rw [Reps.toInts r h1]
    rfl
@[simp] theorem toInts_map (ns : List Int) : Mr.toInts (ns.map D.int) = some ns := by
  induction ns with
  | nil => rfl
  | cons n ns ih => simp [Mr.toInts, ih]
def dSum : List D → Option D
  | [.lst xs] => (toInts xs).map fun ns => .int ns.sum
  | _ => none
theorem vcl_sum : VCl K (rSum K) dSum := by
  intro G H x dx d Q g rx e q
  unfold dSum at e
  split at e
  · rw [Option.map_eq_some_iff] at e
    obtain ⟨ns, e, rfl⟩ := e
    cases rx with
    | cons r1 r2 =>
      cases r2
      cases r1 with
      | lst hs r =>
        have := r.toInts e
        subst this
        exact ⟨_, ns, rfl, g.seq hs, q _ G H (.refl g) (.int _)⟩
  · cases e
theorem call_sumG (hK : X.K = K) (hc : X.calm = true) : CallR X (.builtin "sum") (rSum K) := by subst hK; exact cr_sum hc
def toBools : List D → Option (List Bool)
  | [] => some []
  | .bl i :: xs => (toBools xs).map (i :: ·)
  | _ :: _ => none
theorem Reps.toBools {G : Hp} : ∀ {vs : List V} {ds : List D} {ns : List Bool}, Reps K G vs ds → Mr.toBools ds = some ns → vs = ns.map V.bl
  | _, _, _, .nil, h => by cases h; rfl
  | _, _, _, .cons q r, h => by
    cases q <;> simp only [Mr.toBools, Option.map_eq_some_iff] at h <;> first | (cases h; done) | skip
    obtain ⟨ns, h1, rfl⟩ := h
    rw [Reps.toBools r h1]
    rfl
@[simp] theorem toBools_map (ns : List Bool) : Mr.toBools (ns.map D.bl) = some ns := by
  induction ns with
  | nil => rfl
  | cons n ns ih => simp [Mr.toBools, ih]
def dAll : List D → Option D
  | [.lst xs] => (toBools xs).map fun ns => .bl (ns.all id)
  | _ => none
def dAny : List D → Option D
  | [.lst xs] => (toBools xs).map fun ns => .bl (ns.any id)
  | _ => none
theorem vcl_all : VCl K (rAll K) dAll := by
  intro G H x dx d Q g rx e q
  unfold dAll at e
  split at e
  · rw [Option.map_eq_some_iff] at e
    obtain ⟨ns, e, rfl⟩ := e
    cases rx with
    | cons r1 r2 =>
      cases r2
      cases r1 with
      | lst hs r =>
        have := r.toBools e
        subst this
        exact ⟨_, ns, rfl, g.seq hs, q _ G H (.refl g) (.bl _)⟩
  · cases e
theorem vcl_any : VCl K (rAny K) dAny := by
  intro G H x dx d Q g rx e q
  unfold dAny at e
  split at e
  · rw [Option.map_eq_some_iff] at e
    obtain ⟨ns, e, rfl⟩ := e
    cases rx with
    | cons r1 r2 =>
      cases r2
      cases r1 with
      | lst hs r =>
        have := r.toBools e
        subst this
        exact ⟨_, ns, rfl, g.seq hs, q _ G H (.refl g) (.bl _)⟩
  · cases e
theorem call_allG (hK : X.K = K) (hc : X.calm = true) : CallR X (.builtin "all") (rAll K) := by subst hK; exact cr_all hc
theorem call_anyG (hK : X.K = K) (hc : X.calm = true) : CallR X (.builtin "any") (rAny K) := by subst hK; exact cr_any hc
def dListOf : List D → Option D
  | [.lst xs] => some (.lst xs)
  | [.tup xs] => some (.lst xs)
  | _ => none
def rListOf (K : PySem.W.Frag) : List V → Hp → VK → Prop := fun xs H Q => ∃ p ys, xs = [.ref p] ∧ (SqL K H p ys ∨ SqT K H p ys) ∧ ∀ l, H l = none → Q (.ref l) (upd H l (.lst ys))
theorem vcl_listOf : VCl K (rListOf K) dListOf := by
  intro G H x dx d Q g rx e q
  unfold dListOf at e
  split at e
  · cases e
    cases rx with
    | cons r1 r2 =>
      cases r2
      cases r1 with
      | lst hs r => exact ⟨_, _, rfl, .inl (g.seq hs), fun p n => q _ _ _ (Tr0.new g n) (new_lst g n r)⟩
  · cases e
    cases rx with
    | cons r1 r2 =>
      cases r2
      cases r1 with
      | tup hs r => exact ⟨_, _, rfl, .inr (sq_t g hs), fun p n => q _ _ _ (Tr0.new g n) (new_lst g n r)⟩
  · cases e
theorem call_listG (hK : X.K = K) : CallR X (.type "list") (rListOf K) := by subst hK; exact call_list_of
def dTupOf : List D → Option D
  | [.lst xs] => some (.tup xs)
  | [.tup xs] => some (.tup xs)
  | _ => none
def rTupOf (K : PySem.W.Frag) : List V → Hp → VK → Prop := fun xs H Q => ∃ p ys, xs = [.ref p] ∧ ((SqL K H p ys ∧ ∀ l, H l = none → Q (.ref l) (upd H l (.tup ys))) ∨ (SqT K H p ys ∧ Q (.ref p) H))
theorem vcl_tupOf : VCl K (rTupOf K) dTupOf := by
  intro G H x dx d Q g rx e q
  unfold dTupOf at e
  split at e
  · cases e
    cases rx with
    | cons r1 r2 =>
      cases r2
      cases r1 with
      | lst hs r => exact ⟨_, _, rfl, .inl ⟨g.seq hs, fun p n => q _ _ _ (Tr0.new g n) (new_tup g n r)⟩⟩
  · cases e
    cases rx with
    | cons r1 r2 =>
      cases r2
      cases r1 with
      | tup hs r => exact ⟨_, _, rfl, .inr ⟨sq_t g hs, q _ G H (.refl g) (.tup hs r)⟩⟩
  · cases e
theorem call_tupG (hK : X.K = K) : CallR X (.type "tuple") (rTupOf K) := by subst hK; exact call_tuple_of
/-! isinstance -/
def tyD : D → Option String
  | .non => some "NoneType"
  | .bl _ => some "bool"
  | .int _ => some "int"
  | .str _ => some "str"
  | .lst _ => some "list"
  | .tup _ => some "tuple"
  | _ => none
theorem sqL_ty {H : Hp} {a : Addr} {xs : List V} (h : SqL K H a xs) : TyX K H (.ref a) (.type "list") := by
  rcases h with (h | ⟨o, h⟩) | ⟨o, its, n, h1, h2, _⟩
  · exact .base (.lst h)
  · exact .base (.frz h)
  · exact .kList h1 h2
theorem sqT_ty {H : Hp} {a : Addr} {xs : List V} (h : SqT K H a xs) : TyX K H (.ref a) (.type "tuple") := by
  rcases h with (h | ⟨o, h⟩) | ⟨o, its, n, h1, h2, _⟩
  · exact .base (.tup h)
  · exact .fTuple h
  · exact .kTuple h1 h2
theorem Rep.ty_of {H : Hp} {v : V} {d : D} {n : String} (g : Same G H) (r : Rep K G v d) (h : tyD d = some n) : TyX K H v (.type n) := by
  cases r with
  | non => cases h; exact .base .non
  | bl b => cases h; exact .base (.bl b)
  | int i => cases h; exact .base (.int i)
  | str x => cases h; exact .base (.str x)
  | lst hs r => cases h; exact sqL_ty (g.seq hs)
  | tup hs r => cases h; exact sqT_ty (sq_t g hs)
  | ref a => cases h
  | ty n => cases h
  | ins _ _ => cases h
  | dct _ _ => cases h
def clsNames : List D → Option (List String)
  | [] => some []
  | .ty n :: xs => (clsNames xs).map (n :: ·)
  | _ :: _ => none
theorem Reps.cls {G : Hp} : ∀ {vs : List V} {ds : List D} {ns : List String}, Reps K G vs ds → clsNames ds = some ns → Paired ClsV vs (ns.map Value.type)
  | _, _, _, .nil, h => by cases h; exact .nil
  | _, _, _, .cons q r, h => by
    cases q <;> simp only [clsNames, Option.map_eq_some_iff] at h <;> first | (cases h; done) | skip
    obtain ⟨ns, h1, rfl⟩ := h
    exact .cons (.ty _) (Reps.cls r h1)
def kitAnyB (a : String) : List String → Option Bool
  | [] => some false
  | b :: bs => match kitB a b with
    | some true => some true
    | some false => kitAnyB a bs
    | none => none
theorem kitAnyB_ok {a : String} : ∀ {bs : List String} {r : Bool}, kitAnyB a bs = some r → PySem.W.kitAny K (.type a) (bs.map Value.type) = some r
  | [], r, h => by cases h; exact kitAny_nil
  | b :: bs, r, h => by
    unfold kitAnyB at h
    split at h
    · rename_i e
      cases h
      exact kitAny_cons (kit_ty e) (fun z => by cases z) (fun _ => rfl)
    · rename_i e
      exact kitAny_cons (kit_ty e) (fun _ => kitAnyB_ok h) (fun z => by cases z)
    · cases h
def dIsI : List D → Option D
  | [x, .ty c] => match tyD x with
    | some n => (kitB n c).map .bl
    | none => none
  | _ => none
theorem call_isiG (hK : X.K = K) : CallR X (.builtin "isinstance") (rIsi K) := by subst hK; exact call_isi
theorem vcl_isI : VCl K (rIsi K) dIsI := by
  intro G H x dx d Q g rx e q
  unfold dIsI at e
  split at e
  · split at e
    · rename_i n en
      rw [Option.map_eq_some_iff] at e
      obtain ⟨b, eb, rfl⟩ := e
      cases rx with
      | cons r1 r2 =>
        cases r2 with
        | cons r2 r3 =>
          cases r3
          cases r2
          exact ⟨_, _, _, _, b, rfl, .ty _, r1.ty_of g en, kit_ty eb, q _ G H (.refl g) (.bl _)⟩
    · cases e
  · cases e
/-- isinstance(a, (C1, ..)) -/
def dIsT (x : D) (cs : List D) : Option D := match tyD x, clsNames cs with
  | some n, some ns => if cs.length ≤ 1000 then (kitAnyB n ns).map .bl else none
  | _, _ => none
def mIsT (O : Wo) (a : ME O) (cs : MA O) : ME O := fun ρ s => (a ρ s).bind fun x s1 => (cs ρ s1).bind fun ds s2 => R.lift (dIsT x ds) s2
theorem de_isT {a : Expr} {es : List Expr} {ta : TE} {tc : TA} {ma : ME O} {mc : MA O} {x1} {p p2 pos : Pos} (hm : X.mg "isinstance" = none) (ha : DE K O Wx X a ta ma) (hc : DA K O Wx X es tc mc) (hb : bootBuiltins "isinstance" = some (.builtin "isinstance") := by decide +kernel)
    (hg : Gl X "isinstance" := by rfl) (he : starEach [a, .Tuple es x1 p2] X.env = (false, eval a X.env) :: starEach [.Tuple es x1 p2] X.env := by rfl) (he2 : starEach [.Tuple es x1 p2] X.env = (false, eval (.Tuple es x1 p2) X.env) :: starEach [] X.env := by rfl)
    (hpl : (backTo pos (starEach [.Tuple es x1 p2] X.env)).any (·.1) = false := by rfl) :
    DE K O Wx X (.Call (.Name "isinstance" p) [a, .Tuple es x1 p2] [] pos) (tCB (rIsiT K) (tCons ta (tCons (tTup tc) tNil))) (mIsT O ma mc) := by
  refine ⟨ha.hK, ha.tk, ?_, fun σ ρ H0 G H s Q F h => ?_⟩
  · have := ha.hK
    subst this
    exact pe_callB call_isiT hg hm hb (pa_cons ha.pe (pa_cons (pe_tup hc.pe) pa_nil he2) he) (by decide) (by decide) he hpl
  · refine ha.sn σ ρ H0 G H s _ F (pst_bind h fun dx s1 _ x G1 H1 t1 k1 r1 h1 => ?_)
    have F1 := F.tr t1 k1
    refine hc.sn σ ρ H0 G1 H1 s1 _ F1 (pst_bind h1 fun ds s2 _ cs G2 H2 t2 k2 r2 h2 => ?_)
    have F2 := F1.tr t2 k2
    obtain ⟨d, e, q⟩ := pst_lift F2 h2
    unfold dIsT at e
    split at e
    · rename_i n ns en ens
      split at e
      · rename_i hz
        rw [Option.map_eq_some_iff] at e
        obtain ⟨b, eb, rfl⟩ := e
        refine ⟨by rw [r2.length]; exact sz5 (by omega), fun tp ntp => ?_⟩
        have tr := Tr0.new (o := .tup cs) F2.gh ntp
        exact ⟨x, tp, cs, .type n, ns.map Value.type, b, rfl, upd_same, r2.cls ens, ((r1.mono t2.gg).mono tr.gg).ty_of tr.gh en, kitAnyB_ok eb, q _ _ _ tr (.bl _)⟩
      · cases e
    · cases e
end
end Mr

namespace Mr
open PySem PySem.Spec PyProof.Rows L2 RZ
/-! ### f-strings whose text does not matter -/
/-- what may stand in a field: a text, an int, a tuple of ints -/
def FmtV (K : PySem.W.Frag) (x : V) (H : Hp) : Prop :=
  (∃ y : Str, x = .str y ∧ y.length ≤ 20000) ∨ (∃ i : Int, x = .int i ∧ i.natAbs.log2 < 1920) ∨
    ∃ (a : Addr) (ns : List Int), x = .ref a ∧ SqT K H a (ns.map V.int) ∧ ns.length ≤ 8 ∧ ∀ n ∈ ns, n.natAbs.log2 < 1920
def tFmtG (K : PySem.W.Frag) (te : TE) : TE := fun σ H Q => te σ H fun x H1 => FmtV K x H1 ∧ ∀ m : Str, m.length ≤ 20000 → Q (.str m) H1
theorem piled_ints : ∀ ns : List Int, (∀ n ∈ ns, n.natAbs.log2 < 1920) → piled (ns.map fun n => Str.ofString (toString n)) ≤ ns.length * 1923
  | [], _ => Nat.zero_le _
  | n :: ns, h => by
    have h1 := int_text_len_1921 (h n List.mem_cons_self)
    have h2 := piled_ints ns fun m hm => h m (List.mem_cons_of_mem _ hm)
    rw [List.map_cons, piled_cons, List.length_cons]
    omega
theorem repr_ints {prog : Program} {w : World} : ∀ {ns : List Int} {its : List Value}, Vals (ns.map V.int) its → (∀ n ∈ ns, n.natAbs.log2 < 1920) → ReprAll prog w its (ns.map fun n => Str.ofString (toString n))
  | [], _, r, _ => by
    cases r
    exact .nil
  | n :: l, _, r, h => by
    cases r with
    | cons r1 r2 =>
      obtain ⟨t, rfl⟩ := r1
      exact .cons (ReprIs.int t (h n List.mem_cons_self)) (repr_ints r2 fun z hz => h z (List.mem_cons_of_mem _ hz))
theorem pe_fmtG {X : Cx} {K : PySem.W.Frag} {e : Expr} {te : TE} {pos : Pos} {k : Nat} (hK : X.K = K) (hr : Room k X.A) (he : PE X e te) : PE X (.FormattedValue e (-1) none pos) (tFmtG K te) := by
  subst hK
  refine ⟨fun pins s σ H Q I h => ?_⟩
  refine wpAny_FormattedValue_plain (thn (he.run pins s σ H _ I h) fun v s1 hv => ?_)
  obtain ⟨x, H1, I1, r1, fv, q⟩ := hv
  have h20 : 20000 ≤ sizeLine := by decide
  rcases fv with ⟨y, rfl, hz⟩ | ⟨i, rfl, hz⟩ | ⟨a, ns, rfl, ht, hl, hn⟩
  · obtain ⟨t, rfl⟩ := r1
    exact wpAny_formatField_str ⟨.str y, H1, I1, ⟨t, rfl⟩, q y hz⟩ ⟨.str y, H1, I1.tok _, ⟨_, rfl⟩, q y hz⟩ (Nat.le_trans hz h20)
  · obtain ⟨t, rfl⟩ := r1
    exact wpAny_formatField_int hz ⟨.str (toString i), H1, I1.tok _, ⟨_, rfl⟩, q _ (Nat.le_trans (int_text_len_1921 hz) (by decide))⟩
  · cases r1
    obtain ⟨its, rv, ⟨o, ho, hcl, n, hd⟩, _⟩ := I1.tuple ht
    have hp := piled_ints ns hn
    have htx := fmt_text (ns.map fun n => Str.ofString (toString n))
    have hu := hr.units
    refine fmt_tuple (ts := ns.map fun n => Str.ofString (toString n)) (by omega) ho hcl hd (repr_ints rv hn) (by omega) fun m u tk hm => ⟨.str m, H1, I1.tok _, ⟨u, rfl⟩, q m (by omega)⟩
/-- a part of an f-string that gives some text -/
def PartOk (t : TE) (σ : L2.St) (H : Hp) : Prop := ∀ Q : VK, (∀ m : Str, m.length ≤ 20000 → Q (.str m) H) → t σ H Q
theorem part_c {x : Str} {σ : L2.St} {H : Hp} (h : x.length ≤ 20000) : PartOk (tC (.str x)) σ H := fun Q q => q x h
theorem part_v {K : PySem.W.Frag} {i : Nat} {v : V} {σ : L2.St} {H : Hp} (e : σ[i]? = some (some v)) (f : FmtV K v H) : PartOk (tFmtG K (tVar i)) σ H := fun Q q => ⟨v, e, f, q⟩
theorem js_ok {σ : L2.St} {H : Hp} {Q : Str → Hp → Prop} : ∀ {ts : List TE} {acc : Str}, (∀ t ∈ ts, PartOk t σ H) → acc.length + 20000 * ts.length ≤ 200000 → (∀ m : Str, m.length ≤ 200000 → Q m H) → tJs ts acc σ H Q
  | [], acc, _, hz, q => q acc (by simpa using hz)
  | t :: ts, acc, h, hz, q => h t List.mem_cons_self _ fun m hm => by
    have e : (acc ++ m).length = acc.length + m.length := strLen_append _ _
    rw [List.length_cons] at hz
    refine ⟨m, rfl, Nat.le_trans (show (acc ++ m).length ≤ 200000 by omega) (by decide), js_ok (fun t ht => h t (List.mem_cons_of_mem _ ht)) (by omega) q⟩
/-! ### the package's errors -/
/-- the base class, at L -/
structure LcT (K : PySem.W.Frag) (mg : Str → Option Value) (L : Addr) : Prop where
  gL : mg "LateCopyError" = some (.ref L)
  rd : PySem.W.readsIn K L (.type "type") = true
  fc : PySem.W.findCls K (.ref L) (.type "type") "__init__" = some (.val (.builtin "ValueError.__init__"))
  sp : PySem.W.specialIn K (.ref L) "__getattribute__" = some (some (.builtin "type.__getattribute__"))
theorem pe_lcinit {X : Cx} {K : PySem.W.Frag} {L : Addr} {e : Expr} {es : List Expr} {ta : TA} {p1 p2 pos : Pos} {pl : Sem Bool} (hK : X.K = K) (T : LcT K X.mg L) (ha : PA X (e :: es) ta) (hg : Gl X "LateCopyError" := by rfl)
    (hc : eval (.Call (.Attribute (.Name "LateCopyError" p1) "__init__" p2) (e :: es) [] pos) X.env = (do
      let ov ← eval (.Name "LateCopyError" p1) X.env
      standAt p2.atName
      let (f, first) ← holding [ov] (getMethod ov "__init__" pl)
      callWith pos f first (backTo pos (starEach (e :: es) X.env)) (backToKw pos (keywordEach [] X.env))) := by rfl)
    (he : starEach (e :: es) X.env = (false, eval e X.env) :: starEach es X.env := by rfl) (hpl : (backTo pos (starEach es X.env)).any (·.1) = false := by rfl) :
    PE X (.Call (.Attribute (.Name "LateCopyError" p1) "__init__" p2) (e :: es) [] pos) (tVeI K ta) := by
  subst hK
  refine ⟨fun pins s σ H Q I h => ?_⟩
  refine PySem.W.methodCall_KW (ld_glob I hg T.gL ?_ (by decide)) hc
  refine PySem.W.method_cls I.kIn T.sp (PySem.W.cls_value I.kIn T.rd T.fc (by decide +kernel) ?_)
  show wpAny _ _ (callWith pos (Value.builtin "ValueError.__init__") [] (backTo pos (starEach (e :: es) X.env)) []) _ _ _
  refine PyProof.Rows.callWith_method1 (thn (ha.run pos pins _ σ H _ (I.tok _) h) fun us s1 ⟨vs, H1, I1, r1, a, C, ws, ev, hl, T, ea, q⟩ => ?_) he hpl
  subst ev
  cases r1 with
  | @cons _ u0 _ ur ra rw' =>
    obtain rfl : u0 = Value.ref a := ra
    have hlen : ur.length ≤ sizeLine := by
      rw [← Paired.length rw', sizeLine_eq]
      omega
    exact oinit_ok T I1 ea hlen fun s' J => ⟨.non, H1, J, rfl, q⟩
/-- an error's __init__(self, f1, ..): the fields are stored -/
def spIni (K : PySem.W.Frag) (C : Addr) (fs : List Str) : Sp := fun vs H Q _ => ∃ (a : Addr) (ws : List V), vs = .ref a :: ws ∧ ws.length = fs.length ∧ H a = some (exo a C none) ∧ (∀ v ∈ ws, FmtV K v H) ∧
  ∀ (dx : Addr) (H' : Hp), H dx = none → dx ≠ a → (∀ b, b ≠ a → b ≠ dx → H' b = H b) → H' a = some (exo a C (some dx)) → H' dx = some (exd dx (fs.zip ws).reverse) → Q .non H'
/-- what the written part says of an error class -/
structure ErT (P : Program) (w : World) (K : PySem.W.Frag) (mg : Str → Option Value) (base : Heap) (x : Str) (C : Addr) (fs : List Str) : Prop where
  gC : mg x = some (.ref C)
  T : OexC K C
  xf : XfC K C
  no : ∀ f ∈ fs, PySem.W.findIn K (.ref C) f = some none
  ini : ∃ fI fd, PySem.W.findIn K (.ref C) "__init__" = some (some (.ref fI)) ∧ PySem.W.typeIn K (.ref fI) = some (.type "function") ∧ FnOk P w K mg base CX0 1 fI fd ("self" :: fs) (spIni K C fs) ∧ Binds K fd ("self" :: fs) []
section
variable {P : Program} {w : World} {K : PySem.W.Frag} {mg : Str → Option Value} {base : Heap} {C L : Addr}
theorem init1_read {f : Str} {ts : List TE} {v : V} {a : Addr} {H : Hp} {Q : VK} {E : XK} {σ : L2.St} (T : OexC K C) (hno : PySem.W.findIn K (.ref C) f = some none) (es : σ[0]? = some (some (.ref a))) (ev : σ[1]? = some (some v)) (ea : H a = some (exo a C none)) (hp : ∀ t ∈ ts, PartOk t σ H) (hl : ts.length ≤ 10)
    (q : ∀ (dx : Addr) (H' : Hp), H dx = none → dx ≠ a → (∀ b, b ≠ a → b ≠ dx → H' b = H b) → H' a = some (exo a C (some dx)) → H' dx = some (exd dx [(f, v)]) → Q .non H') :
    tSeq (tDrop (tVeI K (tCons (tVar 0) (tCons (fun σ H Q => tJs ts Str.empty σ H fun out H1 => Q (.str out) H1) tNil)))) (tOst K f (tVar 0) (tVar 1)) { nx := fun _ H' => Q .non H', rt := Q } σ H := by
  refine ⟨.ref a, es, js_ok hp (by show 0 + 20000 * ts.length ≤ 200000; omega) fun m hm => ?_⟩
  refine ⟨a, C, [.str m], rfl, Nat.le_of_ble_eq_true rfl, T, ea, ?_⟩
  refine ⟨v, ev, .ref a, es, a, C, rfl, T, hno, .inl ⟨ea, fun dx nd ne => ?_⟩⟩
  refine q dx _ nd ne (fun b b1 b2 => by rw [upd_ne b1, upd_ne b2]) upd_same (by rw [upd_ne ne, upd_same])
theorem init2_read {f g : Str} {ts : List TE} {v u : V} {a : Addr} {H : Hp} {Q : VK} {E : XK} {σ : L2.St} (T : OexC K C) (hno : PySem.W.findIn K (.ref C) f = some none) (hno2 : PySem.W.findIn K (.ref C) g = some none) (es : σ[0]? = some (some (.ref a))) (ev : σ[1]? = some (some v)) (eu : σ[2]? = some (some u)) (ea : H a = some (exo a C none)) (hp : ∀ t ∈ ts, PartOk t σ H) (hl : ts.length ≤ 10)
    (q : ∀ (dx : Addr) (H' : Hp), H dx = none → dx ≠ a → (∀ b, b ≠ a → b ≠ dx → H' b = H b) → H' a = some (exo a C (some dx)) → H' dx = some (exd dx [(g, u), (f, v)]) → Q .non H') :
    tSeq (tDrop (tVeI K (tCons (tVar 0) (tCons (fun σ H Q => tJs ts Str.empty σ H fun out H1 => Q (.str out) H1) tNil)))) (tSeq (tOst K f (tVar 0) (tVar 1)) (tOst K g (tVar 0) (tVar 2))) { nx := fun _ H' => Q .non H', rt := Q } σ H := by
  refine ⟨.ref a, es, js_ok hp (by show 0 + 20000 * ts.length ≤ 200000; omega) fun m hm => ?_⟩
  refine ⟨a, C, [.str m], rfl, Nat.le_of_ble_eq_true rfl, T, ea, ?_⟩
  refine ⟨v, ev, .ref a, es, a, C, rfl, T, hno, .inl ⟨ea, fun dx nd ne => ?_⟩⟩
  refine ⟨u, eu, .ref a, es, a, C, rfl, T, hno2, .inr ⟨dx, [(f, v)], upd_same, by rw [upd_ne ne, upd_same], Nat.le_of_ble_eq_true rfl, ?_⟩⟩
  refine q dx _ nd ne (fun b b1 b2 => by rw [upd_ne b2, upd_ne b1, upd_ne b2]) (by rw [upd_ne ne.symm, upd_same]) upd_same
end
/-! ### raise, try -/
section
variable {K : PySem.W.Frag} {O : Wo} {Wx : WX} {X : Cx} {G0 H0 G H G1 H1 : Hp} {σ : L2.St} {ρ : Ev} {s s1 : O.S}
def fmtD : D → Bool
  | .str y => decide (y.length ≤ 20000)
  | .int i => decide (i.natAbs.log2 < 1920)
  | .tup xs => match toInts xs with
    | some ns => decide (ns.length ≤ 8) && ns.all fun n => decide (n.natAbs.log2 < 1920)
    | none => false
  | _ => false
theorem fmt_ok {H : Hp} {v : V} {d : D} (g : Same G H) (r : Rep K G v d) (h : fmtD d = true) : FmtV K v H := by
  cases r with
  | str y => exact .inl ⟨y, rfl, of_decide_eq_true h⟩
  | int i => exact .inr (.inl ⟨i, rfl, of_decide_eq_true h⟩)
  | tup hs r =>
    simp only [fmtD] at h
    split at h
    · rename_i ns e
      have := r.toInts e
      subst this
      rw [Bool.and_eq_true, List.all_eq_true] at h
      exact .inr (.inr ⟨_, ns, rfl, sq_t g hs, of_decide_eq_true h.1, fun n hn => of_decide_eq_true (h.2 n hn)⟩)
    · cases h
  | _ => cases h
theorem Reps.mem {vs : List V} {ds : List D} (r : Reps K G vs ds) : ∀ v ∈ vs, ∃ d ∈ ds, Rep K G v d := by
  induction vs generalizing ds with
  | nil => intro v h; cases h
  | cons w vs ih =>
    cases r with
    | cons q r =>
      intro v h
      rcases List.mem_cons.mp h with e | e
      · subst e; exact ⟨_, List.mem_cons_self, q⟩
      · obtain ⟨d, h1, h2⟩ := ih r v e
        exact ⟨d, List.mem_cons_of_mem _ h1, h2⟩
theorem repF_zip : ∀ {fs : List Str} {vs : List V} {ds : List D}, Reps K G vs ds → RepF K G (fs.zip vs) (fs.zip ds)
  | [], _, _, _ => by simp; exact .nil
  | _ :: _, _, _, .nil => by simp; exact .nil
  | f :: fs, _, _, .cons q r => .cons q (repF_zip r)
theorem RepF.append : ∀ {a b : List (Str × V)} {c d : List (Str × D)}, RepF K G a c → RepF K G b d → RepF K G (a ++ b) (c ++ d)
  | _, _, _, _, .nil, r => r
  | _, _, _, _, .cons h r, q => .cons h (r.append q)
theorem RepF.reverse {a : List (Str × V)} {c : List (Str × D)} (r : RepF K G a c) : RepF K G a.reverse c.reverse := by
  induction a generalizing c with
  | nil => cases r; exact .nil
  | cons p a ih =>
    cases r with
    | cons h r =>
      rw [List.reverse_cons, List.reverse_cons]
      exact (ih r).append (.cons h .nil)
theorem RepF.look : ∀ {a : List (Str × V)} {c : List (Str × D)} {f : Str} {d : D}, RepF K G a c → c.lookup f = some d → ∃ v, a.lookup f = some v ∧ Rep K G v d
  | _, _, f, d, .nil, h => by cases h
  | (g, v) :: a, (_, e) :: c, f, d, .cons h r, q => by
    rw [lookup_put]
    by_cases hf : f = g
    · subst hf
      rw [if_pos rfl]
      have : List.lookup f ((f, e) :: c) = some e := by simp [List.lookup]
      rw [this] at q
      cases q
      exact ⟨v, rfl, h⟩
    · rw [if_neg hf]
      have e2 : (f == g) = false := by simpa using hf
      have : List.lookup f ((g, e) :: c) = List.lookup f c := by simp [List.lookup, e2]
      rw [this] at q
      exact RepF.look r q
/-- raise X(e, ..) -/
def mRaise (O : Wo) (C : Addr) (fs : List Str) (m : MA O) : MS O := fun ρ s => toS (m ρ s) ρ fun ds s1 => if ds.length = fs.length ∧ fs.length ≤ 100 ∧ ds.all fmtD = true then .err C (fs.zip ds).reverse ρ s1 else .bad
theorem ds_raise {x : Str} {C : Addr} {fs : List Str} {e : Expr} {es : List Expr} {ta : TA} {ma : MA O} {p pos pos2 : Pos} {j : Nat} (c : Cs K Wx X) (T : ErT X.prog X.w K X.mg X.base x C fs) (hr : Room j X.A) (hj : 2 ≤ j) (ha : DA K O Wx X (e :: es) ta ma) (hg : Gl X x := by rfl)
    (hdb : (x == ("__debug__" : Str)) = false := by decide) (he : starEach (e :: es) X.env = (false, eval e X.env) :: starEach es X.env := by rfl) (hpl : (backTo pos (starEach es X.env)).any (·.1) = false := by rfl) :
    DS K O Wx X (.Raise (some (.Call (.Name x p) (e :: es) [] pos)) none pos2) (fun _ σ H => tMkO C (spIni K C fs) [] ta σ H fun cls d H' => Wx cls d σ H') (mRaise O C fs ma) := by
  obtain ⟨fI, fd, iC, tI, F1, hb⟩ := T.ini
  refine ⟨?_, fun G0 H0 σ ρ G H s Dn F h => ?_⟩
  · have := c.cn.hK
    subst this
    exact ps_raise c.hc c.cn.tk (pmk_oex T.T iC tI F1 (hr.mono hj) hb .nil pass0 hg T.gC ha.pe hdb he hpl)
  · refine ha.sn σ ρ H0 G H s _ F.fm (pst_toS F h fun ds s1 _ vs G1 H1 t1 k1 r1 h1 => ?_)
    have F1 := F.go t1 k1
    split at h1
    · rename_i hc
      obtain ⟨hl, h100, hf⟩ := hc
      have hz : vs.length = fs.length := r1.length.trans hl
      refine ⟨by rw [hz]; omega, fun a na => ⟨a, vs, by rw [List.append_nil], hz, upd_same, fun v hv => ?_, fun dx H' nd ne hk ea ed => ⟨rfl, dx, (fs.zip vs).reverse, ea, ed, ?_, ?_⟩⟩⟩
      · obtain ⟨d, hd, rd⟩ := r1.mem v hv
        have t := Tr0.hid (o := exo a C none) F1.fm.gh na
        exact fmt_ok t.gh (rd.mono t.gg) (List.all_eq_true.mp hf d hd)
      · rw [upd_ne ne] at nd
        exact nd
      · rw [upd_ne ne] at nd
        -- the heap behind: G1 as it stands; the error's dict is new
        have hH : ∀ b o, H1 b = some o → (upd (del H' a) dx (.xd (fs.zip vs).reverse)) b = some o := fun b o e => by
          have b1 : b ≠ a := ne_of_none e na
          have b2 : b ≠ dx := ne_of_none e nd
          rw [upd_ne b2, del_ne b1, hk b b1 b2, upd_ne b1]
          exact e
        have t2 : Tr0 G1 H1 G1 (upd (del H' a) dx (.xd (fs.zip vs).reverse)) := ⟨Same.refl _, fun b o e => hH b o (F1.fm.gh b o e), fun b o e => .inl e, fun b o _ e => hH b o e, fun b e => by
          cases q : H1 b with
          | none => rfl
          | some o => rw [hH b o q] at e; cases e⟩
        have k2 := F1.fm.keepW t2
        have nW : ¬ O.W dx := fun w => O.dom s1 H1 dx k1 w nd
        exact h1 σ dx _ G1 _ (Same.refl _) (F1.go t2.up k2) upd_same nW (repF_zip r1).reverse
    · exact (show False from h1).elim
/-- the world with an exception in hand -/
def Wo.hold (O : Wo) (a : Addr) (cls : Value) (d : Option Addr) : Wo := { O with ec := fun a' dd c => a' = a ∧ d = some dd ∧ cls = .ref c }
def noExc : Sl → Bool
  | .exc _ _ => false
  | _ => true
theorem slok_hold {a : Addr} {cls : Value} {d : Option Addr} {o : Option V} {x : Sl} (hx : noExc x = true) : SlOk K (O.hold a cls d) H0 G H o x ↔ SlOk K O H0 G H o x := by
  cases x <;> first | exact Iff.rfl | cases hx
/-- .. out of the suite: slot i is empty, and no other one holds an exception -/
theorem Fs.unhold {a : Addr} {cls : Value} {d : Option Addr} {i : Nat} (f : Fs K (O.hold a cls d) G0 H0 σ ρ G H s) (hn : (ρ.set i .no).all noExc = true) : Fs K O G0 H0 (σ.set i none) (ρ.set i .no) G H s := by
  have f1 := f.fm.clr i
  refine ⟨⟨f1.gh, f1.wg, f1.ok, f1.len, fun j o x e1 e2 => ?_, f1.ds⟩, f.tr⟩
  exact (slok_hold (List.all_eq_true.mp hn x (List.mem_of_getElem? e2))).mp (f1.sl j o x e1 e2)
theorem Fs.unhold0 {a : Addr} {cls : Value} {d : Option Addr} (f : Fs K (O.hold a cls d) G0 H0 σ ρ G H s) (hn : ρ.all noExc = true) : Fs K O G0 H0 σ ρ G H s :=
  ⟨⟨f.fm.gh, f.fm.wg, f.fm.ok, f.fm.len, fun j o x e1 e2 => (slok_hold (List.all_eq_true.mp hn x (List.mem_of_getElem? e2))).mp (f.fm.sl j o x e1 e2), f.fm.ds⟩, f.tr⟩
theorem Fs.hold {i : Nat} {a dd c : Addr} {fs : List (Str × D)} {xs : List (Str × V)} (f : Fs K O G0 H0 σ ρ G H s) (hn : ρ.all noExc = true) (hd : H dd = some (.xd xs)) (nW : ¬ O.W dd) (r : RepF K G xs fs) :
    Fs K (O.hold a (.ref c) (some dd)) G0 H0 (σ.set i (some (.ref a))) (ρ.set i (.exc c fs)) G H s := by
  refine ⟨⟨f.fm.gh, f.fm.wg, f.fm.ok, by simpa using f.fm.len, fun j o x e1 e2 => ?_, fun j k p x y hjk e1 e2 c1 c2 e3 => ?_⟩, f.tr⟩
  · by_cases hj : i = j
    · subst hj
      have h1 := (List.getElem?_eq_some_iff.mp e1).1
      have h2 := (List.getElem?_eq_some_iff.mp e2).1
      rw [List.length_set] at h1 h2
      rw [List.getElem?_set_self h1] at e1
      rw [List.getElem?_set_self h2] at e2
      cases e1; cases e2
      exact ⟨a, dd, xs, rfl, ⟨rfl, rfl, rfl⟩, hd, r, nW⟩
    · rw [List.getElem?_set_ne hj] at e1 e2
      exact (slok_hold (List.all_eq_true.mp hn x (List.mem_of_getElem? e2))).mpr (f.fm.sl j o x e1 e2)
  · by_cases hj : i = j
    · subst hj
      have h2 := (List.getElem?_eq_some_iff.mp e1).1
      rw [List.length_set] at h2
      rw [List.getElem?_set_self h2] at e1
      cases e1
      cases c1
    · by_cases hk : i = k
      · subst hk
        have h2 := (List.getElem?_eq_some_iff.mp e2).1
        rw [List.length_set] at h2
        rw [List.getElem?_set_self h2] at e2
        cases e2
        cases c2
      · rw [List.getElem?_set_ne hj] at e1 e3
        rw [List.getElem?_set_ne hk] at e2
        rw [List.getElem?_set_ne hk]
        exact f.fm.ds j k p x y hjk e1 e2 c1 c2 e3
theorem Fs.hold0 {a dd c : Addr} (f : Fs K O G0 H0 σ ρ G H s) (hn : ρ.all noExc = true) : Fs K (O.hold a (.ref c) (some dd)) G0 H0 σ ρ G H s :=
  ⟨⟨f.fm.gh, f.fm.wg, f.fm.ok, f.fm.len, fun j o x e1 e2 => (slok_hold (List.all_eq_true.mp hn x (List.mem_of_getElem? e2))).mpr (f.fm.sl j o x e1 e2), f.fm.ds⟩, f.tr⟩
/-- e.f in a suite: e is slot i's exception, of the class at C -/
def mXf (O : Wo) (i : Nat) (C : Addr) (f : Str) : ME O := fun ρ s => match ρ[i]? with
  | some (.exc c fs) => if c = C then R.lift (fs.lookup f) s else .bad
  | _ => .bad
theorem de_xf (i : Nat) {a C : Addr} {oe : Obj} {cls : Value} {d : Option Addr} {pn : List (Addr × Obj)} {x f : Str} {p pos : Pos} (cn : Cn K WF (X.suite a ((a, oe) :: pn))) (T : XfC K C) (hno : PySem.W.findIn K (.ref C) f = some none) (hz : Zc cls d oe) (hf : ∃ vs, oe.data = .fields vs)
    (hN : X.N[i]? = some x := by rfl) (hv : Vis X.env.scope x := by first | exact Or.inl rfl | exact Or.inr (Or.inl rfl) | exact Or.inr (Or.inr rfl)) (hd : (x == ("__debug__" : Str)) = false := by decide) (hcd : (x == ("__classdict__" : Str)) = false := by decide)
    (hb : attributeBase (.Name x p) f X.env (eval (.Name x p) X.env) = eval (.Name x p) X.env := by rfl) :
    DE K (O.hold a cls d) WF (X.suite a ((a, oe) :: pn)) (.Attribute (.Name x p) f pos) (tXf a cls d C f (tVar i)) (mXf O i C f) := by
  refine ⟨cn.hK, cn.tk, ?_, fun σ ρ H0 G H s Q F h => ?_⟩
  · have hk : X.K = K := cn.hK
    subst hk
    exact pe_xf (X := X) T hno hz hf (pe_var (X := X.suite a ((a, oe) :: pn)) hN hv hd hcd) hb
  · unfold mXf at h
    split at h
    · rename_i c fs ei
      obtain ⟨o, eo, a', dd, xs, rfl, ⟨rfl, rfl, rfl⟩, hdd, r, nW⟩ := F.at ei
      split at h
      · rename_i ec
        subst ec
        cases el : fs.lookup f with
        | none => rw [el] at h; exact (show False from h).elim
        | some y =>
          rw [el] at h
          obtain ⟨v, ev, rv⟩ := r.look el
          exact ⟨_, eo, rfl, rfl, dd, xs, v, rfl, hdd, ev, h v G H (.refl F.gh) F.ok rv⟩
      · exact (show False from h).elim
    · exact (show False from h).elim
/-- a wish that every try's body has -/
abbrev lookX (X : Cx) : Value → Shared → Prop := fun e s₁ => wpAny (model X.prog X.w) X.A (noteFrame e X.env) (fun _ s₂ => wpAny (model X.prog X.w) X.A (setFlight e none) (fun _ _ => True) X.xe s₂) X.xe s₁
theorem looks_takes {W : WX} {pn : List (Addr × Obj)} (hs : X.stack = X.env :: X.outer) (hf : X.env.frame = some X.env.locals) : Takes (X.tr pn (lookX X)) W := fun u s' xx => by
  obtain ⟨a, B, sI, pins', σ', H', cls, d, rfl, J', nb, up, sky, na, os, ag, w⟩ := xx
  have hfr : X.A.frames = some (X.env :: X.outer) := by rw [← hs]; exact J'.ok.frames
  have sky' : Sky B (X.env :: X.outer) a (Zc cls d) X.env.locals s'.heap := by rw [← hs]; exact sky
  exact Sky.land Zc.steady hfr hf sky' fun h3 fl3 up3 => trivial
def clrS {S : Type} (i : Nat) : RS S → RS S
  | .nx ρ s => if (ρ.set i .no).all noExc = true then .nx (ρ.set i .no) s else .bad
  | .bk ρ s => if (ρ.set i .no).all noExc = true then .bk (ρ.set i .no) s else .bad
  | .ct ρ s => if (ρ.set i .no).all noExc = true then .ct (ρ.set i .no) s else .bad
  | .rt d s => .rt d s
  | .rn ds s => .rn ds s
  | _ => .bad
/-- try: .. except x as n: ..  (mt: whether a class is caught) -/
def mTryAs (O : Wo) (mt : Addr → Option Bool) (i : Nat) (mb ms : MS O) : MS O := fun ρ s => match mb ρ s with
  | .err c fs ρ1 s1 => match mt c with
    | some true => if ρ1.all noExc = true then clrS i (ms (ρ1.set i (.exc c fs)) s1) else .bad
    | some false => .err c fs ρ1 s1
    | none => .bad
  | r => r
theorem ds_tryAs (i : Nat) {x n : Str} {cv : Value} {mt : Addr → Option Bool} {body suite : List Stmt} {b0 : Stmt} {np pos pos' : Pos} {tb : WX → TS} {ts : Addr → Value → Option Addr → TS} {mb ms : MS O} (c : Cs K Wx X) (hm : ∀ c b, mt c = some b → PySem.W.exmOne K (.ref c) cv = some b) (hc : Names X x cv)
    (hb : ∀ (W : WX) (pn : List (Addr × Obj)) (xe : Value → Shared → Prop), Cs K W (X.tr pn xe) → DB K O W (X.tr pn xe) body (tb W) mb)
    (hsu : ∀ (a : Addr) (oe : Obj) (cls : Value) (d : Option Addr) (pn : List (Addr × Obj)), Zc cls d oe → (∃ vs, oe.data = .fields vs) → Cn K WF (X.suite a ((a, oe) :: pn)) → DB K (O.hold a cls d) WF (X.suite a ((a, oe) :: pn)) (b0 :: suite) (ts a cls d) ms)
    (hs : X.stack = X.env :: X.outer := by rfl) (hf : X.env.frame = some X.env.locals := by rfl) (hi : X.N[i]? = some n := by rfl) (hln : X.env.kindOf n = some .local := by rfl) (oe0 : Obj := { cls := .none, data := .fields #[] }) :
    DS K O Wx X (.Try body [.ExceptHandler (some (.Name x np)) (some n) (b0 :: suite) pos'] [] [] pos) (fun D σ H => tb (wAs K cv i ts Wx D) D σ H) (mTryAs O mt i mb ms) := by
  have cs : ∀ (a : Addr) (oe : Obj) (pn : List (Addr × Obj)), Cn K WF (X.suite a ((a, oe) :: pn)) := fun a oe pn => ⟨c.cn.hK, takes0⟩
  have ct : ∀ (W : WX) (pn : List (Addr × Obj)) (xe : Value → Shared → Prop), Takes (X.tr pn xe) W → PassesOwn (model X.prog X.w) X.A X.env xe → Cs K W (X.tr pn xe) := fun W pn xe tk po => ⟨⟨c.cn.hK, tk⟩, po, c.hc, c.nd⟩
  refine ⟨?_, fun G0 H0 σ ρ G H s Dn F h => ?_⟩
  · have hk : X.K = K := c.cn.hK
    subst hk
    exact ps_try_as hs hf c.nd hi hln hc c.cn.tk (fun W pn xe tk po => (hb W pn xe (ct W pn xe tk po)).pe) (fun a oe cls d pn hz hfv => (hsu a oe cls d pn hz hfv (cs a oe pn)).pe)
  · have sb : SndS K O (wAs K cv i ts Wx Dn) (tb (wAs K cv i ts Wx Dn)) mb := (hb _ [] _ (ct _ [] (lookX X) (looks_takes hs hf) PassesOwn.looking)).sn
    refine sb G0 H0 σ ρ G H s Dn F ?_
    unfold mTryAs at h
    revert h
    cases mb ρ s with
    | nx ρ s => exact fun h => h
    | bk ρ s => exact fun h => h
    | ct ρ s => exact fun h => h
    | rt d s => exact fun h => h
    | rn ds s => exact fun h => h
    | bad => exact fun h => h
    | err c' fs ρ1 s1 =>
      intro h σ' dd xs G' H' e F' hdd nW r
      dsimp only at h
      split at h
      · rename_i em
        refine ⟨true, hm _ _ em, fun _ a na => ?_, fun z => by cases z⟩
        split at h
        · rename_i hn
          have ss := (hsu a { cls := .ref c', dict := some dd, data := .fields #[] } (.ref c') (some dd) [] ⟨rfl, rfl⟩ ⟨_, rfl⟩ (cs ..)).sn
          refine ss G0 H0 _ _ G' H' s1 _ (F'.hold hn hdd nW r) ?_
          have h2 := PstS.shift e h
          revert h2
          cases ms (ρ1.set i (.exc c' fs)) s1 with
          | nx ρ2 s2 =>
            intro h2 σ2 G2 H2 e2 F2
            simp only [clrS] at h2
            split at h2
            · rename_i hn2; exact h2 _ G2 H2 e2 (F2.unhold hn2)
            · exact h2.elim
          | bk ρ2 s2 =>
            intro h2 σ2 G2 H2 e2 F2
            simp only [clrS] at h2
            split at h2
            · rename_i hn2; exact h2 _ G2 H2 e2 (F2.unhold hn2)
            · exact h2.elim
          | ct ρ2 s2 =>
            intro h2 σ2 G2 H2 e2 F2
            simp only [clrS] at h2
            split at h2
            · rename_i hn2; exact h2 _ G2 H2 e2 (F2.unhold hn2)
            · exact h2.elim
          | rt d s2 => exact fun h2 => h2
          | rn ds s2 => exact fun h2 => h2
          | err _ _ _ _ => exact fun h2 => (show False from h2).elim
          | bad => exact fun h2 => h2
        · exact h.elim
      · rename_i em
        exact ⟨false, hm _ _ em, fun z => (by cases z), fun _ => h σ' dd xs G' H' e F' hdd nW r⟩
      · exact h.elim
theorem ds_tryE (i : Nat) {x n : Str} {cv : Value} {mt : Addr → Option Bool} {body suite : List Stmt} {b0 : Stmt} {np pos pos' : Pos} {mb ms : MS O} (c : Cs K Wx X) (hm : ∀ c b, mt c = some b → PySem.W.exmOne K (.ref c) cv = some b) (hc : Names X x cv)
    (hb : ∃ tb : WX → TS, ∀ (W : WX) (pn : List (Addr × Obj)) (xe : Value → Shared → Prop), Cs K W (X.tr pn xe) → DB K O W (X.tr pn xe) body (tb W) mb)
    (hsu : ∃ (ts : Addr → Value → Option Addr → TS) (mh : ∀ (a : Addr) (cls : Value) (d : Option Addr), MS (O.hold a cls d)), (∀ (a : Addr) (oe : Obj) (cls : Value) (d : Option Addr) (pn : List (Addr × Obj)), Zc cls d oe → (∃ vs, oe.data = .fields vs) → Cn K WF (X.suite a ((a, oe) :: pn)) → DB K (O.hold a cls d) WF (X.suite a ((a, oe) :: pn)) (b0 :: suite) (ts a cls d) (mh a cls d)) ∧ ∀ a cls d, mh a cls d = ms)
    (hs : X.stack = X.env :: X.outer := by rfl) (hf : X.env.frame = some X.env.locals := by rfl) (hi : X.N[i]? = some n := by rfl) (hln : X.env.kindOf n = some .local := by rfl) :
    DS K O Wx X (.Try body [.ExceptHandler (some (.Name x np)) (some n) (b0 :: suite) pos'] [] [] pos) (fun D σ H => hb.choose (wAs K cv i hsu.choose Wx D) D σ H) (mTryAs O mt i mb ms) :=
  ds_tryAs i c hm hc hb.choose_spec (fun a oe cls d pn hz hf cn => by
    obtain ⟨mh, h1, h2⟩ := hsu.choose_spec
    have := h1 a oe cls d pn hz hf cn
    rw [h2] at this
    exact this) hs hf hi hln
end
end Mr

namespace Mr
open PySem PySem.Spec PyProof.Rows L2 RZ
/-! ### the source of draws: a list of a list, an int, a list, an int -/
structure Dr where
  xs : List Int
  n : Int
  zs : List Int
  k : Int
/-- the world of a source at d, its lists at a and b -/
abbrev DrW (d a b : Addr) : Wo where
  S := Dr
  W := fun p => p = d ∨ p = a ∨ p = b
  ok := fun s H => (H d = some (.lst [.ref a, .int s.n, .ref b, .int s.k]) ∧ H a = some (.lst (s.xs.map V.int)) ∧ H b = some (.lst (s.zs.map V.int))) ∧ d ≠ a ∧ d ≠ b ∧ a ≠ b
  ec := fun _ _ _ => False
  sf := fun _ => True
  loc := fun s H H' h k => by
    refine ⟨⟨?_, ?_, ?_⟩, k.2⟩
    · rw [h d (.inl rfl)]; exact k.1.1
    · rw [h a (.inr (.inl rfl))]; exact k.1.2.1
    · rw [h b (.inr (.inr rfl))]; exact k.1.2.2
  dom := fun s H p k w => by
    rcases w with rfl | rfl | rfl
    · rw [k.1.1]; simp
    · rw [k.1.2.1]; simp
    · rw [k.1.2.2]; simp
section
variable {K : PySem.W.Frag} {Wx : WX} {X : Cx} {d a b : Addr} {G0 H0 G H G1 H1 : Hp} {σ : L2.St} {ρ : Ev} {s s1 : Dr}
/-- slot i holds the source -/
def isDr (d : Addr) (i : Nat) (ρ : Ev) : Bool := match ρ[i]? with
  | some (.sh (.ref p)) => decide (p = d)
  | _ => false
theorem isDr_at {i : Nat} (F : Fm K (DrW d a b) H0 σ ρ G H s) (h : isDr d i ρ = true) : σ[i]? = some (some (.ref d)) := by
  unfold isDr at h
  split at h
  · rename_i p e
    have hp := of_decide_eq_true h
    subst hp
    obtain ⟨v, ev, r⟩ := F.get e
    cases r
    exact ev
  · cases h
theorem dr_at {j : Int} {v : V} (F : Fm K (DrW d a b) H0 σ ρ G H s) (h : atI [V.ref a, .int s.n, .ref b, .int s.k] j = some v) {Q : VK} (q : Q v H) : rIx K (.ref d) (.int j) H Q :=
  .inl ⟨d, _, j, v, rfl, rfl, .inl (.inl F.ok.1.1), h, q⟩
/-- d[1], d[3] -/
def mDrI (d a b : Addr) (i : Nat) (j : Int) : ME (DrW d a b) := fun ρ s => if isDr d i ρ = true then (if j = 1 then .ok (.int s.n) s else if j = 3 then .ok (.int s.k) s else .bad) else .bad
theorem de_drI (i : Nat) {x : Str} {j : Int} {jj : Nat} {p1 p2 pos : Pos} (c : Cn K Wx X) (hN : X.N[i]? = some x := by rfl) (hv : Vis X.env.scope x := by first | exact Or.inl rfl | exact Or.inr (Or.inl rfl) | exact Or.inr (Or.inr rfl)) (hd : (x == ("__debug__" : Str)) = false := by decide)
    (hcd : (x == ("__classdict__" : Str)) = false := by decide) : DE K (DrW d a b) Wx X (.Subscript (.Name x p1) (.Constant (.int j) jj p2) pos) (tOp (rIx K) (tVar i) (tC (.int j))) (mDrI d a b i j) := by
  refine ⟨c.hK, c.tk, pe_ix (ix_G c.hK) (pe_var hN hv hd hcd) pe_int (fun _ _ => rfl), fun σ ρ H0 G H s Q F h => ?_⟩
  unfold mDrI at h
  split at h
  · rename_i hi
    refine ⟨.ref d, isDr_at F hi, ?_⟩
    split at h
    · rename_i e
      subst e
      exact dr_at F rfl (h _ G H (.refl F.gh) F.ok (.int _))
    · split at h
      · rename_i e
        subst e
        exact dr_at F rfl (h _ G H (.refl F.gh) F.ok (.int _))
      · exact (show False from h).elim
  · exact (show False from h).elim
/-- the list of d[0], of d[2] -/
def drL (s : Dr) (j : Int) : Option (List Int) := if j = 0 then some s.xs else if j = 2 then some s.zs else none
theorem drL_at {j : Int} {ns : List Int} (F : Fm K (DrW d a b) H0 σ ρ G H s) (h : drL s j = some ns) : ∃ p, atI [V.ref a, .int s.n, .ref b, .int s.k] j = some (.ref p) ∧ H p = some (.lst (ns.map V.int)) := by
  unfold drL at h
  split at h
  · rename_i e
    subst e
    cases h
    exact ⟨a, rfl, F.ok.1.2.1⟩
  · split at h
    · rename_i e
      subst e
      cases h
      exact ⟨b, rfl, F.ok.1.2.2⟩
    · cases h
/-- d[j] != [] -/
def mDrNe (d a b : Addr) (i : Nat) (j : Int) : MT (DrW d a b) := fun ρ s => if isDr d i ρ = true then (match drL s j with
  | some ns => .ok (!ns.isEmpty) s
  | none => .bad) else .bad
theorem dpAll_ints {H : Hp} : ∀ ns : List Int, DpAll K H (ns.map V.int) (ns.map PyData.int)
  | [] => .nil
  | n :: ns => .cons (.int n) (dpAll_ints ns)
theorem shaped_ints (ns : List Int) : SeqAt.shaped (.list (ns.map PyData.int)) = true := by
  have h1 : ∀ ns : List Int, PyData.canLayAll0 (ns.map PyData.int) = true := by
    intro ns
    induction ns with
    | nil => simp [PyData.canLayAll0]
    | cons n ns ih => simp [PyData.canLayAll0, PyData.canLay0, ih]
  have h2 : (PyData.list (ns.map PyData.int)).depth ≤ 64 := by
    have h3 : ∀ ns : List Int, PyData.depthAll (ns.map PyData.int) ≤ 1 := by
      intro ns
      induction ns with
      | nil => simp [PyData.depthAll]
      | cons n ns ih => simp [PyData.depthAll, PyData.depth]; exact ih
    have := h3 ns
    simp only [PyData.depth]
    omega
  unfold SeqAt.shaped
  simp [PyData.canLay0, h1, h2]
theorem dt_drNe (i : Nat) {x : Str} {j : Int} {jj k : Nat} {p1 p2 p3 p4 pos : Pos} (c : Cn K Wx X) (hr : Room k X.A) (hN : X.N[i]? = some x := by rfl) (hv : Vis X.env.scope x := by first | exact Or.inl rfl | exact Or.inr (Or.inl rfl) | exact Or.inr (Or.inr rfl)) (hd : (x == ("__debug__" : Str)) = false := by decide)
    (hcd : (x == ("__classdict__" : Str)) = false := by decide) : DT K (DrW d a b) Wx X (.Compare (.Subscript (.Name x p1) (.Constant (.int j) jj p2) p3) [.NotEq] [.List [] p4] pos) (tTest (tOp (rNeG K) (tOp (rIx K) (tVar i) (tC (.int j))) (tLst tNil))) (mDrNe d a b i j) := by
  refine ⟨c.hK, c.tk, pt_cmpR (op_neG c.hK hr.units) (pe_ix (ix_G c.hK) (pe_var hN hv hd hcd) pe_int (fun _ _ => rfl)) (pe_lst pa_nil) (nomark _), fun σ ρ H0 G H s Q F h => ?_⟩
  unfold mDrNe at h
  split at h
  · rename_i hi
    refine ⟨.ref d, isDr_at F hi, ?_⟩
    split at h
    · rename_i ns e
      obtain ⟨p, e1, e2⟩ := drL_at F e
      refine dr_at F e1 ⟨Nat.zero_le _, fun q nq => ?_⟩
      have t := Tr0.hid (o := .lst []) F.gh nq
      have pq : p ≠ q := ne_of_none e2 nq
      refine .inr ⟨.list (ns.map .int), .list [], .lst (.inl (.inl (by rw [upd_ne pq]; exact e2))) (dpAll_ints ns), .lst (.inl (.inl upd_same)) .nil, shaped_ints ns, shaped_ints [], _, rfl, ?_⟩
      have ev : (!PyData.eqv (.list (ns.map PyData.int)) (.list [])) = !ns.isEmpty := by
        cases ns <;> simp [PyData.eqv, PyData.eqvAll]
      rw [ev]
      exact h _ G _ t.up (F.keepW t) rfl
    · exact (show False from h).elim
  · exact (show False from h).elim
/-- d[j][e] -/
def mDrIx (d a b : Addr) (i : Nat) (j : Int) (m : ME (DrW d a b)) : ME (DrW d a b) := fun ρ s => if isDr d i ρ = true then (match drL s j with
  | some ns => (m ρ s).bind fun z s1 => match z with
    | .int z => R.lift ((atI ns z).map .int) s1
    | _ => .bad
  | none => .bad) else .bad
theorem atI_map {ns : List Int} {z n : Int} (h : atI ns z = some n) : atI (ns.map V.int) z = some (.int n) := by
  unfold atI at h ⊢
  rw [List.length_map]
  cases e : ixN ns.length z with
  | none => rw [e] at h; cases h
  | some j =>
    rw [e] at h
    have h' : ns[j]? = some n := h
    show (ns.map V.int)[j]? = some (.int n)
    rw [List.getElem?_map, h']
    rfl
theorem de_drIx (i : Nat) {x : Str} {j : Int} {jj : Nat} {e : Expr} {te : TE} {me : ME (DrW d a b)} {p1 p2 p3 pos : Pos} (he : DE K (DrW d a b) Wx X e te me) (hw : ∀ ρ s z s1, me ρ s = .ok z s1 → s1 = s) (hN : X.N[i]? = some x := by rfl) (hv : Vis X.env.scope x := by first | exact Or.inl rfl | exact Or.inr (Or.inl rfl) | exact Or.inr (Or.inr rfl)) (hd : (x == ("__debug__" : Str)) = false := by decide)
    (hcd : (x == ("__classdict__" : Str)) = false := by decide) (hs : PlainIx e := by exact fun _ _ => rfl) : DE K (DrW d a b) Wx X (.Subscript (.Subscript (.Name x p1) (.Constant (.int j) jj p2) p3) e pos) (tOp (rIx K) (tOp (rIx K) (tVar i) (tC (.int j))) te) (mDrIx d a b i j me) := by
  refine ⟨he.hK, he.tk, pe_ix (ix_G he.hK) (pe_ix (ix_G he.hK) (pe_var hN hv hd hcd) pe_int (fun _ _ => rfl)) he.pe hs, fun σ ρ H0 G H s Q F h => ?_⟩
  unfold mDrIx at h
  split at h
  · rename_i hi
    refine ⟨.ref d, isDr_at F hi, ?_⟩
    split at h
    · rename_i ns ed
      obtain ⟨p, e1, e2⟩ := drL_at F ed
      refine dr_at F e1 ?_
      refine he.sn σ ρ H0 G H s _ F (pst_bind h fun z s1 em zv G1 H1 t1 k1 r1 h1 => ?_)
      have hs1 := hw _ _ _ _ em
      subst hs1
      have F1 := F.tr t1 k1
      cases z with
      | int z =>
        cases r1
        dsimp only at h1
        cases ea : atI ns z with
        | none => rw [ea] at h1; exact (show False from h1).elim
        | some n =>
          rw [ea] at h1
          obtain ⟨p', e1', e2'⟩ := drL_at F1 ed
          rw [e1] at e1'
          cases e1'
          exact .inl ⟨p, _, z, .int n, rfl, rfl, .inl (.inl e2'), atI_map ea, h1 _ G1 H1 (.refl t1.gh) k1 (.int _)⟩
      | _ => exact (show False from h1).elim
    · exact (show False from h).elim
  · exact (show False from h).elim
/-- len(d[j]) -/
def mDrLen (d a b : Addr) (i : Nat) (j : Int) : ME (DrW d a b) := fun ρ s => if isDr d i ρ = true then (match drL s j with
  | some ns => .ok (.int ns.length) s
  | none => .bad) else .bad
theorem de_drLen (i : Nat) {x : Str} {j : Int} {jj : Nat} {p p1 p2 p3 pos : Pos} (c : Cn K Wx X) (hm : X.mg "len" = none) (hN : X.N[i]? = some x := by rfl) (hv : Vis X.env.scope x := by first | exact Or.inl rfl | exact Or.inr (Or.inl rfl) | exact Or.inr (Or.inr rfl)) (hd : (x == ("__debug__" : Str)) = false := by decide)
    (hcd : (x == ("__classdict__" : Str)) = false := by decide) (hg : Gl X "len" := by rfl) (he : starEach [.Subscript (.Name x p1) (.Constant (.int j) jj p2) p3] X.env = (false, eval (.Subscript (.Name x p1) (.Constant (.int j) jj p2) p3) X.env) :: starEach [] X.env := by rfl) (hpl : (backTo pos (starEach [] X.env)).any (·.1) = false := by rfl) :
    DE K (DrW d a b) Wx X (.Call (.Name "len" p) [.Subscript (.Name x p1) (.Constant (.int j) jj p2) p3] [] pos) (tCB (fun xs H Q => ∃ x n, xs = [x] ∧ LenV K x H n ∧ Q (.int n) H) (tCons (tOp (rIx K) (tVar i) (tC (.int j))) tNil)) (mDrLen d a b i j) := by
  refine ⟨c.hK, c.tk, pe_callB (call_lenG c.hK) hg hm PySem.boot_len (pa_cons (pe_ix (ix_G c.hK) (pe_var hN hv hd hcd) pe_int (fun _ _ => rfl)) pa_nil he) (by decide) (by decide) he hpl, fun σ ρ H0 G H s Q F h => ?_⟩
  unfold mDrLen at h
  split at h
  · rename_i hi
    refine ⟨.ref d, isDr_at F hi, ?_⟩
    split at h
    · rename_i ns e
      obtain ⟨p, e1, e2⟩ := drL_at F e
      refine dr_at F e1 ⟨_, ns.length, rfl, .inl ⟨_, .inl (.inl e2), by simp⟩, h _ G H (.refl F.gh) F.ok (.int _)⟩
    · exact (show False from h).elim
  · exact (show False from h).elim
/-- the source's own list is written -/
theorem Fs.drw0 (F : Fs K (DrW d a b) G0 H0 σ ρ G H s) (n k : Int) : Fs K (DrW d a b) G0 H0 σ ρ G (upd H d (.lst [.ref a, .int n, .ref b, .int k])) { s with n := n, k := k } := by
  have hd := F.fm.ok
  have t : Tr (DrW d a b).W G H G (upd H d (.lst [.ref a, .int n, .ref b, .int k])) := by
    refine ⟨Same.refl _, fun c u e => ?_, fun c u e => .inl e, fun c u w e => ?_, fun c e => ?_⟩
    · have := F.fm.wg d (.inl rfl)
      rw [upd_ne (ne_of_none e this)]
      exact F.fm.gh c u e
    · rw [upd_ne (fun z => w (.inl z))]; exact e
    · by_cases hc : c = d
      · subst hc; rw [upd_same] at e; cases e
      · rw [upd_ne hc] at e; exact e
  refine F.go t ⟨⟨upd_same, ?_, ?_⟩, hd.2⟩
  · rw [upd_ne (Ne.symm hd.2.1)]; exact hd.1.2.1
  · rw [upd_ne (Ne.symm hd.2.2.1)]; exact hd.1.2.2
/-- d[1] = e, d[3] = e -/
def mDrSet (d a b : Addr) (i : Nat) (j : Int) (m : ME (DrW d a b)) : MS (DrW d a b) := fun ρ s => toS (m ρ s) ρ fun z s1 => if isDr d i ρ = true then (match z with
  | .int z => if j = 1 then .nx ρ { s1 with n := z } else if j = 3 then .nx ρ { s1 with k := z } else .bad
  | _ => .bad) else .bad
theorem ds_drSet (i : Nat) {x : Str} {j : Int} {jj : Nat} {e : Expr} {te : TE} {me : ME (DrW d a b)} {p1 p2 p3 pos : Pos} (he : DE K (DrW d a b) Wx X e te me) (hN : X.N[i]? = some x := by rfl) (hv : Vis X.env.scope x := by first | exact Or.inl rfl | exact Or.inr (Or.inl rfl) | exact Or.inr (Or.inr rfl)) (hd : (x == ("__debug__" : Str)) = false := by decide)
    (hcd : (x == ("__classdict__" : Str)) = false := by decide) (hs : swapsWith e (some (.Subscript (.Name x p1) (.Constant (.int j) jj p2) p3)) pos.line X.env = pure false := by rfl) :
    DS K (DrW d a b) Wx X (.Assign [.Subscript (.Name x p1) (.Constant (.int j) jj p2) p3] e pos) (tAsg te (gSub (tVar i) (tC (.int j)) rSetL)) (mDrSet d a b i j me) := by
  refine ⟨ps_asg he.pe (pg_sub (pe_var hN hv hd hcd) pe_int set_list) hs, fun G0 H0 σ ρ G H s Dn F h => ?_⟩
  refine he.sn σ ρ H0 G H s _ F.fm (pst_toS F h fun z s1 _ zv G1 H1 t1 k1 r1 h1 => ?_)
  have F1 := F.go t1 k1
  split at h1
  · rename_i hi
    refine ⟨.ref d, isDr_at F1.fm hi, ?_⟩
    cases z with
    | int z =>
      cases r1
      dsimp only at h1
      have drw : ∀ n k, Fs K (DrW d a b) G0 H0 σ ρ G1 (upd H1 d (.lst [.ref a, .int n, .ref b, .int k])) { s1 with n := n, k := k } := fun n k => F1.drw0 n k
      split at h1
      · rename_i e
        subst e
        exact ⟨d, _, 1, 1, rfl, rfl, F1.fm.ok.1.1, rfl, h1 σ G1 _ (Same.refl _) (drw z s1.k)⟩
      · split at h1
        · rename_i e
          subst e
          exact ⟨d, _, 3, 3, rfl, rfl, F1.fm.ok.1.1, rfl, h1 σ G1 _ (Same.refl _) (drw s1.n z)⟩
        · exact (show False from h1).elim
    | _ => exact (show False from h1).elim
  · exact (show False from h1).elim
/-- d[1] = d[0].pop(0) -/
def mDrPop (d a b : Addr) (i : Nat) : MS (DrW d a b) := fun ρ s => if isDr d i ρ = true then (match s.xs with
  | [] => .bad
  | x :: xs => .nx ρ { s with n := x, xs := xs }) else .bad
theorem ds_drPop (i : Nat) {x : Str} {j1 j2 j3 : Nat} {p1 p2 p3 p4 p5 p6 p7 p8 p9 pos : Pos} (c : Cn K Wx X) (hN : X.N[i]? = some x := by rfl) (hv : Vis X.env.scope x := by first | exact Or.inl rfl | exact Or.inr (Or.inl rfl) | exact Or.inr (Or.inr rfl)) (hd : (x == ("__debug__" : Str)) = false := by decide)
    (hcd : (x == ("__classdict__" : Str)) = false := by decide)
    (hps : PS X (.Assign [.Subscript (.Name x p1) (.Constant (.int 1) j1 p2) p3] (.Call (.Attribute (.Subscript (.Name x p4) (.Constant (.int 0) j2 p5) p6) "pop" p7) [.Constant (.int 0) j3 p8] [] p9) pos) (tAsg (tBM X.K "list" rPopAt (tOp (rIx X.K) (tVar i) (tC (.int 0))) (tCons (tC (.int 0)) tNil)) (gSub (tVar i) (tC (.int 1)) rSetL)) := by
      exact ps_asg (pe_bm PySem.F.plainAttrs_list PySem.F.slot_list_pop PySem.F.type_list_pop mt_popAt (pe_ix (ix_G rfl) (pv _) pe_int (fun _ _ => rfl)) (pa_cons pe_int pa_nil)) (pg_sub (pv _) pe_int set_list)) :
    DS K (DrW d a b) Wx X (.Assign [.Subscript (.Name x p1) (.Constant (.int 1) j1 p2) p3] (.Call (.Attribute (.Subscript (.Name x p4) (.Constant (.int 0) j2 p5) p6) "pop" p7) [.Constant (.int 0) j3 p8] [] p9) pos)
      (tAsg (tBM K "list" rPopAt (tOp (rIx K) (tVar i) (tC (.int 0))) (tCons (tC (.int 0)) tNil)) (gSub (tVar i) (tC (.int 1)) rSetL)) (mDrPop d a b i) := by
  refine ⟨by rw [← c.hK]; exact hps, fun G0 H0 σ ρ G H s Dn F h => ?_⟩
  unfold mDrPop at h
  split at h
  · rename_i hi
    obtain ⟨xs, n, zs, k⟩ := s
    dsimp only at h
    cases xs with
    | nil => exact (show False from h).elim
    | cons y ys =>
      have ok := F.fm.ok
      have ed := isDr_at F.fm hi
      refine ⟨.ref d, ed, dr_at F.fm (v := .ref a) rfl ⟨.inl ⟨rfl, _, .inl (.inl ok.1.2.1)⟩, a, _, 0, 0, .int y, rfl, rfl, ok.1.2.1, by decide, by decide, (ixN_seq (j := 0) (by simp [ixN])).1, rfl, ?_⟩⟩
      have hda : (upd H a (.lst (((y :: ys).map V.int).eraseIdx 0))) d = some (.lst [.ref a, .int n, .ref b, .int k]) := by
        rw [upd_ne ok.2.1]; exact ok.1.1
      refine ⟨.ref d, ed, d, _, 1, 1, rfl, rfl, hda, rfl, ?_⟩
      have wgd := F.fm.wg d (.inl rfl)
      have wga := F.fm.wg a (.inr (.inl rfl))
      have t : Tr (DrW d a b).W G H G (upd (upd H a (.lst (ys.map V.int))) d (.lst [.ref a, .int y, .ref b, .int k])) := by
        refine ⟨Same.refl _, fun c u e => ?_, fun c u e => .inl e, fun c u w e => ?_, fun c e => ?_⟩
        · rw [upd_ne (ne_of_none e wgd), upd_ne (ne_of_none e wga)]
          exact F.fm.gh c u e
        · rw [upd_ne (fun z => w (.inl z)), upd_ne (fun z => w (.inr (.inl z)))]; exact e
        · by_cases hc : c = d
          · subst hc; rw [upd_same] at e; cases e
          · rw [upd_ne hc] at e
            by_cases hc2 : c = a
            · subst hc2; rw [upd_same] at e; cases e
            · rw [upd_ne hc2] at e; exact e
      refine h σ G _ (Same.refl _) (F.go t ⟨⟨upd_same, ?_, ?_⟩, ok.2⟩)
      · rw [upd_ne (Ne.symm ok.2.1), upd_same]; rfl
      · rw [upd_ne (Ne.symm ok.2.2.1), upd_ne (Ne.symm ok.2.2.2)]; exact ok.1.2.2
  · exact (show False from h).elim
end
end Mr

namespace Mr
open PySem PySem.Spec PyProof.Rows L2 RZ
/-! ### dicts of one's own -/
def putP {β : Type} (kvs : List (Key × β)) (k : Key) (v : β) : List (Key × β) := if (kvs.any fun kv => decide (kv.1 = k)) = true then kvs.map (fun kv => if kv.1 = k then (kv.1, v) else kv) else kvs ++ [(k, v)]
def valP {β : Type} (kvs : List (Key × β)) (k : Key) : Option β := (kvs.find? fun kv => decide (kv.1 = k)).map (·.2)
def mergeP {β : Type} (kvs more : List (Key × β)) : List (Key × β) := more.foldl (fun acc kv => putP acc kv.1 kv.2) kvs
def toKey : D → Option Key
  | .int i => some (.inl i)
  | .str x => some (.inr x)
  | _ => none
section
variable {K : PySem.W.Frag} {O : Wo} {Wx : WX} {X : Cx} {G0 H0 G H G1 H1 : Hp} {σ : L2.St} {ρ : Ev} {s s1 : O.S}
theorem Rep.key {v : V} {d : D} {k : Key} (r : Rep K G v d) (h : toKey d = some k) : v = kV k := by
  cases r <;> cases h <;> rfl
theorem RepK.any {vs : List (Key × V)} {ds : List (Key × D)} (r : RepK K G vs ds) (k : Key) : (vs.any fun kv => decide (kv.1 = k)) = ds.any fun kv => decide (kv.1 = k) := by
  induction vs generalizing ds with
  | nil => cases r; rfl
  | cons p vs ih =>
    cases r with
    | cons h r => rw [List.any_cons, List.any_cons, ih r]
theorem RepK.mapK {v : V} {d : D} (q : Rep K G v d) (k : Key) : ∀ {vs : List (Key × V)} {ds : List (Key × D)}, RepK K G vs ds → RepK K G (vs.map (fun kv => if kv.1 = k then (kv.1, v) else kv)) (ds.map (fun kv => if kv.1 = k then (kv.1, d) else kv))
  | _, _, .nil => .nil
  | (f, _) :: _, _, .cons h r => by
    rw [List.map_cons, List.map_cons]
    by_cases e : f = k
    · subst e
      simp only [if_true]
      exact .cons q (r.mapK q f)
    · simp only [e, if_false]
      exact .cons h (r.mapK q k)
theorem RepK.append : ∀ {a b : List (Key × V)} {c d : List (Key × D)}, RepK K G a c → RepK K G b d → RepK K G (a ++ b) (c ++ d)
  | _, _, _, _, .nil, r => r
  | _, _, _, _, .cons h r, q => .cons h (r.append q)
theorem RepK.put {v : V} {d : D} {k : Key} {vs : List (Key × V)} {ds : List (Key × D)} (r : RepK K G vs ds) (q : Rep K G v d) : RepK K G (putK vs k v) (putP ds k d) := by
  unfold putK putP
  rw [r.any k]
  split
  · exact r.mapK q k
  · exact r.append (.cons q .nil)
theorem RepK.merge : ∀ {ms vs : List (Key × V)} {es ds : List (Key × D)}, RepK K G ms es → RepK K G vs ds → RepK K G (mergeK vs ms) (mergeP ds es)
  | _, _, _, _, .nil, r => r
  | _, _, _, _, .cons h m, r => m.merge (r.put h)
theorem RepK.val {vs : List (Key × V)} {ds : List (Key × D)} {k : Key} {d : D} (r : RepK K G vs ds) (h : valP ds k = some d) : ∃ v, valV vs k = some v ∧ Rep K G v d := by
  induction vs generalizing ds with
  | nil => cases r; cases h
  | cons p vs ih =>
    cases r with
    | @cons f v e vs ds q r =>
      unfold valP at h
      rw [List.find?_cons] at h
      unfold valV
      rw [List.find?_cons]
      by_cases hf : f = k
      · subst hf
        simp only [decide_true] at h ⊢
        cases h
        exact ⟨v, rfl, q⟩
      · simp only [hf, decide_false] at h ⊢
        exact ih r h
theorem RepK.length {vs : List (Key × V)} {ds : List (Key × D)} (r : RepK K G vs ds) : vs.length = ds.length := by
  induction vs generalizing ds with
  | nil => cases r; rfl
  | cons p vs ih =>
    cases r with
    | cons q r => rw [List.length_cons, List.length_cons, ih r]
/-! {k: v, ..} -/
abbrev MP (O : Wo) := Ev → O.S → R O.S (List (D × D))
def pairR (K : PySem.W.Frag) (G : Hp) : List (V × V) → List (D × D) → Prop
  | [], [] => True
  | (x, y) :: ps, (a, b) :: ds => Rep K G x a ∧ Rep K G y b ∧ pairR K G ps ds
  | _, _ => False
theorem pairR.mono (e : Same G G1) : ∀ {ps : List (V × V)} {ds : List (D × D)}, pairR K G ps ds → pairR K G1 ps ds
  | [], [], _ => trivial
  | (x, y) :: ps, (a, b) :: ds, h => ⟨h.1.mono e, h.2.1.mono e, pairR.mono e h.2.2⟩
  | [], _ :: _, h => h.elim
  | _ :: _, [], h => h.elim
def SndP (K : PySem.W.Frag) (O : Wo) (Wx : WX) (t : List (TE × TE)) (m : MP O) : Prop := ∀ σ ρ H0 G H s Q, Fm K O H0 σ ρ G H s → Pst K O Wx σ G H (pairR K) (m ρ s) Q → tPairs t σ H Q
structure DPs (K : PySem.W.Frag) (O : Wo) (Wx : WX) (X : Cx) (pos : Pos) (ks : List (Option Expr)) (vs : List Expr) (t : List (TE × TE)) (m : MP O) : Prop where
  hK : X.K = K
  tk : Takes X Wx
  pe : PPs X pos ks vs t
  sn : SndP K O Wx t m
def mPNil (O : Wo) : MP O := fun _ s => .ok [] s
def mPCons (O : Wo) (k v : ME O) (r : MP O) : MP O := fun ρ s => (k ρ s).bind fun x s1 => (v ρ s1).bind fun y s2 => (r ρ s2).bind fun ps s3 => .ok ((x, y) :: ps) s3
theorem dps_nil {pos : Pos} (c : Cn K Wx X) : DPs K O Wx X pos [] [] [] (mPNil O) := ⟨c.hK, c.tk, pps_nil, fun σ ρ H0 G H s Q F h => h [] G H (.refl F.gh) F.ok trivial⟩
theorem dps_cons {pos : Pos} {k v : Expr} {ks : List (Option Expr)} {vs : List Expr} {tk tv : TE} {tr : List (TE × TE)} {mk mv : ME O} {mr : MP O} (hk : DE K O Wx X k tk mk) (hv : DE K O Wx X v tv mv) (hr : DPs K O Wx X pos ks vs tr mr) :
    DPs K O Wx X pos (some k :: ks) (v :: vs) ((tk, tv) :: tr) (mPCons O mk mv mr) := by
  refine ⟨hk.hK, hk.tk, pps_cons hk.pe hv.pe hr.pe, fun σ ρ H0 G H s Q F h => ?_⟩
  refine hk.sn σ ρ H0 G H s _ F (pst_bind h fun dx s1 _ x G1 H1 t1 k1 r1 h1 => ?_)
  have F1 := F.tr t1 k1
  refine hv.sn σ ρ H0 G1 H1 s1 _ F1 (pst_bind h1 fun dy s2 _ y G2 H2 t2 k2 r2 h2 => ?_)
  have F2 := F1.tr t2 k2
  refine hr.sn σ ρ H0 G2 H2 s2 _ F2 (pst_bind h2 fun ps s3 _ pv G3 H3 t3 k3 r3 h3 => ?_)
  exact h3 _ G3 H3 (.refl t3.gh) k3 ⟨(r1.mono t2.gg).mono t3.gg, r2.mono t3.gg, r3⟩
def keysP : List (D × D) → Option (List (Key × D))
  | [] => some []
  | (a, b) :: ps => match toKey a, keysP ps with
    | some k, some r => some ((k, b) :: r)
    | _, _ => none
theorem keysP_ok : ∀ {ps : List (V × V)} {ds : List (D × D)} {kds : List (Key × D)}, pairR K G ps ds → keysP ds = some kds → ∃ kvs : List (Key × V), ps = kvs.map (fun kv => (kV kv.1, kv.2)) ∧ RepK K G kvs kds
  | [], [], _, _, h => by cases h; exact ⟨[], rfl, .nil⟩
  | (x, y) :: ps, (a, b) :: ds, _, r, h => by
    simp only [keysP] at h
    split at h
    · rename_i k rr e1 e2
      cases h
      obtain ⟨kvs, e3, e4⟩ := keysP_ok r.2.2 e2
      exact ⟨(k, y) :: kvs, by rw [List.map_cons, ← e3, r.1.key e1], .cons r.2.1 e4⟩
    · cases h
  | [], _ :: _, _, r, _ => r.elim
  | _ :: _, [], _, r, _ => r.elim
/-- x = {k: v, ..} -/
def mOwnD (O : Wo) (i : Nat) (m : MP O) : MS O := fun ρ s => toS (m ρ s) ρ fun ps s1 => match keysP ps with
  | some kds => if kds.length ≤ 15 then .nx (ρ.set i (.ownD (mergeP [] kds))) s1 else .bad
  | none => .bad
theorem ds_ownD (i : Nat) {x : Str} {ks : List (Option Expr)} {vs : List Expr} {trs : List (TE × TE)} {m : MP O} {pos pos' pos2 : Pos} (hN : X.N.Nodup) (he : DPs K O Wx X pos2 ks vs trs m) (hi : X.N[i]? = some x := by rfl) (hx : Loc X.env.scope x := by first | exact Or.inl rfl | exact Or.inr rfl)
    (hs : swapsWith (.Dict ks vs pos2) (some (.Name x pos')) pos.line X.env = pure false := by rfl) (hf : X.fn x = true ∨ X.env.scope.names.lookup x = some .local := by first | exact .inl rfl | exact .inr rfl | assumption)
    (hall : ks.all (·.isSome) = true := by rfl) (hl : ks.length = vs.length := by rfl) (h0 : ks ≠ [] := by intro z; cases z) (h15 : ks.length ≤ 15 := by decide) : DS K O Wx X (.Assign [.Name x pos'] (.Dict ks vs pos2) pos) (tAsg (tDisp trs) (gName i)) (mOwnD O i m) := by
  refine ⟨ps_set hN hi hx (pe_disp he.pe hall hl h0 h15) hs hf, fun G0 H0 σ ρ G H s Dn F h => ?_⟩
  intro p np
  have t0 := Tr0.hid (o := .dK []) F.fm.gh np
  have F1 := F.go t0.up (F.fm.keepW t0)
  have nW : ¬ O.W p := fun w => O.dom s H p F.fm.ok w np
  have n0 : H0 p = none := F.tr.dm p np
  refine he.sn σ ρ H0 G _ s _ F1.fm (pst_toS F1 h fun ps s1 _ pv G1 H1 t1 k1 r1 h1 => ?_)
  have F2 := F1.go t1 k1
  have hp : H1 p = some (.dK []) := t1.kp _ _ nW upd_same
  have gp : G1 p = none := by
    cases e : G1 p with
    | none => rfl
    | some z =>
      rcases t1.gr p z e with q | q
      · rw [F.fm.gh.free np] at q; cases q
      · rw [upd_same] at q; cases q
  split at h1
  · rename_i kds ek
    split at h1
    · rename_i hz
      obtain ⟨kvs, e1, e2⟩ := keysP_ok r1 ek
      refine ⟨hp, kvs, e1, by rw [e2.length]; exact hz, ?_⟩
      have t2 : Tr O.W G H G1 (upd H1 p (.dK (mergeK [] kvs))) := (t0.up.trans t1).mut np gp
      have k2 : O.ok s1 (upd H1 p (.dK (mergeK [] kvs))) := O.loc s1 H1 _ (fun a w => by rw [upd_ne]; intro e; rw [e] at w; exact nW w) k1
      exact h1 _ G1 _ (Same.refl _) ⟨F.fm.put t2 k2 np ⟨p, _, rfl, upd_same, e2.merge .nil, gp, nW, n0⟩, F.tr.trans t2⟩
    · exact (show False from h1).elim
  · exact (show False from h1).elim
theorem not_xd_d {H : Hp} {p : Addr} {vs : List (Key × V)} (h : H p = some (.dK vs)) : ∀ u, H p = some u → ∀ fs, u ≠ .xd fs := fun u e fs z => by rw [h] at e; cases e; cases z
/-- x[k] = v -/
def mPutD (O : Wo) (i : Nat) (mk mv : ME O) : MS O := fun ρ s => toS (mv ρ s) ρ fun v s1 => match ρ[i]? with
  | some (.ownD kds) => toS (mk ρ s1) ρ fun k s2 => match toKey k with
    | some k => if kds.length < 100000 then .nx (ρ.set i (.ownD (putP kds k v))) s2 else .bad
    | none => .bad
  | _ => .bad
theorem ds_putD (i : Nat) {x : Str} {ek ev : Expr} {tk tv : TE} {mk mv : ME O} {p1 p2 p3 : Pos} {j : Nat} (hr : Room j X.A) (hk : DE K O Wx X ek tk mk) (hv : DE K O Wx X ev tv mv) (hN : X.N[i]? = some x := by rfl) (hvs : Vis X.env.scope x := by first | exact Or.inl rfl | exact Or.inr (Or.inl rfl) | exact Or.inr (Or.inr rfl))
    (hd : (x == ("__debug__" : Str)) = false := by decide) (hcd : (x == ("__classdict__" : Str)) = false := by decide) (hs : swapsWith ev (some (.Subscript (.Name x p1) ek p2)) p3.line X.env = pure false := by rfl) :
    DS K O Wx X (.Assign [.Subscript (.Name x p1) ek p2] ev p3) (sDPut (tVar i) tk tv) (mPutD O i mk mv) := by
  refine ⟨ps_dput (hu_of hr) (pe_var hN hvs hd hcd) hk.pe hv.pe hs, fun G0 H0 σ ρ G H s Dn F h => ?_⟩
  refine hv.sn σ ρ H0 G H s _ F.fm (pst_toS F h fun d s1 _ v G1 H1 t1 k1 r1 h1 => ?_)
  have F1 := F.go t1 k1
  split at h1
  · rename_i kds ei
    obtain ⟨o, eo, p, vs, rfl, hp, r, gp, wp, h0⟩ := F1.fm.at ei
    refine ⟨.ref p, eo, ?_⟩
    refine hk.sn σ ρ H0 G1 H1 s1 _ F1.fm (pst_toS F1 h1 fun k s2 _ kv G2 H2 t2 k2 r2 h2 => ?_)
    have F2 := F1.go t2 k2
    split at h2
    · rename_i k' ek
      split at h2
      · rename_i hz
        obtain ⟨o', eo', p', vs', e', hp', r', gp', wp', h0'⟩ := F2.fm.at ei
        rw [eo] at eo'
        subst e'
        cases eo'
        have ekv := r2.key ek
        subst ekv
        exact ⟨p, _, rfl, DPut.k hp' (by rw [r'.length]; exact sz5l hz), h2 σ G2 _ (Same.refl _) (F2.wr ei rfl rfl eo gp' wp' h0' (not_xd_d hp') ⟨p, _, rfl, upd_same, r'.put (r1.mono t2.gg), gp', wp', h0'⟩)⟩
      · exact (show False from h2).elim
    · exact (show False from h2).elim
  · exact (show False from h1).elim
/-- x[k], x a dict of one's own -/
def mGetD (O : Wo) (i : Nat) (mk : ME O) : ME O := fun ρ s => match ρ[i]? with
  | some (.ownD kds) => (mk ρ s).bind fun k s1 => match toKey k with
    | some k => R.lift (valP kds k) s1
    | none => .bad
  | _ => .bad
theorem de_getD (i : Nat) {x : Str} {ek : Expr} {tk : TE} {mk : ME O} {p1 pos : Pos} {j : Nat} (hr : Room j X.A) (hk : DE K O Wx X ek tk mk) (hN : X.N[i]? = some x := by rfl) (hvs : Vis X.env.scope x := by first | exact Or.inl rfl | exact Or.inr (Or.inl rfl) | exact Or.inr (Or.inr rfl))
    (hd : (x == ("__debug__" : Str)) = false := by decide) (hcd : (x == ("__classdict__" : Str)) = false := by decide) (hs : NoSl ek := by exact fun _ _ => rfl) : DE K O Wx X (.Subscript (.Name x p1) ek pos) (tDGet (tVar i) tk) (mGetD O i mk) := by
  refine ⟨hk.hK, hk.tk, pe_dget (hu_of hr) (pe_var hN hvs hd hcd) hk.pe hs, fun σ ρ H0 G H s Q F h => ?_⟩
  unfold mGetD at h
  split at h
  · rename_i kds ei
    obtain ⟨o, eo, p, vs, rfl, hp, r, gp, wp, h0⟩ := F.at ei
    refine ⟨.ref p, eo, ?_⟩
    refine hk.sn σ ρ H0 G H s _ F (pst_bind h fun k s1 _ kv G1 H1 t1 k1 r1 h1 => ?_)
    have F1 := F.tr t1 k1
    split at h1
    · rename_i k' e2
      obtain ⟨o', eo', p', vs', e', hp', r', gp', wp', h0'⟩ := F1.at ei
      rw [eo] at eo'
      subst e'
      cases eo'
      have ekv := r1.key e2
      subst ekv
      cases ev : valP kds k' with
      | none => rw [ev] at h1; exact (show False from h1).elim
      | some y =>
        rw [ev] at h1
        obtain ⟨v, e3, e4⟩ := r'.val ev
        refine ⟨p, v, rfl, ?_, h1 v G1 H1 (.refl t1.gh) k1 e4⟩
        rw [← e3]
        exact DGet.k hp'
    · exact (show False from h1).elim
  · exact (show False from h).elim
end
end Mr

namespace Mr
open PySem PySem.Spec PyProof.Rows L2 RZ
section
variable {K : PySem.W.Frag} {O : Wo} {Wx : WX} {X : Cx} {G0 H0 G H G1 H1 : Hp} {σ : L2.St} {ρ : Ev} {s s1 : O.S}
/-! ### a list or a tuple walked -/
def asSeq : D → Option (List D)
  | .lst xs => some xs
  | .tup xs => some xs
  | _ => none
def iSeq (K : PySem.W.Frag) (tl : TE) : TI := fun σ H R => tl σ H fun x H1 => ∃ a, x = .ref a ∧ (((∃ xs, SqL K H1 a xs) ∧ R (Itl K a) H1) ∨ ((∃ xs, SqT K H1 a xs) ∧ R (Itt K a) H1))
theorem pi_seq {tg l : Expr} {tl : TE} (hl : PE X l tl) : PI X tg l (iSeq X.K tl) := by
  refine ⟨fun pins s σ H R I h => ?_⟩
  refine thn (hl.run pins s σ H _ I h) fun v s1 ⟨x, H1, I1, r1, q1⟩ => ?_
  obtain ⟨a, e, q1⟩ := q1
  subst e
  cases r1
  rcases q1 with ⟨⟨xs, hq⟩, q⟩ | ⟨⟨xs, hq⟩, q⟩
  · obtain ⟨its, rv, p, hz⟩ := I1.list hq
    refine wpAny_pyIter_list p.isList ?_
    refine ⟨s1.heap.objs.size, [s1.heap.objs.size], _, _, H1, rfl, I1.kept (t' := s1.toks) fun b o e => Heap.get?_push_of_some _ e, turn_list a _, ⟨_, Heap.get?_push_size _ rfl, rfl, rfl⟩, fun b hb => ?_, q⟩
    have e : b = s1.heap.objs.size := by simpa using hb
    subst e
    exact I1.fpOk (Nat.le_refl _) (I1.hok.fresh (Nat.le_refl _))
  · obtain ⟨its, rv, p, hz⟩ := I1.tuple hq
    refine wpAny_pyIter_tuple (show s1.heap.IsTuple a its.toArray from p) ?_
    refine ⟨s1.heap.objs.size, [s1.heap.objs.size], _, _, H1, rfl, I1.kept (t' := s1.toks) fun b o e => Heap.get?_push_of_some _ e, turn_tuple a _, ⟨_, Heap.get?_push_size _ rfl, rfl, rfl⟩, fun b hb => ?_, q⟩
    have e : b = s1.heap.objs.size := by simpa using hb
    subst e
    exact I1.fpOk (Nat.le_refl _) (I1.hok.fresh (Nat.le_refl _))
def mItS (O : Wo) (m : ME O) : MI O := fun ρ s => (m ρ s).bind fun x s1 => R.lift (asSeq x) s1
theorem di_seq {tg e : Expr} {te : TE} {me : ME O} (he : DE K O Wx X e te me) : DI K O Wx X tg e (iSeq K te) (mItS O me) := by
  refine ⟨by have := he.hK; subst this; exact pi_seq he.pe, fun σ ρ H0 G H s Q F h => ?_⟩
  refine he.sn σ ρ H0 G H s _ F (pst_bind h fun dx s1 _ x G1 H1 t1 k1 r1 h1 => ?_)
  cases r1 with
  | lst hs r => exact ⟨_, rfl, .inl ⟨⟨_, t1.gh.seq hs⟩, h1 _ G1 H1 (.refl t1.gh) k1 (it_list hs r)⟩⟩
  | tup hs r => exact ⟨_, rfl, .inr ⟨⟨_, sq_t t1.gh hs⟩, h1 _ G1 H1 (.refl t1.gh) k1 (it_tup hs r)⟩⟩
  | _ => exact (show False from h1).elim
/-! ### a module's constant -/
structure GC (K : PySem.W.Frag) (mg : Str → Option Value) (x : Str) (v : V) (d : D) : Prop where
  ex : ∃ u, mg x = some u ∧ RelV v u ∧ ∀ G, Rep K G v d
theorem GC.de {x : Str} {v : V} {d : D} {pos : Pos} (h : GC K X.mg x v d) (c : Cn K Wx X) (hg : Gl X x := by rfl) (hdb : (x == ("__debug__" : Str)) = false := by decide) : DE K O Wx X (.Name x pos) (tC v) (mC O d) := by
  obtain ⟨u, hm, r, q⟩ := h.ex
  exact de_glob c hm r q hg hdb
theorem vals_abs : ∀ {us : List Value} {vs : List V}, us.map absV = vs.map some → Vals vs us
  | [], [], _ => .nil
  | u :: us, v :: vs, h => by
    rw [List.map_cons, List.map_cons] at h
    injection h with h1 h2
    refine .cons ?_ (vals_abs h2)
    cases u <;> simp only [absV, Option.some.injEq] at h1 <;> first | (subst h1; first | rfl | exact ⟨_, rfl⟩) | (cases h1; done)
  | [], _ :: _, h => by cases h
  | _ :: _, [], h => by cases h
theorem flat_reps : ∀ {vs : List V} {ds : List D}, toVs ds = some vs → Reps K G vs ds
  | vs, [], h => by cases h; exact .nil
  | vs, d :: ds, h => by
    simp only [toVs] at h
    split at h
    · rename_i p ps e1 e2
      cases h
      refine .cons ?_ (flat_reps e2)
      cases d <;> simp only [toV, Option.some.injEq] at e1 <;> first | (subst e1; constructor) | (cases e1; done)
    · cases h
theorem gc_tup {mg : Str → Option Value} {x : Str} {a : Addr} {dd : Option Addr} {its : Array Value} {n : Nat} {sl : Array (Option Value)} {vs : List V} {ds : List D} (hm : mg x = some (.ref a)) (hl : K.lookup a = some ⟨.type "tuple", dd, .seq its n, sl⟩) (hz : its.size ≤ 1000) (h1 : its.toList.map absV = vs.map some) (h2 : toVs ds = some vs) :
    GC K mg x (.ref a) (.tup ds) := ⟨_, hm, rfl, fun G => .tup (.inr ⟨_, its, n, hl, rfl, rfl, Nat.le_trans hz (by decide), vals_abs h1⟩) (flat_reps h2)⟩
theorem gc_int {mg : Str → Option Value} {x : Str} {i : Int} {t : Tok} (hm : mg x = some (.int i t)) : GC K mg x (.int i) (.int i) := ⟨_, hm, ⟨_, rfl⟩, fun _ => .int i⟩
/-! ### a def whose mirror says nothing -/
theorem Fo.never {P : Program} {w : World} {mg : Str → Option Value} {base : Heap} {k n : Nat} {x : Str} {f : Addr} {fd : FuncData} {ps : List Str} (hm : mg x = some (.ref f)) (kp : PySem.W.keepIn K (.ref f) = true) (b : Binds K fd ps []) (hn : ps.length = n) : Fo P w K mg base O k x n (fun _ _ => .bad) :=
  ⟨f, fd, ps, ⟨fun vs H Q E h => by rw [hn]; exact h.1, fun A outer s H args us vs Q E hr he hb hv h => by
    obtain ⟨_, G, ds, s0, _, _, _, _, q⟩ := h
    exact (show False from q).elim⟩, hm, kp, b⟩
/-! ### a law: the source of draws is made first, then the rest runs in its world -/
def tEx {ι : Type} (u : ι → TS) : TS := fun D σ H => ∃ o, u o D σ H
theorem pss_ex {ι : Type} {sts : List Stmt} {u : ι → TS} (h : ∀ o, PSs X sts (u o)) : PSs X sts (tEx u) := ⟨fun pins s σ H D I q => by
  obtain ⟨o, q⟩ := q
  exact (h o).run pins s σ H D I q⟩
end
/-- the world in which nothing is changed -/
abbrev W0 : Wo where
  S := Unit
  W := fun _ => False
  ok := fun _ _ => True
  ec := fun _ _ _ => False
  sf := fun _ => True
  loc := fun _ _ _ _ _ => trivial
  dom := fun _ _ _ _ w => w.elim
/-- the promise of _law_draws: a new source -/
def spDraws (K : PySem.W.Frag) : Sp := fun vs H Q _ => ∃ (l : Addr) (ns : List Int), vs = [.ref l] ∧ SqL K H l (ns.map V.int) ∧ ns.length ≤ 1000 ∧
  ∀ (H' : Hp) (d a b : Addr), Same H H' → H d = none → H a = none → H b = none → (DrW d a b).ok ⟨ns.filter (fun n => decide (10 ^ 18 ≤ n)), 0, ns.filter (fun n => decide (n < 10 ^ 18)), 0⟩ H' → Q (.ref d) H'
section
variable {K : PySem.W.Frag}
theorem lc_filter {f : Nat} {mt : MT W0} {p : Int → Bool} {ρ : Ev} (hf : f < ρ.length) (hm : ∀ n : Int, mt (ρ.set f (.sh (.int n))) () = .ok (p n) ()) : ∀ (ns : List Int) (acc : List D), acc.length + ns.length ≤ 1000 →
    lcL W0.S (fName f) mt (mVar W0 f) ρ (ns.map D.int) acc () = .ok (acc ++ (ns.filter p).map D.int) ()
  | [], acc, _ => by simp [lcL]
  | n :: ns, acc, h => by
    rw [List.length_cons] at h
    rw [List.map_cons]
    simp only [lcL, fName, hm]
    cases hp : p n with
    | true =>
      have hv : mVar W0 f (ρ.set f (.sh (.int n))) () = .ok (.int n) () := by
        unfold mVar
        rw [List.getElem?_set_self hf]
      dsimp only
      rw [hv]
      dsimp only
      rw [if_pos (by omega), lc_filter hf hm ns (acc ++ [D.int n]) (by simp; omega)]
      simp [List.filter_cons, hp]
    | false =>
      dsimp only
      rw [lc_filter hf hm ns acc (by omega)]
      simp [List.filter_cons, hp]
/-- [[..], 0, [..], 0] -/
theorem draws_read {t1 t2 : TE} {m1 m2 : MA W0} {ns : List Int} {l : Addr} {H : Hp} {Q : VK} {E : XK} {σ : L2.St} {Wx : WX} (hlen : σ.length = 2) (h1 : SndN K W0 Wx t1 m1) (h2 : SndN K W0 Wx t2 m2) (es : σ[0]? = some (some (.ref l))) (hs : SqL K H l (ns.map V.int))
    (e1 : m1 [.sh (.lst (ns.map D.int)), .no] () = .ok ((ns.filter (fun n => decide (10 ^ 18 ≤ n))).map D.int) ()) (e2 : m2 [.sh (.lst (ns.map D.int)), .no] () = .ok ((ns.filter (fun n => decide (n < 10 ^ 18))).map D.int) ())
    (q : ∀ (H' : Hp) (d a b : Addr), Same H H' → H d = none → H a = none → H b = none → (DrW d a b).ok ⟨ns.filter (fun n => decide (10 ^ 18 ≤ n)), 0, ns.filter (fun n => decide (n < 10 ^ 18)), 0⟩ H' → Q (.ref d) H') :
    tRet (tLst (tCons t1 (tCons (tC (.int 0)) (tCons t2 (tCons (tC (.int 0)) tNil))))) { nx := fun _ H' => Q .non H', rt := Q } σ H := by
  have F : Fm K W0 H σ [.sh (.lst (ns.map D.int)), .no] H H () := by
    refine ⟨Same.refl _, fun _ w => w.elim, trivial, hlen, fun i o x a b => ?_, fun i j p x y hij a b c => ?_⟩
    · match i, b with
      | 0, b =>
        cases b
        rw [es] at a
        cases a
        exact ⟨_, rfl, .lst hs (.ints ns)⟩
      | 1, b => cases b; trivial
      | _ + 2, b => simp at b
    · match i, a with
      | 0, a => cases a; cases c
      | 1, a => cases a; cases c
      | _ + 2, a => simp at a
  refine h1 σ _ H H H () _ F ?_
  rw [e1]
  intro p vs G1 H1 t1 _ np gp hp r1
  have ev1 := r1.of_ints
  subst ev1
  have F1 := F.tr (s' := ()) t1 trivial
  refine h2 σ _ H G1 H1 () _ F1 ?_
  rw [e2]
  intro p2 vs2 G2 H2 t2 _ np2 gp2 hp2 r2
  have ev2 := r2.of_ints
  subst ev2
  have hp' : H2 p = some (.lst ((ns.filter (fun n => decide (10 ^ 18 ≤ n))).map V.int)) := t2.kp _ _ (fun z => z) hp
  refine ⟨Nat.le_trans (by decide : 4 ≤ 1000) (by decide), fun d nd => ?_⟩
  have n1 : H1 d = none := t2.dm d nd
  have dp : d ≠ p := fun e => by rw [e, hp'] at nd; cases nd
  have dp2 : d ≠ p2 := fun e => by rw [e, hp2] at nd; cases nd
  have pp : p ≠ p2 := fun e => by rw [← e, hp] at np2; cases np2
  refine q _ d p p2 (fun b o e => ?_) (t1.dm d n1) np (t1.dm p2 np2) ⟨⟨upd_same, by rw [upd_ne dp.symm]; exact hp', by rw [upd_ne dp2.symm]; exact hp2⟩, dp, dp2, pp⟩
  rw [upd_ne (ne_of_none (t2.kp b o (fun z => z) (t1.kp b o (fun z => z) e)) nd)]
  exact t2.kp b o (fun z => z) (t1.kp b o (fun z => z) e)
end
end Mr
namespace Mr
open PySem PySem.Spec PyProof.Rows L2 RZ
theorem draws_m1 {ns : List Int} (h : ns.length ≤ 1000) : mLc W0 (mItS W0 (mVar W0 0)) (fName 1) (mTest W0 (mBin W0 dGe (mVar W0 1) (mBin W0 dPow (mC W0 (.int 10)) (mC W0 (.int 18))))) (mVar W0 1) [1] [.sh (.lst (ns.map D.int)), .no] () = .ok ((ns.filter (fun n => decide (10 ^ 18 ≤ n))).map D.int) () := by
  have e := lc_filter (f := 1) (mt := mTest W0 (mBin W0 dGe (mVar W0 1) (mBin W0 dPow (mC W0 (.int 10)) (mC W0 (.int 18))))) (p := fun n => decide (10 ^ 18 ≤ n)) (ρ := [.sh (.lst (ns.map D.int)), .no]) (by simp) (fun n => by
    simp [mTest, mBin, mVar, mC, dPow, dInt2, CPowG, dGe, dBool]) ns [] (by simpa using h)
  rw [List.nil_append] at e
  exact e
theorem draws_m2 {ns : List Int} (h : ns.length ≤ 1000) : mLc W0 (mItS W0 (mVar W0 0)) (fName 1) (mTest W0 (mBin W0 dLt (mVar W0 1) (mBin W0 dPow (mC W0 (.int 10)) (mC W0 (.int 18))))) (mVar W0 1) [1] [.sh (.lst (ns.map D.int)), .no] () = .ok ((ns.filter (fun n => decide (n < 10 ^ 18))).map D.int) () := by
  have e := lc_filter (f := 1) (mt := mTest W0 (mBin W0 dLt (mVar W0 1) (mBin W0 dPow (mC W0 (.int 10)) (mC W0 (.int 18))))) (p := fun n => decide (n < 10 ^ 18)) (ρ := [.sh (.lst (ns.map D.int)), .no]) (by simp) (fun n => by
    simp [mTest, mBin, mVar, mC, dPow, dInt2, CPowG, dLt, dBool]) ns [] (by simpa using h)
  rw [List.nil_append] at e
  exact e
/-- the frame of a law behind its first line -/
theorem law_fm {K : PySem.W.Frag} {ns : List Int} {l d a b : Addr} {H H1 : Hp} {s0 : Dr} {n : Nat} {σ : L2.St} (hS : SqL K H l (ns.map V.int)) (sm : Same H H1) (nd : H d = none) (na : H a = none) (nb : H b = none) (ok : (DrW d a b).ok s0 H1) (hl : σ.length = n + 2) (e0 : σ[0]? = some (some (.ref l))) (e1 : σ[1]? = some (some (.ref d))) :
    Fs K (DrW d a b) H H1 σ (.sh (.lst (ns.map D.int)) :: .sh (.ref d) :: List.replicate n .no) H H1 s0 := by
  refine ⟨⟨sm, fun p w => ?_, ok, by simp [hl], fun i o x u v => ?_, fun i j p x y hij u v c => ?_⟩, .refl sm⟩
  · rcases w with rfl | rfl | rfl
    · exact nd
    · exact na
    · exact nb
  · match i, v with
    | 0, v =>
      cases v
      rw [e0] at u
      cases u
      exact ⟨_, rfl, .lst hS (.ints ns)⟩
    | 1, v =>
      cases v
      rw [e1] at u
      cases u
      exact ⟨_, rfl, .ref d⟩
    | i + 2, v =>
      have := List.mem_of_getElem? (show (List.replicate n Sl.no)[i]? = some x from v)
      rw [List.mem_replicate] at this
      rw [this.2]
      trivial
  · match i, u with
    | 0, u => cases u; cases c
    | 1, u => cases u; cases c
    | i + 2, u =>
      have := List.mem_of_getElem? (show (List.replicate n Sl.no)[i]? = some x from u)
      rw [List.mem_replicate] at this
      rw [this.2] at c
      cases c
def spLaw (K : PySem.W.Frag) : Sp := fun vs H Q _ => ∃ (l : Addr) (ns : List Int), vs = [.ref l] ∧ SqL K H l (ns.map V.int) ∧ ns.length ≤ 63 ∧ ∀ H', Q (.bl true) H'
end Mr
namespace Mr
open PySem PySem.Spec PyProof.Rows L2
theorem noCX {P : Program} {w : World} {O : List Env} {H : Hp} {s : Shared} {e : Value} {s' : Shared} (z : L2.CX P w O H s (fun _ _ _ => False) e s') : False := by
  unfold L2.CX at z
  simp at z
end Mr

namespace Mr
open PySem PySem.Spec PyProof.Rows L2 RZ
/-! ### the mirrors of operators at given values -/
theorem eAdd (i j : Int) : dAdd (.int i) (.int j) = some (.int (i + j)) := rfl
theorem eSub (i j : Int) : dSub (.int i) (.int j) = some (.int (i - j)) := rfl
theorem eMul (i j : Int) : dMul (.int i) (.int j) = if CMulG i j then some (.int (i * j)) else none := rfl
theorem eDiv (i j : Int) : dDiv (.int i) (.int j) = if CDivG i j then some (.int (i.fdiv j)) else none := rfl
theorem eMod (i j : Int) : dMod (.int i) (.int j) = if CModG i j then some (.int (i.fmod j)) else none := rfl
theorem ePow (i j : Int) : dPow (.int i) (.int j) = if CPowG i j then some (.int (i ^ j.toNat)) else none := rfl
theorem eNeg (i : Int) : dNeg (.int i) = some (.int (-i)) := rfl
theorem eLt (i j : Int) : dLt (.int i) (.int j) = some (.bl (decide (i < j))) := rfl
theorem eLe (i j : Int) : dLe (.int i) (.int j) = some (.bl (decide (i ≤ j))) := rfl
theorem eGt (i j : Int) : dGt (.int i) (.int j) = some (.bl (decide (j < i))) := rfl
theorem eGe (i j : Int) : dGe (.int i) (.int j) = some (.bl (decide (j ≤ i))) := rfl
theorem eEqI (i j : Int) : dEq (.int i) (.int j) = some (.bl (decide (i = j))) := rfl
theorem eNeI (i j : Int) : dNe (.int i) (.int j) = some (.bl (!decide (i = j))) := rfl
theorem eEqS (i j : Str) : dEq (.str i) (.str j) = some (.bl (decide (i = j))) := rfl
theorem eEqB (i j : Bool) : dEq (.bl i) (.bl j) = some (.bl (decide (i = j))) := rfl
theorem eNeB (i j : Bool) : dNe (.bl i) (.bl j) = some (.bl (!decide (i = j))) := rfl
theorem eIdxL (xs : List D) (i : Int) : dIdx (.lst xs) (.int i) = atI xs i := rfl
theorem eIdxT (xs : List D) (i : Int) : dIdx (.tup xs) (.int i) = atI xs i := rfl
theorem eBool (b : Bool) : dBool (.bl b) = some b := rfl
theorem eAbs (i : Int) : dAbs [.int i] = some (.int (if i < 0 then -i else i)) := rfl
theorem lg_of {n k : Nat} (h : n < 2 ^ k) (hk : 0 < k) : n.log2 < k := by
  by_cases e : n = 0
  · subst e; rw [Nat.log2_zero]; exact hk
  · exact (Nat.log2_lt e).mpr h
theorem lg4 {x : Int} (h1 : -(10 ^ 200) < x) (h2 : x < 10 ^ 200) : x.natAbs.log2 < 700 := by
  refine lg_of (k := 700) ?_ (by decide)
  have e : (10 : Int) ^ 200 = ((10 ^ 200 : Nat) : Int) := by decide +kernel
  have h3 : x.natAbs < 10 ^ 200 := by rw [e] at h1 h2; omega
  exact Nat.lt_trans h3 (by decide +kernel)
theorem mulG {i j : Int} (h1 : -(10 ^ 200) < i) (h2 : i < 10 ^ 200) (h3 : -(10 ^ 200) < j) (h4 : j < 10 ^ 200) : CMulG i j := ⟨Nat.lt_trans (lg4 h1 h2) (by decide), Nat.lt_trans (lg4 h3 h4) (by decide)⟩
theorem divG {i j : Int} (h0 : j ≠ 0) (h3 : -(10 ^ 200) < j) (h4 : j < 10 ^ 200) : CDivG i j := ⟨h0, Nat.lt_trans (lg4 h3 h4) (by decide)⟩
theorem modG {i j : Int} (h0 : j ≠ 0) : CModG i j := h0
theorem pow10 (k : Int) (h0 : 0 ≤ k) (h1 : k ≤ 1000) : CPowG 10 k := ⟨h0, h1, by decide⟩
theorem atI_ok {α : Type} {xs : List α} {i : Int} (h0 : 0 ≤ i) (h1 : i < xs.length) : ∃ x, atI xs i = some x ∧ x ∈ xs := by
  unfold atI ixN
  rw [if_pos h0, if_pos h1]
  have h2 : i.toNat < xs.length := by omega
  exact ⟨xs[i.toNat], by simp [List.getElem?_eq_getElem h2], List.getElem_mem h2⟩
theorem isDr0 (d : Addr) (ρ : Ev) : isDr d 0 (.sh (.ref d) :: ρ) = true := by simp [isDr]
/-- what every law keeps of its source: b bounds the number of draws -/
structure Ok (b : Int) (s : Dr) : Prop where
  xs : ∀ x ∈ s.xs, 0 < x
  n : 0 ≤ s.n
  k : 0 ≤ s.k
  kb : s.k ≤ b
theorem Ok.mono {b c : Int} {s : Dr} (h : Ok b s) (hc : b ≤ c) : Ok c s := ⟨h.xs, h.n, h.k, Int.le_trans h.kb hc⟩
theorem Ok.start (ns : List Int) : Ok 0 ⟨ns.filter (fun n => decide (10 ^ 18 ≤ n)), 0, ns.filter (fun n => decide (n < 10 ^ 18)), 0⟩ :=
  ⟨fun x hx => by have := (List.mem_filter.mp hx).2; simp at this; omega, Int.le_refl _, Int.le_refl _, Int.le_refl _⟩
end Mr

namespace Mr
open PySem PySem.Spec PyProof.Rows L2 RZ
/-! ### an error in hand: isinstance, its fields, a def called with it -/
structure IsC (K : PySem.W.Frag) (C : Addr) : Prop where
  cl : (PySem.W.clsIn K C).isSome = true
  ga : PySem.W.findIn K (.ref C) "__getattribute__" = some (some (.builtin "BaseException.__getattribute__"))
  gt : PySem.W.findIn K (.ref C) "__getattr__" = some none
  sb : PySem.W.subIn K (.ref C) (.type "BaseException") = some true
  ca : PySem.W.findIn K (.ref C) "__class__" = some (some (.builtin "object.__class__"))
  gs : PySem.W.specialIn K (.builtin "object.__class__") "__get__" = some (some (.builtin "getset_descriptor.__get__"))
  tk : PySem.W.takesIn K (.builtin "object.__class__") = some true
  mr : PySem.W.mroIn K C (.type "object") = some true
def rIsX (K : PySem.W.Frag) (a : Addr) (cls : Value) (d : Option Addr) : List V → Hp → VK → Prop := fun xs H Q => ∃ (c : V) (cv : Value) (b : Bool) (C dd : Addr) (fs : List (Str × V)), xs = [.ref a, c] ∧ cls = .ref C ∧ d = some dd ∧ H dd = some (.xd fs) ∧ IsC K C ∧ (∀ u, RelV c u → u = cv) ∧ PySem.W.kitOne K (.ref C) cv = some b ∧ Q (.bl b) H
theorem instX {X : Cx} {pins : List (Addr × Obj)} {σ : L2.St} {H : Hp} {s : Shared} {a C dd : Addr} {oe : Obj} {fs : List (Str × V)} (I : Inv X pins σ H s) (hp : (a, oe) ∈ X.pn) (hz : Zc (.ref C) (some dd) oe) (hf : ∃ vs, oe.data = .fields vs) (hdd : H dd = some (.xd fs)) :
    ∃ (od : Obj) (mA : Str → Option Value), PySem.W.InstAt s.heap a oe C (some od) ∧ (∀ name, PySem.W.lookIn name od = some (mA name)) ∧ (∀ n, RelO (fs.lookup n) (mA n)) := by
  have hx : ObjOk X.prog X.w H s.heap dd (.xd fs) := I.hok dd _ hdd
  obtain ⟨mA, hns, hr⟩ := hx
  obtain ⟨od, ho, hl⟩ := lookIn_ns hns
  obtain ⟨vs, hd⟩ := hf
  refine ⟨od, mA, ⟨(I.pin (a, oe) (List.mem_append.mpr (.inl hp))).1, hz.1, ?_, ?_⟩, hl, hr⟩
  · unfold PySem.W.notCls
    rw [hd] <;> rfl
  · rw [hz.2]
    exact ho
theorem call_isX {X : Cx} {a : Addr} {oe : Obj} {cls : Value} {d : Option Addr} (hp : (a, oe) ∈ X.pn) (hz : Zc cls d oe) (hf : ∃ vs, oe.data = .fields vs) : CallR X (.builtin "isinstance") (rIsX X.K a cls d) := by
  rintro pins s σ H _ us Q I r ⟨c, cv, b, C, dd, fs, rfl, rfl, rfl, hdd, ic, hcv, hk, q⟩
  cases r with
  | cons rx rr =>
    cases rr with
    | cons rt r0 =>
      cases r0
      cases rx
      have ec := hcv _ rt
      subst ec
      obtain ⟨od, mA, J, _, _⟩ := instX I hp hz hf hdd
      exact PySem.W.kia_one (PySem.W.kitx_exc ic.cl ic.ga ic.gt ic.sb ic.ca ic.gs ic.tk ic.mr) I.kIn J hk (fun z => nomatch z) fun tk => ⟨.bl b, H, I.kept (t' := tk) fun _ _ z => z, rfl, q⟩
section
variable {K : PySem.W.Frag} {O : Wo} {Wx : WX} {X : Cx}
def mIsX (O : Wo) (i : Nat) (t : Addr → Option Bool) : ME O := fun ρ s => match ρ[i]? with
  | some (.exc c fs) => R.lift ((t c).map .bl) s
  | _ => .bad
theorem de_isX (i : Nat) {a : Addr} {oe : Obj} {cls : Value} {d : Option Addr} {t : Addr → Option Bool} {x y : Str} {vD : V} {cv : Value} {p p1 p2 pos : Pos} (c : Cn K Wx X) (hp : (a, oe) ∈ X.pn) (hz : Zc cls d oe) (hf : ∃ vs, oe.data = .fields vs) (hm : X.mg "isinstance" = none)
    (hy : PE X (.Name y p2) (tC vD)) (hrel : ∀ u, RelV vD u → u = cv) (ht : ∀ c b, t c = some b → IsC K c ∧ PySem.W.kitOne K (.ref c) cv = some b)
    (hN : X.N[i]? = some x := by rfl) (hv : Vis X.env.scope x := by first | exact Or.inl rfl | exact Or.inr (Or.inl rfl) | exact Or.inr (Or.inr rfl)) (hd : (x == ("__debug__" : Str)) = false := by decide) (hcd : (x == ("__classdict__" : Str)) = false := by decide)
    (hg : Gl X "isinstance" := by rfl) (he : starEach [.Name x p1, .Name y p2] X.env = (false, eval (.Name x p1) X.env) :: starEach [.Name y p2] X.env := by rfl) (he2 : starEach [.Name y p2] X.env = (false, eval (.Name y p2) X.env) :: starEach [] X.env := by rfl) (hpl : (backTo pos (starEach [.Name y p2] X.env)).any (·.1) = false := by rfl) :
    DE K (O.hold a cls d) Wx X (.Call (.Name "isinstance" p) [.Name x p1, .Name y p2] [] pos) (tCB (rIsX K a cls d) (tCons (tVar i) (tCons (tC vD) tNil))) (mIsX O i t) := by
  refine ⟨c.hK, c.tk, ?_, fun σ ρ H0 G H s Q F h => ?_⟩
  · have hk : X.K = K := c.hK
    subst hk
    exact pe_callB (call_isX hp hz hf) hg hm (by decide +kernel) (pa_cons (pe_var hN hv hd hcd) (pa_cons hy pa_nil he2) he) (by decide) (by decide) he hpl
  · unfold mIsX at h
    split at h
    · rename_i c' fs ei
      obtain ⟨o, eo, a', dd, xs, rfl, ⟨rfl, rfl, rfl⟩, hdd, r, nW⟩ := F.at ei
      cases et : t c' with
      | none => rw [et] at h; exact (show False from h).elim
      | some b =>
        rw [et] at h
        obtain ⟨ic, hk⟩ := ht c' b et
        exact ⟨_, eo, vD, cv, b, c', dd, xs, rfl, rfl, rfl, hdd, ic, hrel, hk, h _ G H (.refl F.gh) F.ok (.bl b)⟩
    · exact (show False from h).elim
theorem pe_xfX {a C : Addr} {oe : Obj} {cls : Value} {d : Option Addr} {e : Expr} {te : TE} {pos : Pos} {n : Str} (hp : (a, oe) ∈ X.pn) (T : XfC X.K C) (hno : PySem.W.findIn X.K (.ref C) n = some none) (hz : Zc cls d oe) (hf : ∃ vs, oe.data = .fields vs) (he : PE X e te) (hb : attributeBase e n X.env (eval e X.env) = eval e X.env) :
    PE X (.Attribute e n pos) (tXf a cls d C n te) := ⟨fun pins s σ H Q I h => attr_of hb (thn (he.run pins s σ H _ I h) fun u s1 hh => by
  obtain ⟨x, H1, I1, rx, rfl, rfl, dd, fs, v, rfl, ea, l, q⟩ := hh
  cases rx
  obtain ⟨od, mA, J, hl, hr⟩ := instX I1 hp hz hf ea
  obtain ⟨w, hw, rw'⟩ := RelO.some_of (v := v) (o := mA n) (by have := hr n; rw [l] at this; exact this)
  have hfo := PySem.W.findObj_own (od := od) (v := w) T.hdC hno rfl (by rw [hl, hw])
  exact HandSPX.exc_get I1.kIn J T.ga T.gg T.exC hfo (handed_of rw') ⟨v, H1, I1.tok _, rw', q⟩)⟩
theorem de_xfX (i : Nat) {a C : Addr} {oe : Obj} {cls : Value} {d : Option Addr} {x f : Str} {p pos : Pos} (c : Cn K Wx X) (hp : (a, oe) ∈ X.pn) (T : XfC K C) (hno : PySem.W.findIn K (.ref C) f = some none) (hz : Zc cls d oe) (hf : ∃ vs, oe.data = .fields vs)
    (hN : X.N[i]? = some x := by rfl) (hv : Vis X.env.scope x := by first | exact Or.inl rfl | exact Or.inr (Or.inl rfl) | exact Or.inr (Or.inr rfl)) (hd : (x == ("__debug__" : Str)) = false := by decide) (hcd : (x == ("__classdict__" : Str)) = false := by decide)
    (hb : attributeBase (.Name x p) f X.env (eval (.Name x p) X.env) = eval (.Name x p) X.env := by rfl) :
    DE K (O.hold a cls d) Wx X (.Attribute (.Name x p) f pos) (tXf a cls d C f (tVar i)) (mXf O i C f) := by
  refine ⟨c.hK, c.tk, ?_, fun σ ρ H0 G H s Q F h => ?_⟩
  · have hk : X.K = K := c.hK
    subst hk
    exact pe_xfX hp T hno hz hf (pe_var hN hv hd hcd) hb
  · unfold mXf at h
    split at h
    · rename_i c' fs ei
      obtain ⟨o, eo, a', dd, xs, rfl, ⟨rfl, rfl, rfl⟩, hdd, r, nW⟩ := F.at ei
      split at h
      · rename_i ec
        subst ec
        cases el : fs.lookup f with
        | none => rw [el] at h; exact (show False from h).elim
        | some y =>
          rw [el] at h
          obtain ⟨v, ev, rv⟩ := r.look el
          exact ⟨_, eo, rfl, rfl, dd, xs, v, rfl, hdd, ev, h v G H (.refl F.gh) F.ok rv⟩
      · exact (show False from h).elim
    · exact (show False from h).elim
/-! ### l.count(True) -/
def rCountB (K : PySem.W.Frag) : V → List V → Hp → VK → Prop := fun x xs H Q => ∃ (a : Addr) (bs : List Bool) (k : Bool), x = .ref a ∧ xs = [.bl k] ∧ SqL K H a (bs.map V.bl) ∧ Q (.int ((bs.countP (· == k) : Nat) : Int)) H
theorem dpAll_bools {H : Hp} : ∀ bs : List Bool, DpAll K H (bs.map V.bl) (bs.map PyData.bool)
  | [] => .nil
  | b :: bs => .cons (.bl b) (dpAll_bools bs)
theorem mt_countB (hu : X.A.units + 65 < cLine) : MtR X "list.count" (rCountB X.K) := by
  rintro pins s σ H _ _ v us Q I rx rxs ⟨a, bs, k, rfl, rfl, hs, q⟩
  cases rx
  cases rxs with
  | cons ry rt =>
    cases rt
    cases ry
    obtain ⟨its, rv, p, hlen⟩ := I.list hs
    obtain ⟨as, ra⟩ := Dp.readsAll I (bs.map PyData.bool) _ its (dpAll_bools bs) rv
    have pl : ∀ bs : List Bool, PyData.plainAll (bs.map PyData.bool) = true := fun bs => by
      induction bs with
      | nil => rfl
      | cons b bs ih => simp [PyData.plainAll, PyData.plain]; exact ih
    have e : (bs.map PyData.bool).countP (fun y => PyData.eqv y (.bool k)) = bs.countP (· == k) := by
      rw [List.countP_map]
      congr 1
    refine SeqAt.count_list_data (vs := its.toArray) p.isList (show ReadsAll s.heap its.toArray.toList (bs.map PyData.bool) as from ra) (.bool k) (pl bs) rfl ?_ ?_
    · have : (PyData.bool k).depth = 0 := rfl
      rw [this]
      omega
    · rw [e]
      exact ⟨.int _, H, I.tok _, ⟨_, rfl⟩, q⟩
def toBs : List D → Option (List Bool)
  | [] => some []
  | .bl b :: xs => (toBs xs).map (b :: ·)
  | _ :: _ => none
theorem Reps.bools {G : Hp} : ∀ {vs : List V} {ds : List D} {bs : List Bool}, Reps K G vs ds → toBs ds = some bs → vs = bs.map V.bl
  | _, _, _, .nil, h => by cases h; rfl
  | _, _, _, .cons q r, h => by
    cases q <;> simp only [toBs, Option.map_eq_some_iff] at h <;> first | (cases h; done) | skip
    obtain ⟨bs, h1, rfl⟩ := h
    rw [r.bools h1]
    rfl
def dCountB (xs : List D) : D → Option D
  | .bl k => match toBs xs with
    | some bs => some (.int ((bs.countP (· == k) : Nat) : Int))
    | none => none
  | _ => none
def mCountB (O : Wo) (mo me : ME O) : ME O := fun ρ s => (mo ρ s).bind fun x s1 => match x with
  | .lst xs => (me ρ s1).bind fun y s2 => R.lift (dCountB xs y) s2
  | _ => .bad
theorem de_countB {o e : Expr} {to te : TE} {mo me : ME O} {p1 pos : Pos} {k : Nat} (hr : X.A.units + 65 < cLine) (ho : DE K O Wx X o to mo) (he : DE K O Wx X e te me)
    (hbase : attributeBase o "count" X.env (eval o X.env) = eval o X.env := by rfl)
    (hfew : ((backTo pos (starEach [e] X.env)).all (fun x => !x.1) && (backToKw pos (keywordEach [] X.env)).all (fun x => x.1.isSome) && decide ([e].length + ([] : List Keyword).length + (if ([] : List Keyword).isEmpty then 0 else 1) < 30)) = true := by rfl)
    (hline : (p1.endLine == pos.line) = true := by rfl) (hs : starEach [e] X.env = (false, eval e X.env) :: starEach [] X.env := by rfl) (hpl : (backTo pos (starEach [] X.env)).any (·.1) = false := by rfl) :
    DE K O Wx X (.Call (.Attribute o "count" p1) [e] [] pos) (tBM K "list" (rCountB K) to (tCons te tNil)) (mCountB O mo me) := by
  refine ⟨ho.hK, ho.tk, ?_, fun σ ρ H0 G H s Q F h => ?_⟩
  · have hk : X.K = K := ho.hK
    subst hk
    exact pe_bm PySem.F.plainAttrs_list PySem.F.slot_list_count PySem.F.type_list_count (mt_countB hr) ho.pe (pa_cons he.pe pa_nil hs) hbase hfew hline hs hpl
  · refine ho.sn σ ρ H0 G H s _ F (pst_bind h fun dx s1 _ x G1 H1 t1 k1 r1 h1 => ?_)
    cases r1 with
    | lst hq r =>
      refine ⟨.inl ⟨rfl, _, t1.gh.seq hq⟩, ?_⟩
      refine he.sn σ ρ H0 G1 H1 s1 _ (F.tr t1 k1) (pst_bind h1 fun dy s2 _ y G2 H2 t2 k2 r2 h2 => ?_)
      cases r2 with
      | bl kb =>
        unfold dCountB at h2
        dsimp only at h2
        cases eb : toBs _ with
        | some bs =>
          rw [eb] at h2
          have := r.bools eb
          subst this
          exact ⟨_, bs, kb, rfl, rfl, t2.gh.seq (t2.gg.seq hq), h2 _ G2 H2 (.refl t2.gh) k2 (.int _)⟩
        | none => rw [eb] at h2; exact (show False from h2).elim
      | _ => exact (show False from h2).elim
    | _ => exact (show False from h1).elim
end
/-! ### a def called with the error in hand -/
def spX (K : PySem.W.Frag) (O : Wo) (a : Addr) (cls : Value) (d : Option Addr) (m : Addr → List (Str × D) → O.S → R O.S D) : Sp := fun vs H Q E => vs = [.ref a] ∧ ∃ (G : Hp) (c dd : Addr) (fs : List (Str × D)) (xs : List (Str × V)) (s : O.S),
  cls = .ref c ∧ d = some dd ∧ H dd = some (.xd xs) ∧ RepF K G xs fs ∧ ¬ O.W dd ∧ Same G H ∧ (∀ p, O.W p → G p = none) ∧ O.ok s H ∧ PstF K O G H (m c fs s) Q E
structure FoX (P : Program) (w : World) (K : PySem.W.Frag) (mg : Str → Option Value) (base : Heap) (O : Wo) (k : Nat) (x : Str) (m : Addr → List (Str × D) → O.S → R O.S D) : Prop where
  ex : ∃ f fd ps, ps.length = 1 ∧ (∀ (A : Around) (outer : List Env) (s : Shared) (H : Hp) (args : Args) (us : List Value) (vs : List V) (Q : VK) (E : XK) (a : Addr) (oe : Obj) (cls : Value) (d : Option Addr), L2H.RoomH k A → L2H.PinOk outer H s (a, oe) → Zc cls d oe → (∃ vs, oe.data = .fields vs) →
      Env0 P w K mg base A outer s H → BindsTo s fd args (ps.zip us) → Vals vs us → spX K O a cls d m vs H Q E → codeAny (model P w) A (.call (.ref f) args) (CR (L2.CX P w) outer P w H s Q E) s) ∧ mg x = some (.ref f) ∧ PySem.W.keepIn K (.ref f) = true ∧ Binds K fd ps []
def runX (O : Wo) (n : Nat) (m : MS O) : Addr → List (Str × D) → O.S → R O.S D := fun c fs s => match m (.exc c fs :: List.replicate n .no) s with
  | .nx _ s1 => .ok .non s1
  | .rt d s1 => .ok d s1
  | _ => .bad
section
variable {P : Program} {w : World} {K : PySem.W.Frag} {mg : Str → Option Value} {base : Heap} {O : Wo}
theorem startX {a c dd : Addr} {fs : List (Str × D)} {xs : List (Str × V)} {G H : Hp} {s : O.S} {n : Nat} {N : List Str} (hn : N.length = n + 1) (g : Same G H) (wg : ∀ p, O.W p → G p = none) (ok : O.ok s H) (hd : H dd = some (.xd xs)) (r : RepF K G xs fs) (nW : ¬ O.W dd) :
    Fm K (O.hold a (.ref c) (some dd)) H (L2.start N [.ref a]) (.exc c fs :: List.replicate n .no) G H s := by
  refine ⟨g, wg, ok, by simp [L2.start, hn], fun i o x e1 e2 => ?_, fun i j p x y hij e1 e2 c1 c2 => ?_⟩
  · match i, e2 with
    | 0, e2 =>
      cases e2
      have e0 : o = some (.ref a) := by
        have : (L2.start N [.ref a])[0]? = some (some (V.ref a)) := by simp [L2.start]
        rw [this] at e1
        cases e1
        rfl
      exact ⟨a, dd, xs, e0, ⟨rfl, rfl, rfl⟩, hd, r, nW⟩
    | i + 1, e2 =>
      have := List.mem_of_getElem? (show (List.replicate n Sl.no)[i]? = some x from e2)
      rw [List.mem_replicate] at this
      rw [this.2]
      trivial
  · match i, e1 with
    | 0, e1 => cases e1; cases c1
    | i + 1, e1 =>
      have := List.mem_of_getElem? (show (List.replicate n Sl.no)[i]? = some x from e1)
      rw [List.mem_replicate] at this
      rw [this.2] at c1
      cases c1
theorem foX_mk {x qual : Str} {st : Stmt} {f : Addr} {fd : FuncData} {N ps : List Str} {k n : Nat} {m : MS O} (F : Fun K x qual st f fd) (S : FnScope N ps (defScope st)) (h1 : ps.length = 1) (hn : N.length = n + 1) (hg : mg x = some (.ref f)) (hb : Binds K fd ps [])
    (hbody : ∀ (cdv : Value) (A : Around) (outer : List Env) (s : Shared) (H : Hp) (E : XK) (a : Addr) (oe : Obj) (cls : Value) (d : Option Addr), L2H.RoomH k (A.deeper (envOfC qual (defScope st) s.heap.objs.size f cdv)) → Zc cls d oe → (∃ vs, oe.data = .fields vs) →
      Cn K WF (L2H.cxH (L2.CX P w) P w K mg base N qual (defScope st) f cdv A outer s H E (a, oe)) →
      ∃ t mh, DB K (O.hold a cls d) WF (L2H.cxH (L2.CX P w) P w K mg base N qual (defScope st) f cdv A outer s H E (a, oe)) (defBody st) t mh ∧ mh = m) : FoX P w K mg base O (k + 1) x (runX O n m) := by
  obtain ⟨oc, od, kV, doc, pm, an, cdv, ct, osl, rfl, lk, hcd⟩ := F.ex
  refine ⟨f, _, ps, h1, fun A outer s H args us vs Q E a oe cls d hr hpin hz hf e0 hbi r hsp => ?_, hg, F.kp, hb⟩
  obtain ⟨rfl, G, c, dd, fs, xs, s0, rfl, rfl, hdd, rf, nW, g, wg, ok, q⟩ := hsp
  have kin : K.In s.heap := e0.mod.kin.keeps fun z o ez => (e0.bs z o ez).1
  refine codeAny_call_function hr.depth (kin _ _ lk) rfl S.co S.gen rfl (PySem.W.codeRec_of kin hcd) (hbi _ _ _ _ (wpAny_newFunctionEnv_cells S.kind (fun ⟨z, u⟩ hy => ?_) fun env he s1 xi => ?_))
  · rcases S.par z (List.of_mem_zip hy).1 with y1 | y1
    · exact .inl y1
    · exact .inr ⟨y1, PySem.W.cellsFrom_some _ _ _ (.inl y1)⟩
  · subst he
    refine ⟨(e0.mod.nolimit.keeps fun z o ez => (e0.bs z o ez).1).keeps xi.toInCall.keep, codeAny_func ?_⟩
    obtain ⟨t, mh, hd, rfl⟩ := hbody cdv A outer s H E a oe (.ref c) (some dd) (hr.deeper _) hz hf ⟨rfl, takes0⟩
    have I := L2H.inv_startH (CX := L2.CX P w) (P := P) (w := w) (E := E) S hpin e0 (show [V.ref a].length = ps.length by rw [h1]; rfl) r xi
    have body := hd.sn G H (L2.start N [.ref a]) (.exc c fs :: List.replicate n .no) G H s0 { nx := fun _ H' => Q .non H', rt := Q } ⟨startX hn g wg ok hdd rf nW, .refl g⟩ (by
      unfold runX at q
      revert q
      cases mh (.exc c fs :: List.replicate n .no) s0 with
      | nx ρ s1 => exact fun q σ' G' H' e F' => q .non G' H' F'.tr F'.fm.ok .non
      | rt d s1 => exact fun q v G' H' e t' k' r' => q v G' H' t' k' r'
      | rn ds s1 => exact fun q => q.elim
      | err c fs ρ s1 => exact fun q => q.elim
      | bk ρ s1 => exact fun q => q.elim
      | ct ρ s1 => exact fun q => q.elim
      | bad => exact fun q => q.elim)
    refine wpAny_mono (hd.pe.run [] s1 _ H _ I body) (fun fl s' hs => ?_) fun e s' hs => hs
    cases fl with
    | ret u =>
      obtain ⟨v, σ', H', J, rv, qq⟩ := hs
      exact ⟨v, H', J.os, J.bare, J.base, J.hok, rv, qq⟩
    | next =>
      obtain ⟨σ', H', J, qq⟩ := hs
      exact ⟨.non, H', J.os, J.bare, J.base, J.hok, rfl, qq⟩
    | brk => exact (show False from hs.elim fun _ z => z.elim fun _ z => z.2).elim
    | cont => exact (show False from hs.elim fun _ z => z.elim fun _ z => z.2).elim
variable {X : Cx}
def tCallX (K : PySem.W.Frag) (O : Wo) (a : Addr) (cls : Value) (d : Option Addr) (m : Addr → List (Str × D) → O.S → R O.S D) (ta : TA) : TE := fun σ H Q => ta σ H fun vs H1 => spX K O a cls d m vs H1 Q fun _ _ _ => False
def mCallX (O : Wo) (i : Nat) (m : Addr → List (Str × D) → O.S → R O.S D) : ME O := fun ρ s => match ρ[i]? with
  | some (.exc c fs) => m c fs s
  | _ => .bad
theorem de_callX (i : Nat) {k j : Nat} {a : Addr} {oe : Obj} {cls : Value} {d : Option Addr} {pn : List (Addr × Obj)} {x y : Str} {m : Addr → List (Str × D) → O.S → R O.S D} {p p1 pos : Pos} (F : FoX X.prog X.w K X.mg X.base O k y m) (hr : Room j X.A) (hk : k ≤ j) (cn : Cn K WF (X.suite a ((a, oe) :: pn))) (hz : Zc cls d oe) (hf : ∃ vs, oe.data = .fields vs)
    (hg : Gl X y := by rfl) (hN : X.N[i]? = some x := by rfl) (hv : Vis X.env.scope x := by first | exact Or.inl rfl | exact Or.inr (Or.inl rfl) | exact Or.inr (Or.inr rfl)) (hd : (x == ("__debug__" : Str)) = false := by decide) (hcd : (x == ("__classdict__" : Str)) = false := by decide)
    (hdb : (y == ("__debug__" : Str)) = false := by decide) (he : starEach [.Name x p1] X.env = (false, eval (.Name x p1) X.env) :: starEach [] X.env := by rfl) (hpl : (backTo pos (starEach [] X.env)).any (·.1) = false := by rfl) :
    DE K (O.hold a cls d) WF (X.suite a ((a, oe) :: pn)) (.Call (.Name y p) [.Name x p1] [] pos) (tCallX K O a cls d m (tCons (tVar i) tNil)) (mCallX O i m) := by
  obtain ⟨f, fd, ps, h1, Fn, hm, kp, bi⟩ := F.ex
  refine ⟨cn.hK, cn.tk, ⟨fun pins s σ H Q I h => ?_⟩, fun σ ρ H0 G H s Q F h => ?_⟩
  · have hk : X.K = K := cn.hK
    subst hk
    refine wpAny_Call_Name_kw (ld_glob (X := X.suite a ((a, oe) :: pn)) I hg hm ?_ hdb)
    have pa : PA (X.suite a ((a, oe) :: pn)) [.Name x p1] (tCons (tVar i) tNil) := pa_cons (pe_var (X := X.suite a ((a, oe) :: pn)) hN hv hd hcd) pa_nil he
    refine PySem.W.callWith_K (h₀ := X.base) I.ok.mod.kin kp (thn (pa.run pos pins s σ H _ I h) fun us s1 ⟨vs, H1, I1, r, q⟩ => ⟨I1.kIn, ?_⟩) he hpl
    have hl : us.length = ps.length := by rw [← r.length, q.1, h1]; rfl
    have b := bi s1 us I1.kIn (by rw [List.append_nil]; exact hl)
    rw [List.append_nil] at b
    have P1 := I1.pin (a, oe) (List.mem_append_left _ List.mem_cons_self)
    have pin : L2H.PinOk X.stack H1 s1 (a, oe) := ⟨P1.1, P1.2.1, fun z => (List.mem_cons.mp (I1.stkSub a z)).elim P1.2.2.1 P1.2.2.2.1, P1.2.2.2.2⟩
    have rh : L2H.RoomH k (X.suite a ((a, oe) :: pn)).A := ⟨by have := (L2H.roomH_of (hr.mono ‹_›)).dp; exact this, by have := (L2H.roomH_of (hr.mono ‹_›)).un; exact this⟩
    refine wpAny_call (codeAny_mono (Fn (X.suite a ((a, oe) :: pn)).A X.stack s1 H1 ⟨us, []⟩ us vs Q (fun _ _ _ => False) a oe cls d rh pin hz hf I1.env0 b r q) fun rr s' hq => ?_)
    cases rr with
    | error e =>
      obtain ⟨_, _, _, _, _, _, _, _, _, _, _, _, z⟩ := hq
      exact z.elim
    | ok fl =>
      cases fl with
      | ret u => exact I1.after hq
      | next => exact hq.elim
      | brk => exact hq.elim
      | cont => exact hq.elim
  · unfold mCallX at h
    split at h
    · rename_i c' fs ei
      obtain ⟨o, eo, a', dd, xs, rfl, ⟨rfl, rfl, rfl⟩, hdd, r, nW⟩ := F.at ei
      refine ⟨_, eo, rfl, G, c', dd, fs, xs, s, rfl, rfl, hdd, r, nW, F.gh, F.wg, F.ok, ?_⟩
      revert h
      cases m c' fs s with
      | ok v s1 => exact fun h v' G' H' t k r => h v' G' H' t k r
      | err c fs s1 => exact fun h dd' xs' G' H' t k e1 e2 e3 => h dd' xs' G' H' t k e1 e2 e3
      | bad => exact fun h => h
    · exact (show False from h).elim
end
end Mr
namespace Mr
open PySem PySem.Spec PyProof.Rows L2 RZ
theorem dt_neU {K : PySem.W.Frag} {O : Wo} {Wx : WX} {X : Cx} {a b : Expr} {ta tb : TE} {ma mb : ME O} {pos : Pos} (hu : X.A.units + 65 < cLine) (ha : DE K O Wx X a ta ma) (hb : DE K O Wx X b tb mb) : DT K O Wx X (.Compare a [.NotEq] [b] pos) (tTest (tOp (rNeG K) ta tb)) (mTest O (mBin O dNe ma mb)) := dt_cmp (op_neG ha.hK (by omega)) vop_ne ha hb (nomark _)
end Mr

namespace Mr
open PySem PySem.Spec PyProof.Rows L2
/-! ### where the classes stand, for every law alike -/
inductive Er where
  | ViewError | AxisError | LengthError | PositionError | OrderError | BroadcastError | StrideError | IndexRangeError | ShapeError | BufferMissing | CellError | CountError | NoSnapshot | OperatorError | FaultError | StepError | InputError | ParseError | SessionError
  deriving DecidableEq
structure Ca where
  c : Er → Addr
  es : List Er
  L : Addr
  v : Addr
structure Ad extends Ca where
  d : Addr
  a : Addr
  b : Addr
/-- which error class stands there -/
def Ca.cl (A : Ca) (x : Addr) : Option Er := A.es.find? fun e => decide (A.c e = x)
def Ca.t (A : Ca) (h : Er) (x : Addr) : Option Bool := (A.cl x).map fun e => decide (e = h)
def Ca.tL (A : Ca) (x : Addr) : Option Bool := (A.cl x).map fun _ => true
def Ca.Inj (A : Ca) : Prop := ∀ e ∈ A.es, ∀ f ∈ A.es, A.c e = A.c f → e = f
theorem Ca.cl_of {A : Ca} {x : Addr} {e : Er} (h : A.cl x = some e) : e ∈ A.es ∧ A.c e = x := by
  unfold Ca.cl at h
  exact ⟨List.mem_of_find?_eq_some h, by simpa using List.find?_some h⟩
theorem Ca.cl_c {A : Ca} (J : A.Inj) {e : Er} (he : e ∈ A.es) : A.cl (A.c e) = some e := by
  cases h : A.cl (A.c e) with
  | none =>
    unfold Ca.cl at h
    rw [List.find?_eq_none] at h
    exact absurd (decide_eq_true (rfl : A.c e = A.c e)) (h e he)
  | some f =>
    obtain ⟨h1, h2⟩ := Ca.cl_of h
    rw [J f h1 e he h2]
theorem Ca.t_c {A : Ca} (J : A.Inj) {e : Er} (he : e ∈ A.es) (h : Er) : A.t h (A.c e) = some (decide (e = h)) := by
  unfold Ca.t
  rw [Ca.cl_c J he]
  rfl
theorem Ca.tL_c {A : Ca} (J : A.Inj) {e : Er} (he : e ∈ A.es) : A.tL (A.c e) = some true := by
  unfold Ca.tL
  rw [Ca.cl_c J he]
  rfl
theorem Ca.t_ok {A : Ca} {P : Addr → Bool → Prop} {h : Er} (H : ∀ e ∈ A.es, P (A.c e) (decide (e = h))) : ∀ x b, A.t h x = some b → P x b := by
  intro x b q
  unfold Ca.t at q
  rw [Option.map_eq_some_iff] at q
  obtain ⟨e, h1, rfl⟩ := q
  obtain ⟨h2, rfl⟩ := Ca.cl_of h1
  exact H e h2
theorem Ca.tL_ok {A : Ca} {P : Addr → Bool → Prop} (H : ∀ e ∈ A.es, P (A.c e) true) : ∀ x b, A.tL x = some b → P x b := by
  intro x b q
  unfold Ca.tL at q
  rw [Option.map_eq_some_iff] at q
  obtain ⟨e, h1, rfl⟩ := q
  obtain ⟨h2, rfl⟩ := Ca.cl_of h1
  exact H e h2
end Mr
namespace S
open PySem PySem.Spec PyProof.Rows L2 Mr
abbrev O (A : Ad) : Wo := DrW A.d A.a A.b
theorem take_hw {d a b : Addr} : ∀ ρ s z s1, (mBin (DrW d a b) dMod (mDrI d a b 0 3) (mDrLen d a b 0 2)) ρ s = .ok z s1 → s1 = s := by
  intro ρ s z s1 h
  unfold mBin mDrI mDrLen drL at h
  by_cases hi : isDr d 0 ρ = true
  · simp [hi] at h
    cases hd : dMod (.int s.k) (.int s.zs.length) with
    | none => rw [hd] at h; cases h
    | some y => rw [hd] at h; cases h; rfl
  · simp [hi] at h
end S

namespace Mr
open PySem PySem.Spec PyProof.Rows L2 RZ
/-! ### instances of an own class -/
structure ClT (K : PySem.W.Frag) (mg : Str → Option Value) (x : Str) (C : Addr) (fs : List Str) : Prop where
  gC : mg x = some (.ref C)
  cl : Cls K C
  mks : PySem.W.makesIn K C = true
  kp : PySem.W.keepIn K (.ref C) = true
  no : ∀ f ∈ fs, NoAttr K C f
section
variable {K : PySem.W.Frag} {O : Wo} {Wx : WX} {X : Cx} {G : Hp}
theorem RepF.none : ∀ {a : List (Str × V)} {c : List (Str × D)} {f : Str}, RepF K G a c → c.lookup f = none → a.lookup f = none
  | _, _, f, .nil, _ => rfl
  | _, _, f, .cons (f := g) h r, e => by
    rw [List.lookup_cons] at e ⊢
    split at e
    · cases e
    · exact RepF.none r e
theorem RepF.length : ∀ {a : List (Str × V)} {c : List (Str × D)}, RepF K G a c → a.length = c.length
  | _, _, .nil => rfl
  | _, _, .cons h r => by rw [List.length_cons, List.length_cons, r.length]
def putD (f : Str) (v : D) : List (Str × D) → List (Str × D)
  | [] => [(f, v)]
  | (g, x) :: r => if g = f then (g, v) :: r else (g, x) :: putD f v r
theorem RepF.put {f : Str} {v : V} {d : D} (q : Rep K G v d) : ∀ {a : List (Str × V)} {c : List (Str × D)}, RepF K G a c → RepF K G (putF f v a) (putD f d c)
  | _, _, .nil => .cons q .nil
  | _, _, .cons (f := g) h r => by
    unfold putF putD
    split
    · exact .cons q r
    · exact .cons h (RepF.put q r)
/-- e.f -/
def mFld (O : Wo) (C : Addr) (f : Str) (m : ME O) : ME O := fun ρ s => (m ρ s).bind fun x s1 => match x with
  | .ins C' fs => if C' = C then R.lift (fs.lookup f) s1 else .bad
  | _ => .bad
theorem de_fld {x f : Str} {C : Addr} {fs : List Str} {e : Expr} {te : TE} {me : ME O} {pos : Pos} (T : ClT K X.mg x C fs) (hf : f ∈ fs) (he : DE K O Wx X e te me) (hb : attributeBase e f X.env (eval e X.env) = eval e X.env := by rfl) :
    DE K O Wx X (.Attribute e f pos) (tFld K te f) (mFld O C f me) := by
  refine ⟨he.hK, he.tk, ?_, fun σ ρ H0 G H s Q F h => ?_⟩
  · have := he.hK
    subst this
    exact pe_fld he.pe hb
  refine he.sn σ ρ H0 G H s _ F (pst_bind h fun dx s1 _ x G1 H1 t1 k1 r1 h1 => ?_)
  cases r1 with
  | @ins a0 C' dx' fs' ds' ha hr =>
    dsimp only at h1
    by_cases hc : C' = C
    · rw [if_pos hc] at h1
      subst hc
      cases hl : List.lookup f ds' with
      | none => rw [hl] at h1; exact (show False from h1).elim
      | some d =>
        rw [hl] at h1
        obtain ⟨v, e1, e2⟩ := RepF.look hr hl
        exact ⟨_, _, _, _, v, rfl, t1.gh _ _ ha, T.cl, T.no f hf, e1, h1 v G1 H1 (.refl t1.gh) k1 e2⟩
    · rw [if_neg hc] at h1
      exact (show False from h1).elim
  | _ => exact (show False from h1).elim
/-! ### methods -/
structure FoM (P : Program) (w : World) (K : PySem.W.Frag) (mg : Str → Option Value) (base : Heap) (O : Wo) (C : Addr) (k : Nat) (x : Str) (n : Nat) (m : List D → O.S → R O.S D) : Prop where
  ex : ∃ f fd ps, FnOk P w K mg base (L2.CX P w) k f fd ps (spM K O n m) ∧ Meth K C x f ∧ Binds K fd ps []
def tMethS (C : Addr) (m : Str) (sp : Sp) (E : L2.St → XK) (ta : TE) (t : TA) : TE := fun σ H Q => ta σ H fun x H1 => ∃ a dx fs, x = .ref a ∧ H1 a = some (.ins C dx fs) ∧ fs.lookup m = none ∧ t σ H1 fun vs H2 => sp (x :: vs) H2 Q (E σ)
section
variable {k : Nat} {C f : Addr} {fd : FuncData} {ps : List Str} {m : Str} {sp : Sp} {E : L2.St → XK} {o e : Expr} {es : List Expr} {ta : TE} {t : TA} {apos pos : Pos}
theorem pe_mS {pl : Sem Bool} (he : PE X o ta) (c : Cls X.K C) (hm : Meth X.K C m f) (F : FnOk X.prog X.w X.K X.mg X.base (L2.CX X.prog X.w) k f fd ps sp) (hr : Room k X.A) (hb : Binds X.K fd ps []) (hx : ∀ σ, PassesAt (L2.CX X.prog X.w) X σ (E σ)) (ha : PA X (e :: es) t)
    (hst : starEach (e :: es) X.env = (false, eval e X.env) :: starEach es X.env := by rfl) (hpl : (backTo pos (starEach es X.env)).any (·.1) = false := by rfl)
    (ht : eval (.Call (.Attribute o m apos) (e :: es) [] pos) X.env = (do
      let ov ← eval o X.env
      standAt apos.atName
      let (f, first) ← holding [ov] (getMethod ov m pl)
      callWith pos f first (backTo pos (starEach (e :: es) X.env)) (backToKw pos (keywordEach [] X.env))) := by rfl) :
    PE X (.Call (.Attribute o m apos) (e :: es) [] pos) (tMethS C m sp E ta t) := by
  refine ⟨fun pins s σ H Q I h => ?_⟩
  refine PySem.W.methodCall_KW (pl := pl) (thn (he.run pins s σ H _ I h) fun u s1 ⟨x, H1, I1, rx, a, dx, fs, ex, ea, l, q⟩ => ?_) ht
  subst ex
  obtain rfl : u = Value.ref a := rx
  refine getmeth_ok I1 ea c hm l ?_
  refine PySem.W.callWith_K (first := [.ref a]) (h₀ := X.base) I.ok.mod.kin hm.kp (thn (ha.run pos pins s1 σ H1 _ I1 q) fun us s2 ⟨vs, H2, I2, r, q2⟩ => ⟨I2.kIn, ?_⟩) hst hpl
  exact run_fnS (us := .ref a :: us) (vs := .ref a :: vs) F hr hb (hx σ) I2 (.cons rfl r) q2
theorem pe_mS0 {pl : Sem Bool} (he : PE X o ta) (c : Cls X.K C) (hm : Meth X.K C m f) (F : FnOk X.prog X.w X.K X.mg X.base (L2.CX X.prog X.w) k f fd ps sp) (hr : Room k X.A) (hb : Binds X.K fd ps []) (hx : ∀ σ, PassesAt (L2.CX X.prog X.w) X σ (E σ))
    (ht : eval (.Call (.Attribute o m apos) [] [] pos) X.env = (do
      let ov ← eval o X.env
      standAt apos.atName
      let (f, first) ← holding [ov] (getMethod ov m pl)
      callWith pos f first (backTo pos (starEach [] X.env)) (backToKw pos (keywordEach [] X.env))) := by rfl) :
    PE X (.Call (.Attribute o m apos) [] [] pos) (tMethS C m sp E ta tNil) := by
  refine ⟨fun pins s σ H Q I h => ?_⟩
  refine PySem.W.methodCall_KW (pl := pl) (thn (he.run pins s σ H _ I h) fun u s1 ⟨x, H1, I1, rx, a, dx, fs, ex, ea, l, q⟩ => ?_) ht
  subst ex
  obtain rfl : u = Value.ref a := rx
  refine getmeth_ok I1 ea c hm l ?_
  exact PySem.W.callWith_K0 (first := [.ref a]) I1.kIn hm.kp (run_fnS (us := [.ref a]) (vs := [.ref a]) F hr hb (hx σ) I1 (.cons rfl .nil) q)
end
def mMeth (O : Wo) (C : Addr) (x : Str) (n : Nat) (m : List D → O.S → R O.S D) (a : ME O) (b : MA O) : ME O := fun ρ s => (a ρ s).bind fun d s1 => match d with
  | .ins C' fs => if C' = C ∧ (fs.lookup x).isNone = true then (b ρ s1).bind fun ds s2 => if ds.length + 1 = n then m (.ins C' fs :: ds) s2 else .bad else .bad
  | _ => .bad
theorem meth_snd {C : Addr} {x : Str} {n : Nat} {m : List D → O.S → R O.S D} {te : TE} {ta : TA} {me : ME O} {ma : MA O} (he : SndE K O Wx te me) (h : SndA K O Wx ta ma) : SndE K O Wx (tMethS C x (spM K O n m) (WE Wx) te ta) (mMeth O C x n m me ma) := by
  intro σ ρ H0 G H s Q F hq
  refine he σ ρ H0 G H s _ F (pst_bind hq fun dx s1 _ v G1 H1 t1 k1 r1 h1 => ?_)
  cases r1 with
  | @ins a0 C' dx' fs' ds' ha hr =>
    dsimp only at h1
    have F1 := F.tr t1 k1
    by_cases hc : C' = C ∧ (ds'.lookup x).isNone = true
    · rw [if_pos hc] at h1
      obtain ⟨hc, hn⟩ := hc
      subst hc
      refine ⟨_, _, _, rfl, t1.gh _ _ ha, RepF.none hr (Option.isNone_iff_eq_none.mp hn), ?_⟩
      refine h σ ρ H0 G1 H1 s1 _ F1 (pst_bind h1 fun ds s2 _ xs G2 H2 t2 k2 r2 h2 => ?_)
      have F2 := F1.tr t2 k2
      by_cases e : ds.length + 1 = n
      · rw [if_pos e] at h2
        refine ⟨by rw [List.length_cons, r2.length]; exact e, G2, _, s2, F2.gh, F2.wg, F2.ok, .cons (.ins (t2.gg _ _ ha) (hr.mono t2.gg)) r2, ?_⟩
        revert h2
        cases m (.ins C' ds' :: ds) s2 <;> exact fun h2 => h2
      · rw [if_neg e] at h2
        exact (show False from h2).elim
    · rw [if_neg hc] at h1
      exact (show False from h1).elim
  | _ => exact (show False from h1).elim
section
variable {C : Addr} {k j n : Nat} {x cx : Str} {fs : List Str} {m : List D → O.S → R O.S D} {o e : Expr} {es : List Expr} {to : TE} {ta : TA} {mo : ME O} {ma : MA O} {apos pos : Pos}
theorem de_meth {pl : Sem Bool} (F : FoM X.prog X.w X.K X.mg X.base O C k x n m) (T : ClT K X.mg cx C fs) (hr : Room j X.A) (hk : k ≤ j) (ho : DE K O Wx X o to mo) (ha : DA K O Wx X (e :: es) ta ma)
    (hst : starEach (e :: es) X.env = (false, eval e X.env) :: starEach es X.env := by rfl) (hpl : (backTo pos (starEach es X.env)).any (·.1) = false := by rfl)
    (ht : eval (.Call (.Attribute o x apos) (e :: es) [] pos) X.env = (do
      let ov ← eval o X.env
      standAt apos.atName
      let (f, first) ← holding [ov] (getMethod ov x pl)
      callWith pos f first (backTo pos (starEach (e :: es) X.env)) (backToKw pos (keywordEach [] X.env))) := by rfl) :
    DE K O Wx X (.Call (.Attribute o x apos) (e :: es) [] pos) (tMethS C x (spM K O n m) (WE Wx) to ta) (mMeth O C x n m mo ma) := by
  obtain ⟨f, fd, ps, Fn, hm, bi⟩ := F.ex
  refine ⟨ha.hK, ha.tk, ?_, meth_snd ho.sn ha.sn⟩
  have := ha.hK
  subst this
  exact pe_mS ho.pe T.cl hm Fn (hr.mono hk) bi (fun σ => passAt ha.tk σ) ha.pe hst hpl ht
theorem de_meth0 {pl : Sem Bool} (F : FoM X.prog X.w X.K X.mg X.base O C k x n m) (T : ClT K X.mg cx C fs) (hr : Room j X.A) (hk : k ≤ j) (ho : DE K O Wx X o to mo)
    (ht : eval (.Call (.Attribute o x apos) [] [] pos) X.env = (do
      let ov ← eval o X.env
      standAt apos.atName
      let (f, first) ← holding [ov] (getMethod ov x pl)
      callWith pos f first (backTo pos (starEach [] X.env)) (backToKw pos (keywordEach [] X.env))) := by rfl) :
    DE K O Wx X (.Call (.Attribute o x apos) [] [] pos) (tMethS C x (spM K O n m) (WE Wx) to tNil) (mMeth O C x n m mo (mNil O)) := by
  obtain ⟨f, fd, ps, Fn, hm, bi⟩ := F.ex
  refine ⟨ho.hK, ho.tk, ?_, meth_snd ho.sn (da_nil ⟨ho.hK, ho.tk⟩).sn⟩
  have := ho.hK
  subst this
  exact pe_mS0 ho.pe T.cl hm Fn (hr.mono hk) bi (fun σ => passAt ho.tk σ) ht
end
/-! ### an instance that is being made -/
abbrev Wo.self (O : Wo) (x : Addr) : Wo := { O with sf := fun a => a = x }
/-- self.f = e -/
def mSetF (O : Wo) (i : Nat) (C : Addr) (f : Str) (m : ME O) : MS O := fun ρ s => toS (m ρ s) ρ fun d s1 => match ρ[i]? with
  | some (.ownI C' fs) => if C' = C ∧ fs.length < 1000 then .nx (ρ.set i (.ownI C' (putD f d fs))) s1 else .bad
  | _ => .bad
theorem not_xd_i {H : Hp} {p C dx : Addr} {vs : List (Str × V)} (h : H p = some (.ins C dx vs)) : ∀ u, H p = some u → ∀ fs, u ≠ .xd fs := fun u e fs z => by rw [h] at e; cases e; cases z
theorem ds_setF (i : Nat) {x cx f : Str} {C : Addr} {fs : List Str} {e : Expr} {te : TE} {me : ME O} {p1 p2 p3 : Pos} (T : ClT K X.mg cx C fs) (hf : f ∈ fs) (he : DE K O Wx X e te me) (hN : X.N[i]? = some x := by rfl) (hv : Vis X.env.scope x := by first | exact Or.inl rfl | exact Or.inr (Or.inl rfl) | exact Or.inr (Or.inr rfl)) (hd : (x == ("__debug__" : Str)) = false := by decide)
    (hcd : (x == ("__classdict__" : Str)) = false := by decide) (hpe : PE X (.Name x p1) (tVar i) := by exact pv _) (hs : swapsWith e (some (.Attribute (.Name x p1) f p2)) p3.line X.env = pure false := by rfl) :
    DS K O Wx X (.Assign [.Attribute (.Name x p1) f p2] e p3) (sFld K (tVar i) te f) (mSetF O i C f me) := by
  refine ⟨by have := he.hK; subst this; exact ps_fld hpe he.pe hs, fun G0 H0 σ ρ G H s Dn F h => ?_⟩
  refine he.sn σ ρ H0 G H s _ F.fm (pst_toS F h fun d s1 _ v G1 H1 t1 k1 r1 h1 => ?_)
  have F1 := F.go t1 k1
  split at h1
  · rename_i C' fs' ei
    split at h1
    · rename_i hc
      obtain ⟨hc, hl⟩ := hc
      subst hc
      obtain ⟨o, eo, p, dx, vs, rfl, hp, r, gp, wp, h0⟩ := F1.fm.at ei
      exact ⟨.ref p, eo, p, _, dx, vs, rfl, hp, T.cl, T.no f hf, by rw [r.length]; exact hl, h1 σ G1 _ (Same.refl _) (F1.wr ei rfl rfl eo gp wp h0.1 (not_xd_i hp) ⟨p, dx, _, rfl, upd_same, r.put r1, gp, wp, h0⟩)⟩
    · exact (show False from h1).elim
  · exact (show False from h1).elim
/-- the promise of __init__ -/
def PstI (K : PySem.W.Frag) (O : Wo) (C x dx : Addr) (G H1 : Hp) (r : R O.S (List (Str × D))) (Q : VK) (E : XK) : Prop :=
  match r with
  | .ok fs s' => ∀ vs G' H', Tr O.W G H1 G' H' → O.ok s' H' → H' x = some (.ins C dx vs) → RepF K G' vs fs → G' x = none → Q .non H'
  | .err c fs s' => ∀ dd xs G' H', Tr O.W G H1 G' H' → O.ok s' H' → H' dd = some (.xd xs) → ¬ O.W dd → RepF K G' xs fs → E (.ref c) (some dd) H'
  | .bad => False
def spI (K : PySem.W.Frag) (O : Wo) (C : Addr) (n : Nat) (m : List D → O.S → R O.S (List (Str × D))) : Sp := fun vs H Q E => ∃ (x dx : Addr) (ws : List V) (H1 G : Hp) (ds : List D) (s : O.S),
  vs = .ref x :: ws ∧ ws.length = n ∧ H = upd (upd H1 dx (.own x)) x (.ins C dx []) ∧ H1 x = none ∧ H1 dx = none ∧ dx ≠ x ∧ Same G H1 ∧ (∀ a, O.W a → G a = none) ∧ O.ok s H1 ∧ Reps K G ws ds ∧ (∀ dx', PstI K O C x dx' G H1 (m ds s) Q E)
structure FoI (P : Program) (w : World) (K : PySem.W.Frag) (mg : Str → Option Value) (base : Heap) (O : Wo) (C : Addr) (k n : Nat) (m : List D → O.S → R O.S (List (Str × D))) : Prop where
  ex : ∃ f fd ps, FnOk P w K mg base (L2.CX P w) k f fd ps (spI K O C n m) ∧ Mk K C f ∧ Binds K fd ps []
def tMakeS (C : Addr) (sp : Sp) (E : L2.St → XK) (t : TA) : TE := fun σ H Q => t σ H fun vs H1 => ∀ x dx, H1 x = none → H1 dx = none → dx ≠ x →
  sp (.ref x :: vs) (upd (upd H1 dx (.own x)) x (.ins C dx [])) (fun v H2 => v = .non ∧ Q (.ref x) H2) (E σ)
theorem run_makeS {k : Nat} {C f : Addr} {fd : FuncData} {ps : List Str} {sp : Sp} {E : XK} {pins : List (Addr × Obj)} {σ : L2.St} {H : Hp} {s : Shared} {Q : VK} {us : List Value} {vs : List V} (M : Mk X.K C f) (F : FnOk X.prog X.w X.K X.mg X.base (L2.CX X.prog X.w) k f fd ps sp) (hr : Room (k + 1) X.A) (hb : Binds X.K fd ps [])
    (hx : PassesAt (L2.CX X.prog X.w) X σ E) (I : Inv X pins σ H s) (r : Vals vs us)
    (h : ∀ x dx, H x = none → H dx = none → dx ≠ x → sp (.ref x :: vs) (upd (upd H dx (.own x)) x (.ins C dx [])) (fun v H2 => v = .non ∧ Q (.ref x) H2) E) :
    wpAny (model X.prog X.w) X.A (call (.ref C) us) (EP X pins σ Q) X.xe s := by
  have hq := h (s.heap.objs.size + 1) s.heap.objs.size (I.hok.fresh (Nat.le_succ _)) (I.hok.fresh (Nat.le_refl _)) (Nat.ne_of_lt (Nat.lt_succ_self _))
  have I2 := Inv.made (C := C) I
  have r2 : Vals (V.ref (s.heap.objs.size + 1) :: vs) (Value.ref (s.heap.objs.size + 1) :: us) := .cons rfl r
  have hl : (Value.ref (s.heap.objs.size + 1) :: us ++ []).length = ps.length := by
    have e := r2.length
    rw [F.len _ _ _ _ hq] at e
    rw [List.append_nil]
    exact e.symm
  have hb2 := hb _ (Value.ref (s.heap.objs.size + 1) :: us) I2.kIn hl
  rw [List.append_nil] at hb2
  refine wpAny_call (make_map (f := f) I.kIn M.makes M.init (beq_iff_eq.mp M.fn) (codeAny_mono (F.run _ X.stack _ _ ⟨Value.ref (s.heap.objs.size + 1) :: us, []⟩ (Value.ref (s.heap.objs.size + 1) :: us) _ _ E (hr.make C us [])
    (I2.env0.make C us []) hb2 r2 hq) fun r s' hq' => ?_))
  cases r with
  | error e => exact hx pins _ _ e s' I2 hq'
  | ok fl =>
    cases fl with
    | ret u =>
      obtain ⟨v, H', I3, rv, ev, q3⟩ := I2.after hq'
      subst ev
      exact ⟨rv, ⟨V.ref (s.heap.objs.size + 1), H', I3, rfl, q3⟩⟩
    | next => exact False.elim hq'
    | brk => exact False.elim hq'
    | cont => exact False.elim hq'
theorem pe_makeS {k : Nat} {C f : Addr} {fd : FuncData} {ps : List Str} {sp : Sp} {E : L2.St → XK} {x : Str} {e : Expr} {es : List Expr} {t : TA} {p pos : Pos} (M : Mk X.K C f) (F : FnOk X.prog X.w X.K X.mg X.base (L2.CX X.prog X.w) k f fd ps sp) (hr : Room (k + 1) X.A) (hg : Gl X x) (hm : X.mg x = some (.ref C)) (hb : Binds X.K fd ps []) (hx : ∀ σ, PassesAt (L2.CX X.prog X.w) X σ (E σ))
    (ha : PA X (e :: es) t) (hdb : (x == ("__debug__" : Str)) = false := by decide) (he : starEach (e :: es) X.env = (false, eval e X.env) :: starEach es X.env := by rfl) (hpl : (backTo pos (starEach es X.env)).any (·.1) = false := by rfl) :
    PE X (.Call (.Name x p) (e :: es) [] pos) (tMakeS C sp E t) := by
  refine ⟨fun pins s σ H Q I h => ?_⟩
  refine wpAny_Call_Name_kw (ld_glob I hg hm ?_ hdb)
  refine PySem.W.callWith_K (h₀ := X.base) I.ok.mod.kin M.kp (thn (ha.run pos pins s σ H _ I h) fun us s1 ⟨vs, H1, I1, r, q⟩ => ⟨I1.kIn, ?_⟩) he hpl
  exact run_makeS M F hr hb (hx σ) I1 r q
def mMake (O : Wo) (C : Addr) (n : Nat) (m : List D → O.S → R O.S (List (Str × D))) (a : MA O) : ME O := fun ρ s => (a ρ s).bind fun ds s1 => if ds.length = n then (m ds s1).bind fun fs s2 => .ok (.ins C fs) s2 else .bad
theorem make_snd {C : Addr} {n : Nat} {m : List D → O.S → R O.S (List (Str × D))} {ta : TA} {ma : MA O} (h : SndA K O Wx ta ma) : SndE K O Wx (tMakeS C (spI K O C n m) (WE Wx) ta) (mMake O C n m ma) := by
  intro σ ρ H0 G H s Q F hq
  refine h σ ρ H0 G H s _ F (pst_bind hq fun ds s1 _ xs G1 H1 t1 k1 r1 h1 => ?_)
  have F1 := F.tr t1 k1
  by_cases e : ds.length = n
  · rw [if_pos e] at h1
    intro x dx nx nd ne
    refine ⟨x, dx, xs, H1, G1, ds, s1, rfl, by rw [r1.length]; exact e, rfl, nx, nd, ne, F1.gh, F1.wg, F1.ok, r1, fun dx' => ?_⟩
    revert h1
    cases m ds s1 with
    | ok fs s2 => exact fun h1 vs G' H' t' k' hx hr hg => ⟨rfl, h1 _ _ _ (t'.frz nx hg hx) k' (.ins upd_same (hr.mono (fun b o z => by rw [upd_ne (ne_of_none z hg)]; exact z)))⟩
    | err c fs s2 => exact fun h1 => h1
    | bad => exact fun h1 => h1
  · rw [if_neg e] at h1
    exact (show False from h1).elim
theorem de_make {C : Addr} {k j n : Nat} {x : Str} {fs : List Str} {m : List D → O.S → R O.S (List (Str × D))} {e : Expr} {es : List Expr} {ta : TA} {ma : MA O} {p pos : Pos} (F : FoI X.prog X.w X.K X.mg X.base O C k n m) (T : ClT K X.mg x C fs) (hr : Room j X.A) (hk : k + 1 ≤ j) (ha : DA K O Wx X (e :: es) ta ma) (hg : Gl X x := by rfl)
    (hdb : (x == ("__debug__" : Str)) = false := by decide) (he : starEach (e :: es) X.env = (false, eval e X.env) :: starEach es X.env := by rfl) (hpl : (backTo pos (starEach es X.env)).any (·.1) = false := by rfl) :
    DE K O Wx X (.Call (.Name x p) (e :: es) [] pos) (tMakeS C (spI K O C n m) (WE Wx) ta) (mMake O C n m ma) := by
  obtain ⟨f, fd, ps, Fn, M, bi⟩ := F.ex
  refine ⟨ha.hK, ha.tk, ?_, make_snd ha.sn⟩
  have := ha.hK
  subst this
  exact pe_makeS M Fn (hr.mono hk) hg T.gC bi (fun σ => passAt ha.tk σ) ha.pe hdb he hpl
end
/-! ### a def's promise by its body, wherever the def stands -/
section
variable {P : Program} {w : World} {K : PySem.W.Frag} {mg : Str → Option Value} {base : Heap} {O : Wo}
theorem fn_mk {x qual : Str} {st : Stmt} {f : Addr} {fd : FuncData} {N ps : List Str} {k : Nat} {m : MS O} (F : Fun K x qual st f fd) (S : FnScope N ps (defScope st))
    (hbody : ∀ (cdv : Value) (A : Around) (outer : List Env) (s : Shared) (H : Hp) (E : XK), Room k (A.deeper (envOfC qual (defScope st) s.heap.objs.size f cdv)) →
      Cs K (fun cls d _ H => E cls d H) (cxOf (L2.CX P w) P w K mg base N qual (defScope st) f cdv A outer s H E) →
      ∃ t, DB K O (fun cls d _ H => E cls d H) (cxOf (L2.CX P w) P w K mg base N qual (defScope st) f cdv A outer s H E) (defBody st) t m) : FnOk P w K mg base (L2.CX P w) (k + 1) f fd ps (spM K O ps.length (runF O N.length m)) := by
  refine F.okX S (fun vs H Q E h => h.1) (fun cdv A outer s H vs Q E hr h => ?_)
  obtain ⟨hl, G, ds, s0, g, wg, ok, r, q⟩ := h
  have tk : Takes (cxOf (L2.CX P w) P w K mg base N qual (defScope st) f cdv A outer s H E) (fun cls d _ H => E cls d H) := takes_of rfl rfl rfl rfl
  obtain ⟨t, hd⟩ := hbody cdv A outer s H E hr ⟨⟨rfl, tk⟩, passes_of rfl, rfl, S.nd⟩
  refine ⟨t, hd.pe, hd.sn G H _ _ G H s0 _ ⟨start_fm g wg ok rfl r, .refl g⟩ ?_⟩
  unfold runF at q
  revert q
  cases m (ds.map .sh ++ List.replicate (N.length - ds.length) .no) s0 with
  | nx ρ s1 => exact fun q σ' G' H' e F' => q .non G' H' F'.tr F'.fm.ok .non
  | rt d s1 => exact fun q v G' H' e t' k' r' => q v G' H' t' k' r'
  | rn ds s1 => exact fun q p vs G' H' e t' k' n g hp r' => q (.ref p) _ H' (t'.frz n g hp) k' (frz_rep g r')
  | err c fs ρ s1 => exact fun q σ' dd xs G' H' e F' a b c' => q dd xs G' H' F'.tr F'.fm.ok a b c'
  | bk ρ s1 => exact fun q => q.elim
  | ct ρ s1 => exact fun q => q.elim
  | bad => exact fun q => q.elim
theorem spM_self {y : Addr} {n : Nat} {m : List D → O.S → R O.S D} {vs : List V} {H : Hp} {Q : VK} {E : XK} (h : spM K (O.self y) n m vs H Q E) : spM K O n m vs H Q E := by
  obtain ⟨hl, G, ds, s0, g, wg, ok, r, q⟩ := h
  refine ⟨hl, G, ds, s0, g, wg, ok, r, ?_⟩
  revert q
  unfold PstF
  cases m ds s0 <;> exact fun q => q
theorem Fo.self {k n : Nat} {x : Str} {m : List D → O.S → R O.S D} (F : Fo P w K mg base O k x n m) (y : Addr) : Fo P w K mg base (O.self y) k x n m := by
  obtain ⟨f, fd, ps, Fn, hm, kp, bi⟩ := F.ex
  exact ⟨f, fd, ps, Fn.imp fun vs H Q E q => spM_self q, hm, kp, bi⟩
theorem FoM.self {C : Addr} {k n : Nat} {x : Str} {m : List D → O.S → R O.S D} (F : FoM P w K mg base O C k x n m) (y : Addr) : FoM P w K mg base (O.self y) C k x n m := by
  obtain ⟨f, fd, ps, Fn, hm, bi⟩ := F.ex
  exact ⟨f, fd, ps, Fn.imp fun vs H Q E q => spM_self q, hm, bi⟩
/-- __init__ by its body -/
def runI (O : Wo) (C : Addr) (n : Nat) (m : MS O) : List D → O.S → R O.S (List (Str × D)) := fun ds s => match m (.ownI C [] :: (ds.map .sh ++ List.replicate (n - ds.length) .no)) s with
  | .nx ρ s1 => match (ρ[0]? : Option Sl) with
    | some (.ownI C' fs) => if C' = C then .ok fs s1 else .bad
    | _ => .bad
  | .err c fs _ s1 => .err c fs s1
  | _ => .bad
theorem start_init {x dx C : Addr} {G H1 : Hp} {s : O.S} {ws : List V} {ds : List D} {N : List Str} {n : Nat} (hn : N.length = n + 1) (nx : H1 x = none) (nd : H1 dx = none) (ne : dx ≠ x) (g : Same G H1) (wg : ∀ a, O.W a → G a = none) (ok : O.ok s H1) (r : Reps K G ws ds) :
    Fs K (O.self x) G H1 (L2.start N (.ref x :: ws)) (.ownI C [] :: (ds.map .sh ++ List.replicate (n - ds.length) .no)) G (upd (upd H1 dx (.own x)) x (.ins C dx [])) s := by
  have sm : Same H1 (upd (upd H1 dx (.own x)) x (.ins C dx [])) := fun b o e => by
    rw [upd_ne (ne_of_none e nx), upd_ne (ne_of_none e nd)]
    exact e
  have wx : ¬ O.W x := fun z => O.dom s H1 x ok z nx
  have wd : ¬ O.W dx := fun z => O.dom s H1 dx ok z nd
  have gx : G x = none := g.free nx
  have ok2 : O.ok s (upd (upd H1 dx (.own x)) x (.ins C dx [])) := O.loc s H1 _ (fun a wa => by
    rw [upd_ne (fun e => wx (by rw [← e]; exact wa)), upd_ne (fun e => wd (by rw [← e]; exact wa))]) ok
  have g2 : Same G (upd (upd H1 dx (.own x)) x (.ins C dx [])) := g.trans sm
  have base := start_fm (K := K) (O := O.self x) (H0 := H1) (G := G) (H := upd (upd H1 dx (.own x)) x (.ins C dx [])) (s := s) g2 wg ok2 (N := N.tail) (n := n) (by simp [hn]) r
  have est : L2.start N (.ref x :: ws) = some (.ref x) :: L2.start N.tail ws := by
    unfold L2.start
    simp [hn]
  refine ⟨⟨g2, wg, ok2, by rw [est, List.length_cons, List.length_cons, base.len], ?_, ?_⟩, ⟨Same.refl _, g2, fun b o e => .inl e, fun b o _ e => sm b o e, fun b e => ?_⟩⟩
  · intro i o z a b
    rw [est] at a
    cases i with
    | zero =>
      rw [List.getElem?_cons_zero] at a b
      cases a
      cases b
      exact ⟨x, dx, [], rfl, upd_same, .nil, gx, wx, nx, rfl⟩
    | succ i =>
      rw [List.getElem?_cons_succ] at a b
      exact base.sl i o z a b
  · intro i j p y z hij a b c d
    have tl : ∀ (k : Nat) (z : Sl), (ds.map Sl.sh ++ List.replicate (n - ds.length) .no)[k]? = some z → isOwn z = true → False := fun k z a c => by
      have := List.mem_of_getElem? a
      rw [List.mem_append] at this
      rcases this with q | q
      · rw [List.mem_map] at q
        obtain ⟨d, _, rfl⟩ := q
        cases c
      · rw [List.mem_replicate] at q
        rw [q.2] at c
        cases c
    cases i with
    | zero =>
      cases j with
      | zero => exact absurd rfl hij
      | succ j => rw [List.getElem?_cons_succ] at b; exact (tl j z b d).elim
    | succ i => rw [List.getElem?_cons_succ] at a; exact (tl i y a c).elim
  · by_cases h1 : b = x
    · rw [h1]; exact nx
    · rw [upd_ne h1] at e
      by_cases h2 : b = dx
      · rw [h2]; exact nd
      · rw [upd_ne h2] at e; exact e
theorem foI_mk {qual : Str} {st : Stmt} {f C : Addr} {fd : FuncData} {N ps : List Str} {k n : Nat} {m : MS O} (F : Fun K "__init__" qual st f fd) (S : FnScope N ("self" :: ps) (defScope st)) (hn : N.length = n + 1) (hM : Mk K C f) (hb : Binds K fd ("self" :: ps) [])
    (hbody : ∀ (x : Addr) (cdv : Value) (A : Around) (outer : List Env) (s : Shared) (H : Hp) (E : XK), Room k (A.deeper (envOfC qual (defScope st) s.heap.objs.size f cdv)) →
      Cs K (fun cls d _ H => E cls d H) (cxOf (L2.CX P w) P w K mg base N qual (defScope st) f cdv A outer s H E) →
      ∃ (t : TS) (m' : MS (O.self x)), DB K (O.self x) (fun cls d _ H => E cls d H) (cxOf (L2.CX P w) P w K mg base N qual (defScope st) f cdv A outer s H E) (defBody st) t m' ∧ m' = m) : FoI P w K mg base O C (k + 1) ps.length (runI O C n m) := by
  refine ⟨f, fd, _, F.okX S (fun vs H Q E h => ?_) (fun cdv A outer s H vs Q E hr h => ?_), hM, hb⟩
  · obtain ⟨x, dx, ws, H1, G, ds, s, rfl, hl, _⟩ := h
    show ws.length + 1 = ps.length + 1
    rw [hl]
  obtain ⟨x, dx, ws, H1, G, ds, s0, rfl, hl, rfl, nx, nd, ne, g, wg, ok, r, q⟩ := h
  have tk : Takes (cxOf (L2.CX P w) P w K mg base N qual (defScope st) f cdv A outer s (upd (upd H1 dx (.own x)) x (.ins C dx [])) E) (fun cls d _ H => E cls d H) := takes_of rfl rfl rfl rfl
  obtain ⟨t, m', hd, hm⟩ := hbody x cdv A outer s _ E hr ⟨⟨rfl, tk⟩, passes_of rfl, rfl, S.nd⟩
  refine ⟨t, hd.pe, hd.sn G H1 _ _ G _ s0 _ (start_init hn nx nd ne g wg ok r) ?_⟩
  rw [hm]
  unfold runI at q
  revert q
  cases m (.ownI C [] :: (ds.map .sh ++ List.replicate (n - ds.length) .no)) s0 with
  | nx ρ s1 =>
    intro q σ' G' H' e F'
    dsimp only at q
    cases e0 : ρ[0]? with
    | none => rw [e0] at q; exact (q dx).elim
    | some z =>
      rw [e0] at q
      cases z with
      | ownI C' fs =>
        dsimp only at q
        by_cases hc : C' = C
        · simp only [if_pos hc] at q
          subst hc
          obtain ⟨o, eo, p, dx', vs, rfl, hp, rr, gp, wp, h0, sf⟩ := F'.fm.at e0
          have : p = x := sf
          subst this
          exact q dx' vs G' H' F'.tr F'.fm.ok hp rr gp
        · simp only [if_neg hc] at q
          exact (q dx).elim
      | _ => exact (q dx).elim
  | rt d s1 => exact fun q => (q dx).elim
  | rn ds s1 => exact fun q => (q dx).elim
  | err c fs ρ s1 => exact fun q σ' dd xs G' H' e F' a b c' => q dx dd xs G' H' F'.tr F'.fm.ok a b c'
  | bk ρ s1 => exact fun q => (q dx).elim
  | ct ρ s1 => exact fun q => (q dx).elim
  | bad => exact fun q => (q dx).elim
end
end Mr

namespace Mr
open PySem PySem.Spec PyProof.Rows L2 RZ
section
variable {K : PySem.W.Frag} {O : Wo} {Wx : WX} {X : Cx}
/-! ### a statement of which nothing is promised -/
def mBad (O : Wo) : MS O := fun _ _ => .bad
theorem ds_bad {st : Stmt} : DS K O Wx X st tNever (mBad O) := ⟨ps_never, fun G0 H0 σ ρ G H s Dn F h => h.elim⟩
theorem db_bad {st : List Stmt} : DB K O Wx X st tNever (mBad O) := ⟨pss_never, fun G0 H0 σ ρ G H s Dn F h => h.elim⟩
/-! ### a comprehension with two clauses -/
def lc2L (S : Type) (f : D → Ev → Option Ev) (mt : Ev → S → R S Bool) (mi1 : Ev → S → R S (List D)) (f1 : D → Ev → Option Ev) (mt1 : Ev → S → R S Bool) (me : Ev → S → R S D) (vs1 : List Nat) (ρ : Ev) : List D → List D → S → R S (List D)
  | [], acc, s => .ok acc s
  | d :: ds, acc, s => match f d ρ with
    | none => .bad
    | some ρ1 => match mt ρ1 s with
      | .ok true s1 => match mi1 ρ1 s1 with
        | .ok its s2 => match lcL S f1 mt1 me (wipeE ρ1 vs1) its acc s2 with
          | .ok acc2 s3 => lc2L S f mt mi1 f1 mt1 me vs1 ρ ds acc2 s3
          | _ => .bad
        | _ => .bad
      | .ok false s1 => lc2L S f mt mi1 f1 mt1 me vs1 ρ ds acc s1
      | _ => .bad
def mLc2 (O : Wo) (mi : MI O) (f : D → Ev → Option Ev) (mt : MT O) (mi1 : MI O) (f1 : D → Ev → Option Ev) (mt1 : MT O) (me : ME O) (vs vs1 : List Nat) : MA O := fun ρ s => (mi ρ s).bind fun items s1 => lc2L O.S f mt mi1 f1 mt1 me vs1 (wipeE ρ vs) items [] s1
theorem drop_at {α : Type} {l : List α} {i : Nat} {d : α} {ds : List α} (h : l.drop i = d :: ds) : l[i]? = some d ∧ l.drop (i + 1) = ds := by
  have hlt : i < l.length := by
    by_cases z : i < l.length
    · exact z
    · rw [List.drop_eq_nil_of_le (by omega)] at h; cases h
  have e := List.drop_eq_getElem_cons hlt
  rw [h] at e
  injection e with a b
  exact ⟨by rw [List.getElem?_eq_getElem hlt, a], b.symm⟩
theorem wipe_twice (σ : L2.St) (vs : List Nat) : L2.wipe (L2.wipe σ vs) vs = L2.wipe σ vs := snd_lc.wipe_idem σ vs
theorem kept_at {W : Addr → Prop} {p : Addr} {o : HO} (nW : ¬ W p) {Ga Ha Gb Hb : Hp} (t : Tr W Ga Ha Gb Hb) (a : Ga p = none) (b : Ha p = some o) : Gb p = none ∧ Hb p = some o := by
  refine ⟨?_, t.kp _ _ nW b⟩
  cases e : Gb p with
  | none => rfl
  | some z => rcases t.gr p z e with q | q <;> simp_all
theorem Fm.h0 {H0 H0' G H : Hp} {σ : L2.St} {ρ : Ev} {s : O.S} (f : Fm K O H0 σ ρ G H s) (h : ∀ p, H p ≠ none → H0 p = none → H0' p = none) : Fm K O H0' σ ρ G H s := by
  refine ⟨f.gh, f.wg, f.ok, f.len, fun i o x a b => ?_, f.ds⟩
  have q := f.sl i o x a b
  cases x with
  | no => trivial
  | sh d => exact q
  | own xs => obtain ⟨p, vs, e1, e2, e3, e4, e5, e6⟩ := q; exact ⟨p, vs, e1, e2, e3, e4, e5, h p (by rw [e2]; simp) e6⟩
  | ownD xs => obtain ⟨p, vs, e1, e2, e3, e4, e5, e6⟩ := q; exact ⟨p, vs, e1, e2, e3, e4, e5, h p (by rw [e2]; simp) e6⟩
  | ownI C xs => obtain ⟨p, dx, vs, e1, e2, e3, e4, e5, e6, e7⟩ := q; exact ⟨p, dx, vs, e1, e2, e3, e4, e5, h p (by rw [e2]; simp) e6, e7⟩
  | exc c fs => exact q
theorem Fm.off {H0 G H : Hp} {σ : L2.St} {ρ : Ev} {s : O.S} {p : Addr} {z z' : List V} (f : Fm K O H0 σ ρ G H s) (hD : H p = some (.lst z)) (h0 : H0 p ≠ none) (gD : G p = none) (nW : ¬ O.W p) : Fm K O H0 σ ρ G (upd H p (.lst z')) s := by
  have ne : ∀ {r : Addr}, H0 r = none → r ≠ p := fun {r} e q => h0 (by rw [← q]; exact e)
  refine ⟨fun b u e => by rw [upd_ne (ne_of_none e gD)]; exact f.gh b u e, f.wg, O.loc s H _ (fun a w => by rw [upd_ne]; intro e; rw [e] at w; exact nW w) f.ok, f.len, fun i o x a b => ?_, f.ds⟩
  have q := f.sl i o x a b
  cases x with
  | no => trivial
  | sh d => exact q
  | own xs => obtain ⟨r, vs, e1, e2, e3, e4, e5, e6⟩ := q; exact ⟨r, vs, e1, by rw [upd_ne (ne e6)]; exact e2, e3, e4, e5, e6⟩
  | ownD xs => obtain ⟨r, vs, e1, e2, e3, e4, e5, e6⟩ := q; exact ⟨r, vs, e1, by rw [upd_ne (ne e6)]; exact e2, e3, e4, e5, e6⟩
  | ownI C xs => obtain ⟨r, dx, vs, e1, e2, e3, e4, e5, e6⟩ := q; exact ⟨r, dx, vs, e1, by rw [upd_ne (ne e6.1)]; exact e2, e3, e4, e5, e6⟩
  | exc c fs =>
    obtain ⟨a', dd, xs, e1, e2, e3, e4, e5⟩ := q
    exact ⟨a', dd, xs, e1, e2, by rw [upd_ne (fun e => by rw [e, hD] at e3; cases e3)]; exact e3, e4, e5⟩
theorem snd_lc2 {wi wi1 : TI} {mi mi1 : MI O} {g g1 : TG} {f f1 : D → Ev → Option Ev} {is is1 vs vs1 : List Nat} {tt tt1 : TT} {mt mt1 : MT O} {te : TE} {me : ME O} (hi : SndI K O Wx wi mi) (hg : SndG K O g f is) (ht : SndT K O WF tt mt)
    (hi1 : SndI K O WF wi1 mi1) (hg1 : SndG K O g1 f1 is1) (ht1 : SndT K O WF tt1 mt1) (he : SndE K O WF te me) (hv : ∀ i ∈ is, i ∈ vs) (hv1 : ∀ i ∈ is1, i ∈ vs1) :
    SndN K O Wx (tLc2 wi g tt wi1 g1 tt1 te vs vs1) (mLc2 O mi f mt mi1 f1 mt1 me vs vs1) := by
  intro σ ρ H0 G H s Q F h
  refine hi σ ρ H0 G H s _ F ?_
  unfold mLc2 at h
  revert h
  cases mi ρ s with
  | err c fs s1 => exact fun h => h
  | bad => exact fun h => h
  | ok items s1 =>
    intro h J G1 H1 t1 k1 ok Da nD
    rw [bind_ok] at h
    have F1 := F.tr t1 k1
    have nDH : H Da = none := t1.dm Da nD
    have nW : ¬ O.W Da := fun w => O.dom s1 H1 Da k1 w nD
    have F1' : Fm K O (upd H0 Da (.lst [])) σ ρ G1 H1 s1 := F1.h0 fun p hp e => by rw [upd_ne (fun q => hp (by rw [q]; exact nD))]; exact e
    have nh0 : upd H0 Da (.lst []) Da ≠ none := by rw [upd_same]; simp
    refine ⟨fun i m H2 => ∃ G2 s2 accV acc, m = (items.drop i).length ∧ Tr O.W G1 H1 G2 H2 ∧ O.ok s2 H2 ∧ G2 Da = none ∧ H2 Da = some (.lst accV) ∧ Reps K G2 accV acc ∧ PstN K O Wx σ G H (lc2L O.S f mt mi1 f1 mt1 me vs1 (wipeE ρ vs) (items.drop i) acc s2) Q, ?_, ?_⟩
    · refine ⟨items.length, G1, s1, [], [], by simp, (Tr.refl F1.gh).mut nD (F1.gh.free nD), ?_, F1.gh.free nD, upd_same, .nil, by simpa using h⟩
      exact O.loc s1 H1 _ (fun a w => by rw [upd_ne]; intro e; rw [e] at w; exact nW w) k1
    · rintro i m H2 ⟨G2, s2, accV, acc, rfl, t2, k2, g2, hD, ra, h2⟩
      obtain ⟨ok1, ok2⟩ := ok G2 H2 t2.gg t2.gh i
      have F2 : Fm K O (upd H0 Da (.lst [])) σ ρ G2 H2 s2 := F1'.tr t2 k2
      cases hd : items.drop i with
      | nil =>
        rw [hd] at h2
        exact .inl ⟨ok2 (by simpa using hd), h2 Da accV G2 H2 (t1.trans t2) k2 nDH g2 hD ra⟩
      | cons d ds =>
        obtain ⟨hi?, hds⟩ := drop_at hd
        obtain ⟨go, yl⟩ := ok1 d hi?
        rw [hd] at h2
        refine .inr ⟨go, fun H3 => ∃ G3 s3 accV acc, Tr O.W G1 H1 G3 H3 ∧ O.ok s3 H3 ∧ G3 Da = none ∧ H3 Da = some (.lst accV) ∧ Reps K G3 accV acc ∧ PstN K O Wx σ G H (lc2L O.S f mt mi1 f1 mt1 me vs1 (wipeE ρ vs) ds acc s3) Q, ?_, fun x H3 y => ?_⟩
        · rintro H3 ⟨G3, s3, aV, a, b1, b2, b3, b4, b5, b6⟩
          exact ⟨ds.length, by simp, G3, s3, aV, a, by rw [hds], b1, b2, b3, b4, b5, by rw [hds]; exact b6⟩
        · obtain ⟨G3, t3, r3⟩ := yl x H3 y
          have F3w := (F2.tr0 t3).wipe vs
          obtain ⟨g3, hD3⟩ := kept_at nW t3.up g2 hD
          unfold lc2L at h2
          cases ef : f d (wipeE ρ vs) with
          | none => rw [ef] at h2; exact (show False from h2).elim
          | some ρ1 =>
            rw [ef] at h2
            refine hg _ (L2.wipe σ vs) (wipeE ρ vs) G3 H3 s2 x d ρ1 _ F3w r3 ef fun σ4 F4 w4 => ?_
            refine ⟨by rw [w4 vs hv]; exact wipe_twice σ vs, ?_⟩
            refine ht σ4 ρ1 _ G3 H3 s2 _ F4 ?_
            revert h2
            dsimp only
            cases mt ρ1 s2 with
            | bad => exact fun h2 => h2
            | err c fs s' => exact fun h2 => (show False from h2).elim
            | ok b s5 =>
              intro h2 b' G5 H5 t5 k5 e5
              subst e5
              obtain ⟨g5, hD5⟩ := kept_at nW t5 g3 hD3
              have T5 : Tr O.W G1 H1 G5 H5 := (t2.trans t3.up).trans t5
              have ra5 : Reps K G5 accV acc := (ra.mono t3.gg).mono t5.gg
              cases b' with
              | false =>
                rw [if_neg Bool.false_ne_true]
                exact ⟨G5, s5, accV, acc, T5, k5, g5, hD5, ra5, h2⟩
              | true =>
                rw [if_pos rfl]
                have F5 := F4.tr t5 k5
                refine hi1 σ4 ρ1 _ G5 H5 s5 _ F5 ?_
                revert h2
                dsimp only
                cases mi1 ρ1 s5 with
                | bad => exact fun h2 => h2
                | err c fs s' => exact fun h2 => (show False from h2).elim
                | ok its s6 =>
                  intro h2 J1 G6 H6 t6 k6 okI
                  dsimp only at h2
                  obtain ⟨g6, hD6⟩ := kept_at nW t6 g5 hD5
                  cases el : lcL O.S f1 mt1 me (wipeE ρ1 vs1) its acc s6 with
                  | err c fs s' => rw [el] at h2; exact (show False from h2).elim
                  | bad => rw [el] at h2; exact (show False from h2).elim
                  | ok accE sE =>
                    rw [el] at h2
                    dsimp only at h2
                    have F6 := F5.tr t6 k6
                    refine ⟨fun j k H7 => ∃ G7 s7 aV a, k = (its.drop j).length ∧ (Fm K O (upd H0 Da (.lst [])) σ4 ρ1 G7 H7 s7 ∧ Same G6 G7) ∧ Tr O.W G1 H1 G7 H7 ∧ G7 Da = none ∧ H7 Da = some (.lst aV) ∧ Reps K G7 aV a ∧ lcL O.S f1 mt1 me (wipeE ρ1 vs1) (its.drop j) a s7 = .ok accE sE, ⟨its.length, G6, s6, accV, acc, by simp, ⟨F6, Same.refl _⟩, T5.trans t6, g6, hD6, ra5.mono t6.gg, by simpa using el⟩, ?_⟩
                    rintro j k H7 ⟨G7, s7, aV, a, rfl, ⟨F7, e67⟩, T7, g7, hD7, ra7, el7⟩
                    obtain ⟨okI1, okI2⟩ := okI G7 H7 e67 F7.gh j
                    cases hj : its.drop j with
                    | nil =>
                      rw [hj] at el7
                      simp only [lcL, R.ok.injEq] at el7
                      obtain ⟨rfl, rfl⟩ := el7
                      exact .inl ⟨okI2 (by simpa using hj), G7, _, aV, _, T7, F7.ok, g7, hD7, ra7, h2⟩
                    | cons e es =>
                      obtain ⟨hj?, hes⟩ := drop_at hj
                      obtain ⟨go1, yl1⟩ := okI1 e hj?
                      rw [hj] at el7
                      refine .inr ⟨go1, fun H8 => ∃ G8 s8 aV a, (Fm K O (upd H0 Da (.lst [])) σ4 ρ1 G8 H8 s8 ∧ Same G6 G8) ∧ Tr O.W G1 H1 G8 H8 ∧ G8 Da = none ∧ H8 Da = some (.lst aV) ∧ Reps K G8 aV a ∧ lcL O.S f1 mt1 me (wipeE ρ1 vs1) es a s8 = .ok accE sE, ?_, fun x8 H8 y8 => ?_⟩
                      · rintro H8 ⟨G8, s8, bV, b, b1, b2, b3, b4, b5, b6⟩
                        exact ⟨es.length, by simp, G8, s8, bV, b, by rw [hes], b1, b2, b3, b4, b5, by rw [hes]; exact b6⟩
                      · obtain ⟨G8, t8, r8⟩ := yl1 x8 H8 y8
                        have F8 := F7.tr0 t8
                        have F8w := F8.wipe vs1
                        obtain ⟨g8, hD8⟩ := kept_at nW t8.up g7 hD7
                        unfold lcL at el7
                        cases ef1 : f1 e (wipeE ρ1 vs1) with
                        | none => rw [ef1] at el7; cases el7
                        | some ρ2 =>
                          rw [ef1] at el7
                          refine hg1 _ (L2.wipe σ4 vs1) (wipeE ρ1 vs1) G8 H8 s7 x8 e ρ2 _ F8w r8 ef1 fun σ9 F9 w9 => ?_
                          refine ⟨by rw [w9 vs1 hv1]; exact wipe_twice σ4 vs1, ?_⟩
                          refine ht1 σ9 ρ2 _ G8 H8 s7 _ F9 ?_
                          revert el7
                          dsimp only
                          cases mt1 ρ2 s7 with
                          | bad => exact fun el7 => by cases el7
                          | err c fs s' => exact fun el7 => by cases el7
                          | ok b9 s9 =>
                            intro el7 b9' G9 H9 t9 k9 e9
                            subst e9
                            obtain ⟨g9, hD9⟩ := kept_at nW t9 g8 hD8
                            have T9 : Tr O.W G1 H1 G9 H9 := (T7.trans t8.up).trans t9
                            have e69 : Same G6 G9 := (e67.trans t8.gg).trans t9.gg
                            have ra9 : Reps K G9 aV a := (ra7.mono t8.gg).mono t9.gg
                            cases b9' with
                            | false =>
                              rw [if_neg Bool.false_ne_true]
                              exact ⟨G9, s9, aV, a, ⟨F8.tr t9 k9, e69⟩, T9, g9, hD9, ra9, el7⟩
                            | true =>
                              rw [if_pos rfl]
                              refine he σ9 ρ2 _ G9 H9 s9 _ (F9.tr t9 k9) ?_
                              revert el7
                              dsimp only
                              cases me ρ2 s9 with
                              | bad => exact fun el7 => by cases el7
                              | err c fs s' => exact fun el7 => by cases el7
                              | ok dy sA =>
                                intro el7 yv GA HA tA kA rA
                                obtain ⟨gA, hDA⟩ := kept_at nW tA g9 hD9
                                dsimp only at el7
                                split at el7
                                · rename_i hz
                                  exact ⟨aV, hDA, by rw [ra9.length]; exact sz5l hz, GA, sA, aV ++ [yv], a ++ [dy], ⟨((F8.tr t9 k9).tr tA kA).off hDA nh0 gA nW, e69.trans tA.gg⟩, (T9.trans tA).mut nD gA, gA, upd_same, (ra9.mono tA.gg).append (.cons rA .nil), el7⟩
                                · cases el7
end
end Mr

namespace Mr
open PySem PySem.Spec PyProof.Rows L2 RZ
/-! ### x[::-1] -/
section
variable {prog : Program} {w : World} {A : Around} {E : Value → Shared → Prop} {s : Shared}
theorem back_places (n : Nat) : Builtin.Slice.slicePlaces ((n : Int) - 1) (-1) (-1) = n := by
  unfold Builtin.Slice.slicePlaces
  rw [if_neg (by decide)]
  have e : ((n : Int) - 1 - -1 - 1) / - -1 = (n : Int) - 1 := by
    rw [show (- -1 : Int) = 1 by decide, Int.ediv_one]
    omega
  rw [e]
  split <;> omega
theorem back_adjust (n : Nat) : Builtin.Slice.sliceAdjust none none (-1) (n : Int) = ((n : Int) - 1, -1) := by
  unfold Builtin.Slice.sliceAdjust
  simp
theorem filterMap_on {α β : Type} {f g : α → Option β} : ∀ {l : List α}, (∀ x ∈ l, f x = g x) → l.filterMap f = l.filterMap g
  | [], _ => rfl
  | x :: l, h => by
    rw [List.filterMap_cons, List.filterMap_cons, h x List.mem_cons_self, filterMap_on fun y hy => h y (List.mem_cons_of_mem _ hy)]
theorem back_pick (xs : Array Value) : ((List.range xs.size).filterMap fun (m : Nat) => xs[(((xs.size : Int) - 1) + (m : Int) * (-1)).toNat]?).toArray = xs.toList.reverse.toArray := by
  have e : (List.range xs.size).filterMap (fun (m : Nat) => xs[(((xs.size : Int) - 1) + (m : Int) * (-1)).toNat]?) = (List.range xs.size).filterMap (fun m => xs.toList.reverse[m]?) := by
    refine filterMap_on fun m hm => ?_
    have hm := List.mem_range.mp hm
    rw [List.getElem?_reverse (by simpa using hm)]
    have : (((xs.size : Int) - 1) + (m : Int) * (-1)).toNat = xs.size - 1 - m := by omega
    rw [this, Array.length_toList, Array.getElem?_toList]
  rw [e]
  congr 1
  have key : ∀ (ys : List Value), (List.range ys.length).filterMap (fun m => ys[m]?) = ys := by
    intro ys
    refine List.ext_getElem? fun i => ?_
    have : (List.range ys.length).filterMap (fun m => ys[m]?) = ys := by
      induction ys with
      | nil => rfl
      | cons y ys ih => rw [List.length_cons, List.range_succ_eq_map, List.filterMap_cons]; simp [List.filterMap_map]; exact ih
    rw [this]
  have := key xs.toList.reverse
  rw [List.length_reverse, Array.length_toList] at this
  exact this
theorem getItem_tuple_back {t sl : Addr} {items : Array Value} {vl vu vs : Value} {Q : Value → Shared → Prop} (ht : IsTup s.heap t items) (hs : s.heap.IsSliceOf sl vl vu vs) (pl : IsPart vl none) (pu : IsPart vu none) (ps : IsPart vs (some (-1)))
    (h : Q (.ref s.heap.objs.size) { s with heap := s.heap.push { cls := .type "tuple", data := .seq items.toList.reverse.toArray } }) (hsz : items.size ≤ sizeLine) : wpAny (model prog w) A (getItem (.ref t) (.ref sl)) Q E s := by
  have hz : sizeOk (.seq items.toList.reverse.toArray) := by
    show items.toList.reverse.toArray.size ≤ sizeLine
    simpa using hsz
  obtain ⟨os, hos, hcs, hds⟩ := id hs
  have hTs : s.TypeIs (.ref sl) "slice" := ⟨os, hos, hcs⟩
  unfold getItem
  try with_reducible refine wpAny_holding ?_
  first | refine wpAny_bind (wpAny_pure ?_) | skip
  refine wpAny_bind (wpAny_sequenceKey ht.typeIs (by decide) ?_)
  refine wpAny_bind (wpAny_callSpecial?_slot (name := Str.ofString "__getitem__") ht.typeIs PyProof.Rows.slot_tuple_getitem (wpAny_call_entry PyProof.Rows.slot_tuple_getitem ht.typeIs entry_tuple_getitem ?_ (args_tuple_getitem _ _)))
  show wpAny _ _ (Builtin.Tuple.tupleItemsOf (.ref t) >>= _) _ _ s
  refine wpAny_bind (tupleItemsOf_ ht ?_)
  refine wpAny_bind (wpAny_typeOf hTs ?_)
  rw [if_pos (by decide)]
  refine wpAny_bind ?_
  unfold Builtin.Slice.sliceApplied Builtin.Slice.sliceFields
  refine wpAny_bind (wpAny_bind (wpAny_field hos hds (x := vl) rfl (wpAny_bind (wpAny_field hos hds (x := vu) rfl (wpAny_bind (wpAny_field hos hds (x := vs) rfl (wpAny_pure ?_)))))))
  refine wpAny_bind (HT.slicePart_ ps ?_)
  show wpAny _ _ (if ((-1 : Int) == 0) = true then _ else _) _ _ s
  rw [if_neg (by decide)]
  refine wpAny_bind (HT.slicePart_ pl (wpAny_bind (HT.slicePart_ pu (wpAny_bind (wpAny_pure ?_)))))
  show wpAny _ _ (match Builtin.Slice.sliceAdjust none none (-1) (items.size : Int) with | (lo, hi) => pure (lo, (-1 : Int), Builtin.Slice.slicePlaces lo hi (-1))) _ _ s
  rw [back_adjust]
  show wpAny _ _ (pure ((items.size : Int) - 1, (-1 : Int), Builtin.Slice.slicePlaces ((items.size : Int) - 1) (-1) (-1))) _ _ s
  rw [back_places]
  refine wpAny_pure ?_
  show wpAny _ _ (if ((((items.size : Int) - 1) == 0 && (-1 : Int) == 1 && items.size == items.size) = true) then _ else _) _ _ s
  rw [if_neg (by simp), back_pick]
  first
    | exact wpAny_bind (m := Builtin.Tuple.tupleExact _) (wpAny_newObj_type (wpAny_pure ⟨_, rfl, wpAny_pure h⟩) hz)
    | exact wpAny_bind (m := Builtin.Tuple.tupleExact _) (wpAny_newObj_type (wpAny_bind (wpAny_pure (wpAny_pure ⟨_, rfl, wpAny_pure h⟩))) hz)
    | exact wpAny_bind (wpAny_bind (m := Builtin.Tuple.tupleExact _) (wpAny_newObj_type (wpAny_pure (wpAny_pure ⟨_, rfl, wpAny_pure h⟩)) hz))
    | exact wpAny_bind (wpAny_bind (m := Builtin.Tuple.tupleExact _) (wpAny_newObj_type (wpAny_pure ⟨_, rfl, wpAny_pure h⟩) hz))
end
section
variable {K : PySem.W.Frag} {O : Wo} {Wx : WX} {X : Cx}
def tRevA (K : PySem.W.Frag) (te : TE) : TE := fun σ H Q => te σ H fun x H1 => ∃ a xs, x = .ref a ∧ ((SqL K H1 a xs ∧ ∀ p, H1 p = none → Q (.ref p) (upd H1 p (.lst xs.reverse))) ∨ (SqT K H1 a xs ∧ ∀ p, H1 p = none → Q (.ref p) (upd H1 p (.tup xs.reverse))))
theorem pe_revA {e : Expr} {te : TE} {k : Nat} {p1 p2 p3 pos : Pos} (he : PE X e te) : PE X (.Subscript e (.Slice none none (some (.UnaryOp .USub (.Constant (.int 1) k p1) p2)) p3) pos) (tRevA X.K te) := by
  refine ⟨fun pins s σ H Q I h => ?_⟩
  refine Subscript_ (thn (he.run pins s σ H _ I h) fun v s1 ⟨x, H1, I1, r1, q1⟩ => ?_)
  obtain ⟨a, xs, ex, hx⟩ := q1
  subst ex
  cases r1
  have hst : PO X (some (.UnaryOp .USub (.Constant (.int 1) k p1) p2)) (tPart (tUn (rU fun i => .int (-i)) (tC (.int 1)))) := po_some (pe_un un_neg pe_int)
  refine wpAny_Slice (thn (po_none.run pins s1 σ H1 (fun o H2 => o = none ∧ H2 = H1) I1 ⟨rfl, rfl⟩) fun vl s2 ⟨l, H2, I2, pl, el, e2⟩ => ?_)
  subst el e2
  refine thn (po_none.run pins s2 σ H2 (fun o H3 => o = none ∧ H3 = H2) I2 ⟨rfl, rfl⟩) fun vu s3 ⟨u, H3, I3, pu, eu, e3⟩ => ?_
  subst eu e3
  refine thn (hst.run pins s3 σ H3 (fun o H4 => o = some (-1) ∧ H4 = H3) I3 ⟨1, rfl, -1, rfl, rfl, rfl⟩) fun vs s4 ⟨o, H4, I4, ps, eo, e4⟩ => ?_
  subst eo e4
  have I5 : Inv X pins σ H4 { s4 with heap := s4.heap.push { cls := .type "slice", data := .fields #[vl, vu, vs] } } := I4.kept (t' := s4.toks) fun b ob q => Heap.get?_push_of_some _ q
  show wpAny (model X.prog X.w) X.A (subscriptTail e (.Slice none none (some (.UnaryOp .USub (.Constant (.int 1) k p1) p2)) p3) (.ref a) (.ref s4.heap.objs.size)) (EP X pins σ Q) X.xe { s4 with heap := s4.heap.push { cls := .type "slice", data := .fields #[vl, vu, vs] } }
  rcases hx with ⟨hx, q⟩ | ⟨hx, q⟩
  · obtain ⟨its, r, ht, hz⟩ := I5.list hx
    have hlen := r.length
    refine tail_any (ops := [.ref a, .ref s4.heap.objs.size]) ht.isList.typeIs (PySem.slot_list_getitem.lookup) ?_ (by with_unfolding_all rfl)
    refine wpAny_getItem_list_slice ht.isList (Heap.IsSliceOf.new _ vl vu vs) pl pu ps (by decide) ?_ (by rw [List.size_toArray]; omega)
    rw [PySem.W.krv_pick]
    refine ⟨.ref _, _, I5.laid (t' := s4.toks) (o := .lst xs.reverse) (fun b ob q => Heap.get?_push_of_some _ q) (Nat.le_refl _) ?_, rfl, q _ (I5.hok.fresh (Nat.le_refl _))⟩
    exact ⟨by rw [List.length_reverse]; exact hz, _, 0, r.reverse, Heap.get?_push_size _ rfl⟩
  · obtain ⟨its, r, ht, hz⟩ := I5.tuple hx
    have hlen : its.toArray.size = xs.length := by rw [List.size_toArray]; exact r.length.symm
    refine tail_any (ops := [.ref a, .ref s4.heap.objs.size]) ht.typeIs (PyProof.Rows.slot_tuple_getitem.lookup) ?_ (by with_unfolding_all rfl)
    refine getItem_tuple_back ht (Heap.IsSliceOf.new _ vl vu vs) pl pu ps ?_ (by rw [hlen]; exact hz)
    refine ⟨.ref _, _, I5.laid (t' := s4.toks) (o := .tup xs.reverse) (fun b ob q => Heap.get?_push_of_some _ q) (Nat.le_refl _) ?_, rfl, q _ (I5.hok.fresh (Nat.le_refl _))⟩
    exact ⟨by rw [List.length_reverse]; exact hz, _, r.reverse, IsTup.new _ _⟩
def dRevS : D → Option D
  | .lst xs => some (.lst xs.reverse)
  | .tup xs => some (.tup xs.reverse)
  | _ => none
theorem de_revS {e : Expr} {te : TE} {me : ME O} {k : Nat} {p1 p2 p3 pos : Pos} (he : DE K O Wx X e te me) : DE K O Wx X (.Subscript e (.Slice none none (some (.UnaryOp .USub (.Constant (.int 1) k p1) p2)) p3) pos) (tRevA K te) (mUn O dRevS me) := by
  refine ⟨he.hK, he.tk, by have := he.hK; subst this; exact pe_revA he.pe, fun σ ρ H0 G H s Q F h => ?_⟩
  refine he.sn σ ρ H0 G H s _ F (pst_bind h fun dx s1 _ x G1 H1 t1 k1 r1 h1 => ?_)
  cases r1 with
  | lst hs r => exact ⟨_, _, rfl, .inl ⟨t1.gh.seq hs, fun p n => h1 _ _ _ (Tr0.new t1.gh n).up (Fm.keepW (F.tr t1 k1) (Tr0.new t1.gh n)) (new_lst t1.gh n r.reverse)⟩⟩
  | tup hs r => exact ⟨_, _, rfl, .inr ⟨sq_t t1.gh hs, fun p n => h1 _ _ _ (Tr0.new t1.gh n).up (Fm.keepW (F.tr t1 k1) (Tr0.new t1.gh n)) (new_tup t1.gh n r.reverse)⟩⟩
  | _ => exact (show False from h1).elim
/-! ### a comprehension with two clauses, as a value or stored -/
structure DLc2 (K : PySem.W.Frag) (O : Wo) (Wx : WX) (X : Cx) (elt tg iter tg1 iter1 : Expr) (ifs ifs1 : List Expr) (scope : Scope) (pos : Pos) (t : TE) (m : MA O) : Prop where
  dn : DN K O Wx X (.ListComp elt [⟨tg, iter, ifs, 0⟩, ⟨tg1, iter1, ifs1, 0⟩] scope pos) t m
  ps : ∀ (i : Nat) (y : Str) (py spos : Pos), X.N[i]? = some y → X.env.scope.names.lookup y = some .local → swapsWith (.ListComp elt [⟨tg, iter, ifs, 0⟩, ⟨tg1, iter1, ifs1, 0⟩] scope pos) (some (.Name y py)) spos.line X.env = pure true →
    PS X (.Assign [.Name y py] (.ListComp elt [⟨tg, iter, ifs, 0⟩, ⟨tg1, iter1, ifs1, 0⟩] scope pos) spos) (tAsg t (gName i))
theorem dlc2 {elt tg iter tg1 iter1 : Expr} {ifs ifs1 : List Expr} {scope : Scope} {own : List (Str × Nat)} {vs1 : List Nat} {pos : Pos} {wi wi1 : TI} {g g1 : TG} {tt tt1 : TT} {te : TE} {mi mi1 : MI O} {f f1 : D → Ev → Option Ev} {is is1 : List Nat} {mt mt1 : MT O} {me : ME O} (c : Cs K Wx X) (hi : DI K O Wx X tg iter wi mi) (ok : BlkOk X.N X.env.scope scope own)
    (hg : ∀ (s : Shared) (H : Hp) (C : Addr) (cl : List (Str × Addr)) (fp : List Addr), DG K O (X.blk s H scope (compEnvC scope cl C X.env) fp) tg g f is)
    (ht : ∀ (s : Shared) (H : Hp) (C : Addr) (cl : List (Str × Addr)) (fp : List Addr), Cn K WF (X.blk s H scope (compEnvC scope cl C X.env) fp) → DTs K O WF (X.blk s H scope (compEnvC scope cl C X.env) fp) ifs tt mt)
    (hi1 : ∀ (s : Shared) (H : Hp) (C : Addr) (cl : List (Str × Addr)) (fp : List Addr), Cn K WF (X.blk s H scope (compEnvC scope cl C X.env) fp) → DI K O WF (X.blk s H scope (compEnvC scope cl C X.env) fp) tg1 iter1 wi1 mi1)
    (hg1 : ∀ (s : Shared) (H : Hp) (C : Addr) (cl : List (Str × Addr)) (fp : List Addr), DG K O (X.blk s H scope (compEnvC scope cl C X.env) fp) tg1 g1 f1 is1)
    (ht1 : ∀ (s : Shared) (H : Hp) (C : Addr) (cl : List (Str × Addr)) (fp : List Addr), Cn K WF (X.blk s H scope (compEnvC scope cl C X.env) fp) → DTs K O WF (X.blk s H scope (compEnvC scope cl C X.env) fp) ifs1 tt1 mt1)
    (he : ∀ (s : Shared) (H : Hp) (C : Addr) (cl : List (Str × Addr)) (fp : List Addr), Cn K WF (X.blk s H scope (compEnvC scope cl C X.env) fp) → DE K O WF (X.blk s H scope (compEnvC scope cl C X.env) fp) elt te me)
    (hv : ∀ i ∈ is, i ∈ own.map (·.2) := by decide) (hv1 : ∀ i ∈ is1, i ∈ vs1 := by decide) (hvo : ∀ i ∈ vs1, i ∈ own.map (·.2) := by decide) (hs : ∀ x, foldedSetIterable iter X.env x = pure x := by intro _; rfl) (hs1 : ∀ env x, foldedSetIterable iter1 env x = pure x := by intro _ _; rfl) :
    DLc2 K O Wx X elt tg iter tg1 iter1 ifs ifs1 scope pos (tLc2 wi g tt wi1 g1 tt1 te (own.map (·.2)) vs1) (mLc2 O mi f mt mi1 f1 mt1 me (own.map (·.2)) vs1) := by
  have cn : ∀ (s : Shared) (H : Hp) (C : Addr) (cl : List (Str × Addr)) (fp : List Addr), Cn K WF (X.blk s H scope (compEnvC scope cl C X.env) fp) := fun s H C cl fp => ⟨c.cn.hK, takes0⟩
  refine ⟨⟨c.cn.hK, c.cn.tk, pe_lc2 c.hc c.nd hi.pe ok hvo (fun s H C cl fp => (hg s H C cl fp).pe) (fun s H C cl fp => (ht s H C cl fp (cn ..)).pe) (fun s H C cl fp => (hi1 s H C cl fp (cn ..)).pe) (fun s H C cl fp => (hg1 s H C cl fp).pe) (fun s H C cl fp => (ht1 s H C cl fp (cn ..)).pe) (fun s H C cl fp => (he s H C cl fp (cn ..)).pe) hs hs1, ?_⟩,
    fun i y py spos hy hyl hsw => ps_setLc2 c.hc c.nd hy hyl hsw hi.pe ok hvo (fun s H C cl fp => (hg s H C cl fp).pe) (fun s H C cl fp => (ht s H C cl fp (cn ..)).pe) (fun s H C cl fp => (hi1 s H C cl fp (cn ..)).pe) (fun s H C cl fp => (hg1 s H C cl fp).pe) (fun s H C cl fp => (ht1 s H C cl fp (cn ..)).pe) (fun s H C cl fp => (he s H C cl fp (cn ..)).pe) hs hs1⟩
  exact snd_lc2 hi.sn (hg X.s_0 (fun _ => none) 0 [] []).sn (ht X.s_0 (fun _ => none) 0 [] [] (cn ..)).sn (hi1 X.s_0 (fun _ => none) 0 [] [] (cn ..)).sn (hg1 X.s_0 (fun _ => none) 0 [] []).sn (ht1 X.s_0 (fun _ => none) 0 [] [] (cn ..)).sn (he X.s_0 (fun _ => none) 0 [] [] (cn ..)).sn hv hv1
theorem ds_setLc2 (i : Nat) {y : Str} {elt tg iter tg1 iter1 : Expr} {ifs ifs1 : List Expr} {scope : Scope} {pos py spos : Pos} {t : TE} {m : MA O} (hN : X.N.Nodup) (h : DLc2 K O Wx X elt tg iter tg1 iter1 ifs ifs1 scope pos t m) (hi : X.N[i]? = some y := by rfl) (hyl : X.env.scope.names.lookup y = some .local := by rfl)
    (hsw : swapsWith (.ListComp elt [⟨tg, iter, ifs, 0⟩, ⟨tg1, iter1, ifs1, 0⟩] scope pos) (some (.Name y py)) spos.line X.env = pure true := by exact sw_true rfl rfl rfl (by decide +kernel))
    (hf : X.fn y = true ∨ X.env.scope.names.lookup y = some .local := by first | exact .inl rfl | exact .inr rfl | assumption) : DS K O Wx X (.Assign [.Name y py] (.ListComp elt [⟨tg, iter, ifs, 0⟩, ⟨tg1, iter1, ifs1, 0⟩] scope pos) spos) (tAsg t (gName i)) (mAsg O (mLst O m) (fName i)) :=
  ⟨h.ps i y py spos hi hyl hsw, snd_asg h.dn.de.sn (dg_name (K := K) (O := O) (X := X) (pos := py) i hN hi (.inl hyl) hf).sn⟩
/-! ### dicts that never change any more -/
def dGetK : D → D → Option D
  | .dct kds, k => match toKey k with
    | some k => valP kds k
    | none => none
  | _, _ => none
def dInK : D → D → Option D
  | k, .dct kds => match toKey k with
    | some k => some (.bl (valP kds k).isSome)
    | none => none
  | _, _ => none
def dNotInK : D → D → Option D
  | k, .dct kds => match toKey k with
    | some k => some (.bl (!(valP kds k).isSome))
    | none => none
  | _, _ => none
theorem RepK.val0 {G : Hp} {k : Key} : ∀ {vs : List (Key × V)} {ds : List (Key × D)}, RepK K G vs ds → valP ds k = none → valV vs k = none
  | _, _, .nil, _ => rfl
  | _, _, .cons (f := f) (v := v) (d := d) (vs := vs) (ds := ds) q r, h => by
    unfold valP at h
    unfold valV
    rw [List.find?_cons] at h ⊢
    by_cases hd : f = k
    · simp [hd] at h
    · simp only [decide_eq_false hd] at h ⊢
      exact RepK.val0 r h
theorem RepK.isSome {G : Hp} {vs : List (Key × V)} {ds : List (Key × D)} (r : RepK K G vs ds) (k : Key) : (valV vs k).isSome = (valP ds k).isSome := by
  cases e : valP ds k with
  | none => rw [r.val0 e]; rfl
  | some d => obtain ⟨v, e1, _⟩ := r.val e; rw [e1]; rfl
theorem de_getK {a b : Expr} {ta tb : TE} {ma mb : ME O} {pos : Pos} {j : Nat} (hr : Room j X.A) (ha : DE K O Wx X a ta ma) (hb : DE K O Wx X b tb mb) (hs : NoSl b := by exact fun _ _ => rfl) : DE K O Wx X (.Subscript a b pos) (tDGet ta tb) (mBin O dGetK ma mb) := by
  refine ⟨ha.hK, ha.tk, pe_dget (hu_of hr) ha.pe hb.pe hs, fun σ ρ H0 G H s Q F h => ?_⟩
  refine ha.sn σ ρ H0 G H s _ F (pst_bind h fun dx s1 _ x G1 H1 t1 k1 r1 h1 => ?_)
  refine hb.sn σ ρ H0 G1 H1 s1 _ (F.tr t1 k1) (pst_bind h1 fun dy s2 _ y G2 H2 t2 k2 r2 h2 => ?_)
  cases r1 with
  | @dct p kvs ds hd rk =>
    cases ek : toKey dy with
    | none => simp only [dGetK, ek] at h2; exact (show False from h2).elim
    | some k =>
      have := r2.key ek
      subst this
      cases ev : valP ds k with
      | none => simp only [dGetK, ek, ev] at h2; exact (show False from h2).elim
      | some d =>
        simp only [dGetK, ek, ev] at h2
        obtain ⟨v, e3, e4⟩ := (rk.mono t2.gg).val ev
        refine ⟨_, v, rfl, ?_, h2 v G2 H2 (.refl t2.gh) k2 e4⟩
        rw [← e3]
        exact DGet.k (t2.gh _ _ (t2.gg _ _ hd))
  | _ => simp only [dGetK] at h2; exact (show False from h2).elim
theorem de_inK {a b : Expr} {ta tb : TE} {ma mb : ME O} {pos : Pos} {j : Nat} (hr : Room j X.A) (ha : DE K O Wx X a ta ma) (hb : DE K O Wx X b tb mb) (hm : behindInMarks .In b = false := by rfl) : DE K O Wx X (.Compare a [.In] [b] pos) (tDIn ta tb) (mBin O dInK ma mb) := by
  refine ⟨ha.hK, ha.tk, pe_cmp (pc_din (hu_of hr) ha.pe hb.pe) hm, fun σ ρ H0 G H s Q F h => ?_⟩
  refine ha.sn σ ρ H0 G H s _ F (pst_bind h fun dx s1 _ x G1 H1 t1 k1 r1 h1 => ?_)
  refine hb.sn σ ρ H0 G1 H1 s1 _ (F.tr t1 k1) (pst_bind h1 fun dy s2 _ y G2 H2 t2 k2 r2 h2 => ?_)
  cases r2 with
  | dct hd rk =>
    cases ek : toKey dx with
    | none => simp only [dInK, ek] at h2; exact (show False from h2).elim
    | some k =>
      have := r1.key ek
      subst this
      simp only [dInK, ek, ← rk.isSome] at h2
      exact ⟨_, _, rfl, DGet.k (t2.gh _ _ hd), h2 _ G2 H2 (.refl t2.gh) k2 (.bl _)⟩
  | _ => simp only [dInK] at h2; exact (show False from h2).elim
theorem de_notInK {a b : Expr} {ta tb : TE} {ma mb : ME O} {pos : Pos} {j : Nat} (hr : Room j X.A) (ha : DE K O Wx X a ta ma) (hb : DE K O Wx X b tb mb) (hm : behindInMarks .NotIn b = false := by rfl) : DE K O Wx X (.Compare a [.NotIn] [b] pos) (tDNotIn ta tb) (mBin O dNotInK ma mb) := by
  refine ⟨ha.hK, ha.tk, pe_cmp (pc_dnotin (hu_of hr) ha.pe hb.pe) hm, fun σ ρ H0 G H s Q F h => ?_⟩
  refine ha.sn σ ρ H0 G H s _ F (pst_bind h fun dx s1 _ x G1 H1 t1 k1 r1 h1 => ?_)
  refine hb.sn σ ρ H0 G1 H1 s1 _ (F.tr t1 k1) (pst_bind h1 fun dy s2 _ y G2 H2 t2 k2 r2 h2 => ?_)
  cases r2 with
  | dct hd rk =>
    cases ek : toKey dx with
    | none => simp only [dNotInK, ek] at h2; exact (show False from h2).elim
    | some k =>
      have := r1.key ek
      subst this
      simp only [dNotInK, ek, ← rk.isSome] at h2
      exact ⟨_, _, rfl, DGet.k (t2.gh _ _ hd), h2 _ G2 H2 (.refl t2.gh) k2 (.bl _)⟩
  | _ => simp only [dNotInK] at h2; exact (show False from h2).elim
end
end Mr

namespace Mr
open PySem PySem.Spec PyProof.Rows L2 RZ
section
variable {K : PySem.W.Frag} {O : Wo} {Wx : WX} {X : Cx}
/-! ### what is one's own never changes any more: any kind of object -/
theorem Fm.frzG {H0 G H : Hp} {σ : L2.St} {ρ : Ev} {s : O.S} (f : Fm K O H0 σ ρ G H s) {i : Nat} {x : Sl} {p : Addr} {u : HO} {d : D} (ei : ρ[i]? = some x) (hx : isOwn x = true) (eo : σ[i]? = some (some (.ref p))) (hp : H p = some u) (gp : G p = none) (wp : ¬ O.W p) (h0 : H0 p = none)
    (rd : Rep K (upd G p u) (.ref p) d) : ∃ G', Same G G' ∧ Same G' H ∧ (∀ b o, G' b = some o → G b = some o ∨ H0 b = none) ∧ Fm K O H0 σ (ρ.set i (.sh d)) G' H s := by
  have e1 : Same G (upd G p u) := fun b u e => by rw [upd_ne (ne_of_none e gp)]; exact e
  have e2 : Same (upd G p u) H := fun b u e => by
    by_cases hb : b = p
    · subst hb; rw [upd_same] at e; rw [hp]; exact e
    · rw [upd_ne hb] at e; exact f.gh b u e
  refine ⟨upd G p u, e1, e2, fun b u e => ?_, ⟨e2, fun a w => ?_, f.ok, by simpa using f.len, fun j o' z a b => ?_, fun j l q z z2 hjl a b c e g => ?_⟩⟩
  · by_cases hb : b = p
    · subst hb; exact .inr h0
    · rw [upd_ne hb] at e; exact .inl e
  · rw [upd_ne (fun e => wp (by rw [← e]; exact w))]; exact f.wg a w
  · by_cases hj : i = j
    · subst hj
      have h2 := (List.getElem?_eq_some_iff.mp b).1
      rw [List.length_set] at h2
      rw [List.getElem?_set_self h2] at b
      cases b
      rw [eo] at a
      cases a
      exact ⟨_, rfl, rd⟩
    · rw [List.getElem?_set_ne hj] at b
      have q := f.sl j o' z a b
      have far : isOwn z = true → o' ≠ some (.ref p) := fun hz e => by
        subst e
        exact f.ds i j p _ z hj ei b hx hz eo a
      cases z with
      | no => trivial
      | sh d => obtain ⟨v, q1, q2⟩ := q; exact ⟨v, q1, q2.mono e1⟩
      | own xs =>
        obtain ⟨r, vs, e1', e2', e3, e4, e5, e6⟩ := q
        exact ⟨r, vs, e1', e2', e3.mono e1, by rw [upd_ne (fun e => far rfl (by rw [e1', e]))]; exact e4, e5, e6⟩
      | ownD xs =>
        obtain ⟨r, vs, e1', e2', e3, e4, e5, e6⟩ := q
        exact ⟨r, vs, e1', e2', e3.mono e1, by rw [upd_ne (fun e => far rfl (by rw [e1', e]))]; exact e4, e5, e6⟩
      | ownI C xs =>
        obtain ⟨r, dx, vs, e1', e2', e3, e4, e5, e6⟩ := q
        exact ⟨r, dx, vs, e1', e2', e3.mono e1, by rw [upd_ne (fun e => far rfl (by rw [e1', e]))]; exact e4, e5, e6⟩
      | exc c fs =>
        obtain ⟨a', dd, xs, q1, q2, q3, q4, q5⟩ := q
        exact ⟨a', dd, xs, q1, q2, q3, q4.mono e1, q5⟩
  · by_cases hj : i = j
    · subst hj
      have h2 := (List.getElem?_eq_some_iff.mp a).1
      rw [List.length_set] at h2
      rw [List.getElem?_set_self h2] at a
      cases a
      cases c
    · by_cases hk : i = l
      · subst hk
        have h2 := (List.getElem?_eq_some_iff.mp b).1
        rw [List.length_set] at h2
        rw [List.getElem?_set_self h2] at b
        cases b
        cases e
      · rw [List.getElem?_set_ne hj] at a
        rw [List.getElem?_set_ne hk] at b
        exact f.ds j l q z z2 hjl a b c e g
def frzDE (i : Nat) (ρ : Ev) : Ev := match ρ[i]? with
  | some (.ownD kds) => ρ.set i (.sh (.dct kds))
  | _ => ρ
def mFrzD (O : Wo) (i : Nat) (m : MS O) : MS O := fun ρ s => m (frzDE i ρ) s
theorem Fm.frzD {H0 G H : Hp} {σ : L2.St} {ρ : Ev} {s : O.S} (f : Fm K O H0 σ ρ G H s) (i : Nat) : ∃ G', Same G G' ∧ Same G' H ∧ (∀ b o, G' b = some o → G b = some o ∨ H0 b = none) ∧ Fm K O H0 σ (frzDE i ρ) G' H s := by
  unfold frzDE
  split
  · rename_i kds ei
    obtain ⟨o, eo, p, vs, rfl, hp, r, gp, wp, h0⟩ := f.at ei
    exact f.frzG ei rfl eo hp gp wp h0 (.dct upd_same (r.mono fun b u e => by rw [upd_ne (ne_of_none e gp)]; exact e))
  · exact ⟨G, Same.refl _, f.gh, fun b o e => .inl e, f⟩
theorem db_frzD (i : Nat) {e : List Stmt} {t : TS} {m : MS O} (h : DB K O Wx X e t m) : DB K O Wx X e t (mFrzD O i m) := by
  refine ⟨h.pe, ?_⟩
  intro G0 H0 σ ρ G H s Dn F q
  obtain ⟨G', e1, e2, e3, F'⟩ := F.fm.frzD i
  refine h.sn G0 H0 σ (frzDE i ρ) G' H s Dn ⟨F', ?_⟩ (PstS.shift e1 q)
  refine ⟨F.tr.gg.trans e1, e2, fun b o e => ?_, F.tr.kp, F.tr.dm⟩
  rcases e3 b o e with q | q
  · exact F.tr.gr b o q
  · exact .inr q
/-! ### dicts of one's own: in, setdefault -/
def mInO (O : Wo) (b : Bool) (i : Nat) (mk : ME O) : ME O := fun ρ s => (mk ρ s).bind fun k s1 => match ρ[i]? with
  | some (.ownD kds) => match toKey k with
    | some k => .ok (.bl (b == (valP kds k).isSome)) s1
    | none => .bad
  | _ => .bad
section
variable {x : Str} {e : Expr} {te : TE} {me : ME O} {p1 pos : Pos} {j : Nat}
theorem in_own {i : Nat} {b : Bool} {σ : L2.St} {ρ : Ev} {H0 G H : Hp} {s1 : O.S} {kd : D} {kv : V} {Q : VK} (F : Fm K O H0 σ ρ G H s1) (r : Rep K G kv kd)
    (h : Pst K O Wx σ G H (Rep K) (match ρ[i]? with
      | some (.ownD kds) => match toKey kd with
        | some k => .ok (.bl (b == (valP kds k).isSome)) s1
        | none => .bad
      | _ => .bad) Q) : ∃ a o, σ[i]? = some (some (.ref a)) ∧ DGet H a kv o ∧ Q (.bl (b == o.isSome)) H := by
  split at h
  · rename_i kds ei
    obtain ⟨o, eo, p, vs, rfl, hp, r', gp, wp, h0⟩ := F.at ei
    split at h
    · rename_i k ek
      have := r.key ek
      subst this
      rw [← r'.isSome] at h
      exact ⟨p, _, eo, DGet.k hp, h _ G H (.refl F.gh) F.ok (.bl _)⟩
    · exact (show False from h).elim
  · exact (show False from h).elim
theorem de_inO (i : Nat) (hr : Room j X.A) (he : DE K O Wx X e te me) (hN : X.N[i]? = some x := by rfl) (hv : Vis X.env.scope x := by first | exact Or.inl rfl | exact Or.inr (Or.inl rfl) | exact Or.inr (Or.inr rfl)) (hd : (x == ("__debug__" : Str)) = false := by decide)
    (hcd : (x == ("__classdict__" : Str)) = false := by decide) (hm : behindInMarks .In (.Name x p1) = false := by rfl) : DE K O Wx X (.Compare e [.In] [.Name x p1] pos) (tDIn te (tVar i)) (mInO O true i me) := by
  refine ⟨he.hK, he.tk, pe_cmp (pc_din (hu_of hr) he.pe (pe_var hN hv hd hcd)) hm, fun σ ρ H0 G H s Q F h => ?_⟩
  refine he.sn σ ρ H0 G H s _ F (pst_bind h fun dk s1 _ kv G1 H1 t1 k1 r1 h1 => ?_)
  obtain ⟨a, o, e1, e2, e3⟩ := in_own (F.tr t1 k1) r1 h1
  exact ⟨.ref a, e1, a, o, rfl, e2, by simpa using e3⟩
theorem de_notInO (i : Nat) (hr : Room j X.A) (he : DE K O Wx X e te me) (hN : X.N[i]? = some x := by rfl) (hv : Vis X.env.scope x := by first | exact Or.inl rfl | exact Or.inr (Or.inl rfl) | exact Or.inr (Or.inr rfl)) (hd : (x == ("__debug__" : Str)) = false := by decide)
    (hcd : (x == ("__classdict__" : Str)) = false := by decide) (hm : behindInMarks .NotIn (.Name x p1) = false := by rfl) : DE K O Wx X (.Compare e [.NotIn] [.Name x p1] pos) (tDNotIn te (tVar i)) (mInO O false i me) := by
  refine ⟨he.hK, he.tk, pe_cmp (pc_dnotin (hu_of hr) he.pe (pe_var hN hv hd hcd)) hm, fun σ ρ H0 G H s Q F h => ?_⟩
  refine he.sn σ ρ H0 G H s _ F (pst_bind h fun dk s1 _ kv G1 H1 t1 k1 r1 h1 => ?_)
  obtain ⟨a, o, e1, e2, e3⟩ := in_own (F.tr t1 k1) r1 h1
  exact ⟨.ref a, e1, a, o, rfl, e2, by cases h : o.isSome <;> rw [h] at e3 <;> exact e3⟩
end
def mSetd (O : Wo) (i : Nat) (mk mv : ME O) : MS O := fun ρ s => match ρ[i]? with
  | some (.ownD kds) => toS (mk ρ s) ρ fun k s1 => toS (mv ρ s1) ρ fun v s2 => match toKey k with
    | some k => if kds.length < 100000 then .nx (if (valP kds k).isSome = true then ρ else ρ.set i (.ownD (putP kds k v))) s2 else .bad
    | none => .bad
  | _ => .bad
theorem ds_setd (i : Nat) {x : Str} {ek ev : Expr} {tk tv : TE} {mk mv : ME O} {p1 p2 p3 p4 : Pos} (hk : DE K O Wx X ek tk mk) (hv : DE K O Wx X ev tv mv) (hN : X.N[i]? = some x := by rfl) (hvs : Vis X.env.scope x := by first | exact Or.inl rfl | exact Or.inr (Or.inl rfl) | exact Or.inr (Or.inr rfl))
    (hd : (x == ("__debug__" : Str)) = false := by decide) (hcd : (x == ("__classdict__" : Str)) = false := by decide) (m : M2 X (.Name x p1) "setdefault" p2 ek ev p3 := by exact ⟨rfl, rfl, rfl, rfl⟩)
    (hs : swapsWith (.Call (.Attribute (.Name x p1) "setdefault" p2) [ek, ev] [] p3) none p4.line X.env = pure false := by rfl) :
    DS K O Wx X (.Expr (.Call (.Attribute (.Name x p1) "setdefault" p2) [ek, ev] [] p3) p4) (tDrop (tDSetd (tVar i) tk tv)) (mSetd O i mk mv) := by
  refine ⟨ps_expr (pe_dsetd (pe_var hN hvs hd hcd) hk.pe hv.pe m) hs, fun G0 H0 σ ρ G H s Dn F h => ?_⟩
  unfold mSetd at h
  split at h
  · rename_i kds ei
    obtain ⟨o, eo, p, vs, rfl, hp, r, gp, wp, h0⟩ := F.fm.at ei
    refine ⟨.ref p, eo, p, rfl, .inl ⟨vs, .inl hp⟩, ?_⟩
    refine hk.sn σ ρ H0 G H s _ F.fm (pst_toS F h fun k s1 _ kv G1 H1 t1 k1 r1 h1 => ?_)
    have F1 := F.go t1 k1
    refine hv.sn σ ρ H0 G1 H1 s1 _ F1.fm (pst_toS F1 h1 fun v s2 _ vv G2 H2 t2 k2 r2 h2 => ?_)
    have F2 := F1.go t2 k2
    split at h2
    · rename_i k' ek
      split at h2
      · rename_i hz
        obtain ⟨o', eo', p', vs', e', hp', r', gp', wp', h0'⟩ := F2.fm.at ei
        rw [eo] at eo'
        subst e'
        cases eo'
        have ekv := r1.key ek
        subst ekv
        refine ⟨vs', k', hp', rfl, by rw [r'.length]; exact sz5l hz, fun w hw => ?_, fun hn => ?_⟩
        · have hs : (valP kds k').isSome = true := by rw [← r'.isSome, hw]; rfl
          rw [if_pos hs] at h2
          exact h2 σ G2 H2 (Same.refl _) F2
        · have hs : ¬ (valP kds k').isSome = true := by rw [← r'.isSome, hn]; simp
          rw [if_neg hs] at h2
          exact h2 σ G2 _ (Same.refl _) (F2.wr ei rfl rfl eo gp' wp' h0' (not_xd_d hp') ⟨p, _, rfl, upd_same, r'.put r2, gp', wp', h0'⟩)
      · exact (show False from h2).elim
    · exact (show False from h2).elim
  · exact h.elim
/-! ### list.index -/
def dIndex : D → D → Option D
  | .lst xs, y => match toPs xs, toP y with
    | some ps, some q => if SeqAt.shaped (.list ps) = true ∧ SeqAt.shaped q = true then (ps.findIdx? fun z => PyData.eqv z q).map fun (j : Nat) => D.int (j : Int) else none
    | _, _ => none
  | _, _ => none
def mIndex (O : Wo) (mo me : ME O) : ME O := fun ρ s => (mo ρ s).bind fun x s1 => match x with
  | .lst xs => (me ρ s1).bind fun y s2 => R.lift (dIndex (.lst xs) y) s2
  | _ => .bad
theorem de_index {o e : Expr} {to te : TE} {mo me : ME O} {p1 pos : Pos} {k : Nat} (hr : Room k X.A) (ho : DE K O Wx X o to mo) (he : DE K O Wx X e te me)
    (hbase : attributeBase o "index" X.env (eval o X.env) = eval o X.env := by rfl)
    (hfew : ((backTo pos (starEach [e] X.env)).all (fun x => !x.1) && (backToKw pos (keywordEach [] X.env)).all (fun x => x.1.isSome) && decide ([e].length + ([] : List Keyword).length + (if ([] : List Keyword).isEmpty then 0 else 1) < 30)) = true := by rfl)
    (hline : (p1.endLine == pos.line) = true := by rfl) (hs : starEach [e] X.env = (false, eval e X.env) :: starEach [] X.env := by rfl) (hpl : (backTo pos (starEach [] X.env)).any (·.1) = false := by rfl) :
    DE K O Wx X (.Call (.Attribute o "index" p1) [e] [] pos) (tBM K "list" (rIndexD K) to (tCons te tNil)) (mIndex O mo me) := by
  refine ⟨ho.hK, ho.tk, ?_, fun σ ρ H0 G H s Q F h => ?_⟩
  · have hk : X.K = K := ho.hK
    subst hk
    exact pe_bm PySem.F.plainAttrs_list PySem.F.slot_list_index PySem.F.type_list_index (mt_indexD (by have := hr.un; omega)) ho.pe (pa_cons he.pe pa_nil hs) hbase hfew hline hs hpl
  · refine ho.sn σ ρ H0 G H s _ F (pst_bind h fun dx s1 _ x G1 H1 t1 k1 r1 h1 => ?_)
    cases r1 with
    | @lst a vs ds hq r =>
      refine ⟨.inl ⟨rfl, _, t1.gh.seq hq⟩, ?_⟩
      refine he.sn σ ρ H0 G1 H1 s1 _ (F.tr t1 k1) (pst_bind h1 fun dy s2 _ y G2 H2 t2 k2 r2 h2 => ?_)
      unfold dIndex at h2
      dsimp only at h2
      cases e1 : toPs ds with
      | none => rw [e1] at h2; exact (show False from h2).elim
      | some ps =>
        cases e2 : toP dy with
        | none => rw [e1, e2] at h2; exact (show False from h2).elim
        | some q =>
          rw [e1, e2] at h2
          dsimp only at h2
          split at h2
          · rename_i hsh
            cases e3 : ps.findIdx? fun z => PyData.eqv z q with
            | none => rw [e3] at h2; exact (show False from h2).elim
            | some jj =>
              rw [e3] at h2
              obtain ⟨hl, h4, h5⟩ := List.findIdx?_eq_some_iff_getElem.mp e3
              refine ⟨a, y, q, ps, jj, ps[jj], rfl, rfl, .lst (t2.gh.seq (t2.gg.seq hq)) (Reps.dp t2.gh (r.mono t2.gg) e1), Rep.dp t2.gh r2 e2, hsh.1, hsh.2, List.getElem?_eq_getElem hl, h4, fun m z' hm hz => ?_, h2 _ G2 H2 (.refl t2.gh) k2 (.int _)⟩
              have hml : m < ps.length := by omega
              rw [List.getElem?_eq_getElem hml] at hz
              cases hz
              have := h5 m hm
              simpa using this
          · exact (show False from h2).elim
    | _ => exact (show False from h1).elim
/-! ### min, max of a list of ints -/
def dMinL : List D → Option D
  | [.lst xs] => match toInts xs with
    | some ns => ns.min?.map D.int
    | none => none
  | _ => none
def dMaxL : List D → Option D
  | [.lst xs] => match toInts xs with
    | some ns => ns.max?.map D.int
    | none => none
  | _ => none
theorem vcl_minL : VCl K (rMin K) dMinL := by
  intro G H x dx d Q g rx e q
  unfold dMinL at e
  split at e
  · cases rx with
    | cons r1 r2 =>
      cases r2
      cases r1 with
      | lst hs r =>
        split at e
        · rename_i ns en
          have := r.toInts en
          subst this
          rw [Option.map_eq_some_iff] at e
          obtain ⟨m0, e0, rfl⟩ := e
          have key := List.min?_eq_some_iff.mp e0
          refine ⟨_, ns, rfl, g.seq hs, ?_, fun m hm hle => ?_⟩
          · cases ns with
            | nil => cases e0
            | cons n ns => simp
          · have : m = m0 := Int.le_antisymm (hle m0 key.1) (key.2 m hm)
            rw [this]
            exact q _ G H (.refl g) (.int _)
        · cases e
  · cases e
theorem vcl_maxL : VCl K (rMax K) dMaxL := by
  intro G H x dx d Q g rx e q
  unfold dMaxL at e
  split at e
  · cases rx with
    | cons r1 r2 =>
      cases r2
      cases r1 with
      | lst hs r =>
        split at e
        · rename_i ns en
          have := r.toInts en
          subst this
          rw [Option.map_eq_some_iff] at e
          obtain ⟨m0, e0, rfl⟩ := e
          have key := List.max?_eq_some_iff.mp e0
          refine ⟨_, ns, rfl, g.seq hs, ?_, fun m hm hle => ?_⟩
          · cases ns with
            | nil => cases e0
            | cons n ns => simp
          · have : m = m0 := Int.le_antisymm (key.2 m hm) (hle m0 key.1)
            rw [this]
            exact q _ G H (.refl g) (.int _)
        · cases e
  · cases e
theorem call_minG (hK : X.K = K) (hc : X.calm = true) : CallR X (.builtin "min") (rMin K) := by subst hK; exact cr_min hc
theorem call_maxG (hK : X.K = K) (hc : X.calm = true) : CallR X (.builtin "max") (rMax K) := by subst hK; exact cr_max hc
/-! ### lists of one's own are read -/
def mLenO (O : Wo) (i : Nat) : ME O := fun ρ s => match ρ[i]? with
  | some (.own xs) => .ok (.int xs.length) s
  | _ => .bad
def mIdxO (O : Wo) (i : Nat) (m : ME O) : ME O := fun ρ s => match ρ[i]? with
  | some (.own xs) => (m ρ s).bind fun k s1 => match k with
    | .int j => R.lift (L2.atI xs j) s1
    | _ => .bad
  | _ => .bad
def mTruthO (O : Wo) (i : Nat) : MT O := fun ρ s => match ρ[i]? with
  | some (.own xs) => .ok (!xs.isEmpty) s
  | _ => .bad
section
variable {x : Str} {p p1 pos : Pos}
theorem de_lenO (i : Nat) (c : Cn K Wx X) (hm : X.mg "len" = none) (hN : X.N[i]? = some x := by rfl) (hv : Vis X.env.scope x := by first | exact Or.inl rfl | exact Or.inr (Or.inl rfl) | exact Or.inr (Or.inr rfl)) (hd : (x == ("__debug__" : Str)) = false := by decide)
    (hcd : (x == ("__classdict__" : Str)) = false := by decide) (hg : Gl X "len" := by rfl) (he : starEach [.Name x p1] X.env = (false, eval (.Name x p1) X.env) :: starEach [] X.env := by rfl) (hpl : (backTo pos (starEach [] X.env)).any (·.1) = false := by rfl) :
    DE K O Wx X (.Call (.Name "len" p) [.Name x p1] [] pos) (tCB (fun xs H Q => ∃ x n, xs = [x] ∧ LenV K x H n ∧ Q (.int n) H) (tCons (tVar i) tNil)) (mLenO O i) := by
  refine ⟨c.hK, c.tk, pe_callB (call_lenG c.hK) hg hm PySem.boot_len (pa_cons (pe_var hN hv hd hcd) pa_nil he) (by decide) (by decide) he hpl, fun σ ρ H0 G H s Q F h => ?_⟩
  unfold mLenO at h
  split at h
  · rename_i xs ei
    obtain ⟨o, eo, p, vs, rfl, hp, r, gp, wp, h0⟩ := F.at ei
    exact ⟨.ref p, eo, .ref p, xs.length, rfl, .inl ⟨vs, .inl (.inl hp), r.length.symm⟩, h _ G H (.refl F.gh) F.ok (.int _)⟩
  · exact (show False from h).elim
theorem de_idxO (i : Nat) {ei : Expr} {ti : TE} {mi : ME O} (hi : DE K O Wx X ei ti mi) (hN : X.N[i]? = some x := by rfl) (hv : Vis X.env.scope x := by first | exact Or.inl rfl | exact Or.inr (Or.inl rfl) | exact Or.inr (Or.inr rfl)) (hd : (x == ("__debug__" : Str)) = false := by decide)
    (hcd : (x == ("__classdict__" : Str)) = false := by decide) (hs : PlainIx ei := by exact fun _ _ => rfl) : DE K O Wx X (.Subscript (.Name x p1) ei pos) (tOp (rIx K) (tVar i) ti) (mIdxO O i mi) := by
  refine ⟨hi.hK, hi.tk, pe_ix (ix_G hi.hK) (pe_var hN hv hd hcd) hi.pe hs, fun σ ρ H0 G H s Q F h => ?_⟩
  unfold mIdxO at h
  split at h
  · rename_i xs ei
    obtain ⟨o, eo, p, vs, rfl, hp, r, gp, wp, h0⟩ := F.at ei
    refine ⟨.ref p, eo, ?_⟩
    refine hi.sn σ ρ H0 G H s _ F (pst_bind h fun k s1 _ kv G1 H1 t1 k1 r1 h1 => ?_)
    have F1 := F.tr t1 k1
    obtain ⟨o', eo', p', vs', e', hp', r', gp', wp', h0'⟩ := F1.at ei
    rw [eo] at eo'
    subst e'
    cases eo'
    cases r1 with
    | int j =>
      dsimp only at h1
      cases ea : L2.atI xs j with
      | none => rw [ea] at h1; exact (show False from h1).elim
      | some d =>
        rw [ea] at h1
        obtain ⟨v, e1, e2⟩ := r'.atI ea
        exact .inl ⟨p, vs', j, v, rfl, rfl, .inl (.inl hp'), e1, h1 v G1 H1 (.refl t1.gh) k1 e2⟩
    | _ => exact (show False from h1).elim
  · exact (show False from h).elim
theorem dt_truthO (i : Nat) (c : Cn K Wx X) (hN : X.N[i]? = some x := by rfl) (hv : Vis X.env.scope x := by first | exact Or.inl rfl | exact Or.inr (Or.inl rfl) | exact Or.inr (Or.inr rfl)) (hd : (x == ("__debug__" : Str)) = false := by decide)
    (hcd : (x == ("__classdict__" : Str)) = false := by decide) (he : ∀ whole, isTrue (.Name x p1) X.env whole = (do let v ← whole; standAt (Expr.Name x p1).pos; holding [v] (truthy v)) := by intro _; rfl) :
    DT K O Wx X (.Name x p1) (fun σ H Q => tVar i σ H fun x H1 => ∃ k, TruV K x H1 k ∧ Q k H1) (mTruthO O i) := by
  refine ⟨c.hK, c.tk, ?_, ?_⟩
  · have := c.hK
    subst this
    exact pt_truth (pe_var hN hv hd hcd) he
  · intro σ ρ H0 G H s Q F h
    unfold mTruthO at h
    split at h
    · rename_i xs ei
      obtain ⟨o, eo, p, vs, rfl, hp, r, gp, wp, h0⟩ := F.at ei
      exact ⟨.ref p, eo, _, .inl ⟨vs, .inl (.inl hp), by rw [r.isEmpty]⟩, h _ G H (.refl F.gh) F.ok rfl⟩
    · exact (show False from h).elim
end
/-! ### these as tests -/
theorem dt_pc {op : CmpOp} {a b : Expr} {t : TE} {m : ME O} {pos : Pos} (c : Cn K Wx X) (h : PC X op a b t) (sn : SndE K O Wx t m) (hm : behindInMarks op b = false) : DT K O Wx X (.Compare a [op] [b] pos) (tB t) (mTest O m) := ⟨c.hK, c.tk, pt_cmp h hm, snd_test sn⟩
section
variable {a b : Expr} {ta tb : TE} {ma mb : ME O} {pos : Pos} {j : Nat}
theorem dt_inK (hr : Room j X.A) (ha : DE K O Wx X a ta ma) (hb : DE K O Wx X b tb mb) (hm : behindInMarks .In b = false := by rfl) : DT K O Wx X (.Compare a [.In] [b] pos) (tB (tDIn ta tb)) (mTest O (mBin O dInK ma mb)) := dt_pc ⟨ha.hK, ha.tk⟩ (pc_din (hu_of hr) ha.pe hb.pe) (de_inK (pos := pos) hr ha hb hm).sn hm
theorem dt_notInK (hr : Room j X.A) (ha : DE K O Wx X a ta ma) (hb : DE K O Wx X b tb mb) (hm : behindInMarks .NotIn b = false := by rfl) : DT K O Wx X (.Compare a [.NotIn] [b] pos) (tB (tDNotIn ta tb)) (mTest O (mBin O dNotInK ma mb)) := dt_pc ⟨ha.hK, ha.tk⟩ (pc_dnotin (hu_of hr) ha.pe hb.pe) (de_notInK (pos := pos) hr ha hb hm).sn hm
theorem dt_inO (i : Nat) {x : Str} {p1 : Pos} (hr : Room j X.A) (ha : DE K O Wx X a ta ma) (hN : X.N[i]? = some x := by rfl) (hv : Vis X.env.scope x := by first | exact Or.inl rfl | exact Or.inr (Or.inl rfl) | exact Or.inr (Or.inr rfl)) (hd : (x == ("__debug__" : Str)) = false := by decide)
    (hcd : (x == ("__classdict__" : Str)) = false := by decide) (hm : behindInMarks .In (.Name x p1) = false := by rfl) : DT K O Wx X (.Compare a [.In] [.Name x p1] pos) (tB (tDIn ta (tVar i))) (mTest O (mInO O true i ma)) := dt_pc ⟨ha.hK, ha.tk⟩ (pc_din (hu_of hr) ha.pe (pe_var hN hv hd hcd)) (de_inO (pos := pos) i hr ha hN hv hd hcd hm).sn hm
theorem dt_notInO (i : Nat) {x : Str} {p1 : Pos} (hr : Room j X.A) (ha : DE K O Wx X a ta ma) (hN : X.N[i]? = some x := by rfl) (hv : Vis X.env.scope x := by first | exact Or.inl rfl | exact Or.inr (Or.inl rfl) | exact Or.inr (Or.inr rfl)) (hd : (x == ("__debug__" : Str)) = false := by decide)
    (hcd : (x == ("__classdict__" : Str)) = false := by decide) (hm : behindInMarks .NotIn (.Name x p1) = false := by rfl) : DT K O Wx X (.Compare a [.NotIn] [.Name x p1] pos) (tB (tDNotIn ta (tVar i))) (mTest O (mInO O false i ma)) := dt_pc ⟨ha.hK, ha.tk⟩ (pc_dnotin (hu_of hr) ha.pe (pe_var hN hv hd hcd)) (de_notInO (pos := pos) i hr ha hN hv hd hcd hm).sn hm
end
/-! ### {} -/
def mOwnD0 (O : Wo) (i : Nat) : MS O := fun ρ s => .nx (ρ.set i (.ownD [])) s
theorem ds_ownD0 (i : Nat) {x : Str} {pos pos' pos2 : Pos} (hN : X.N.Nodup) (hi : X.N[i]? = some x := by rfl) (hx : Loc X.env.scope x := by first | exact Or.inl rfl | exact Or.inr rfl) (hs : swapsWith (.Dict [] [] pos2) (some (.Name x pos')) pos.line X.env = pure false := by rfl)
    (hf : X.fn x = true ∨ X.env.scope.names.lookup x = some .local := by first | exact .inl rfl | exact .inr rfl | assumption) : DS K O Wx X (.Assign [.Name x pos'] (.Dict [] [] pos2) pos) (tAsg tDNewK (gName i)) (mOwnD0 O i) := by
  refine ⟨ps_set hN hi hx pe_dnewK hs hf, fun G0 H0 σ ρ G H s Dn F h => ?_⟩
  intro p np
  have t0 := Tr0.hid (o := .dK []) F.fm.gh np
  have nW : ¬ O.W p := fun w => O.dom s H p F.fm.ok w np
  have n0 : H0 p = none := F.tr.dm p np
  have gp : G p = none := F.fm.gh.free np
  exact h _ G _ (Same.refl _) ⟨F.fm.put t0.up (F.fm.keepW t0) np ⟨p, [], rfl, upd_same, .nil, gp, nW, n0⟩, F.tr.trans t0.up⟩
end
end Mr

namespace Mr
open PySem PySem.Spec PyProof.Rows L2 RZ
section
variable {K : PySem.W.Frag} {O : Wo} {Wx : WX} {X : Cx} {G0 H0 G H G1 H1 : Hp} {σ : L2.St} {ρ : Ev} {s s1 : O.S}
/-! ### more new lists -/
theorem newL {ds : List D} {vs : List V} {Q : VK} {p : Addr} (t1 : Tr O.W G H G1 H1) (k1 : O.ok s1 H1) (gh : Same G1 H1) (h : PstN K O Wx σ G H (.ok ds s1) Q) (r : Reps K G1 vs ds) (np : H1 p = none) : Q (.ref p) (upd H1 p (.lst vs)) := by
  refine h p vs G1 (upd H1 p (.lst vs)) (t1.mut (t1.dm p np) (gh.free np)) ?_ (t1.dm p np) (gh.free np) upd_same r
  exact O.loc s1 H1 _ (fun a w => by rw [upd_ne]; intro e; rw [e] at w; exact O.dom s1 H1 p k1 w np) k1
theorem reps_rg (n : Int) : Reps K G (rgV 0 n) (rangeD 0 n.toNat) := by
  unfold rgV rangeD
  rw [Int.sub_zero]
  generalize n.toNat = m
  have key : ∀ l : List Nat, Reps K G (l.map fun (i : Nat) => V.int (0 + (i : Int))) (l.map fun (i : Nat) => D.int (0 + (i : Int))) := by
    intro l
    induction l with
    | nil => exact .nil
    | cons x l ih => exact .cons (.int _) ih
  exact key _
/-- list(range(e)) -/
def mRgL (O : Wo) (m : ME O) : MA O := fun ρ s => (m ρ s).bind fun x s1 => match x with
  | .int n => if n ≤ 100000 ∧ -100000 ≤ n then .ok (rangeD 0 n.toNat) s1 else .bad
  | _ => .bad
theorem dn_listRg {e : Expr} {te : TE} {me : ME O} {p p2 pos pos2 : Pos} (c : Cs K Wx X) (hm1 : X.mg "list" = none) (hm2 : X.mg "range" = none) (he : DE K O Wx X e te me) (hg1 : Gl X "list" := by rfl) (hg2 : Gl X "range" := by rfl)
    (na : starEach [e] X.env = (false, eval e X.env) :: starEach [] X.env := by rfl) (nb : starEach [.Call (.Name "range" p2) [e] [] pos2] X.env = (false, eval (.Call (.Name "range" p2) [e] [] pos2) X.env) :: starEach [] X.env := by rfl) :
    DN K O Wx X (.Call (.Name "list" p) [.Call (.Name "range" p2) [e] [] pos2] [] pos) (tLstRg (tRg1 te)) (mRgL O me) := by
  refine ⟨he.hK, he.tk, pe_listRg c.hc hg1 hm1 (prg_1 hg2 hm2 he.pe na) nb, fun σ ρ H0 G H s Q F h => ?_⟩
  refine he.sn σ ρ H0 G H s _ F ?_
  unfold mRgL at h
  revert h
  cases me ρ s with
  | ok d s1 =>
    intro h v G1 H1 t1 k1 r1
    have F1 := F.tr t1 k1
    rw [bind_ok] at h
    cases d with
    | int n =>
      dsimp only at h
      split at h
      · rename_i hz
        cases r1
        exact ⟨n, rfl, ⟨by omega, by omega, by omega, by omega, by omega⟩, fun p np => newL t1 k1 F1.gh h (reps_rg n) np⟩
      · exact h.elim
    | _ => exact (show False from h).elim
  | err c fs s1 => exact fun h => h
  | bad => exact fun h => h
end
end Mr

namespace Mr
open PySem PySem.Spec PyProof.Rows L2 RZ
section
variable {K : PySem.W.Frag} {O : Wo} {Wx : WX} {X : Cx} {G0 H0 G H G1 H1 : Hp} {σ : L2.St} {ρ : Ev} {s s1 : O.S}
/-! ### methods that change an own list -/
/-- what a method does to an own list: the value and the list after it -/
def mOwnM (O : Wo) (i : Nat) (f : List D → List D → Option (D × List D)) (ma : MA O) (g : D → Ev → Option Ev) : MS O := fun ρ s => match ρ[i]? with
  | some (.own xs) => toS (ma ρ s) ρ fun ds s1 => match f xs ds with
    | some (d, ys) => match g d (ρ.set i (.own ys)) with
      | some ρ1 => .nx ρ1 s1
      | none => .bad
    | none => .bad
  | _ => .bad
/-- a rule of the kit does what f says -/
def OwnR (K : PySem.W.Frag) (r : V → List V → Hp → VK → Prop) (f : List D → List D → Option (D × List D)) : Prop :=
  ∀ {G H : Hp} {l : Addr} {vs ws : List V} {xs ds ys : List D} {d : D} {Q : VK}, Reps K G vs xs → Reps K G ws ds → f xs ds = some (d, ys) → H l = some (.lst vs) →
    (∀ y vs', Rep K G y d → Reps K G vs' ys → Q y (upd H l (.lst vs'))) → r (.ref l) ws H Q
theorem snd_ownM {r : V → List V → Hp → VK → Prop} {f : List D → List D → Option (D × List D)} (hr : OwnR K r f) (i : Nat) {ta : TA} {ma : MA O} {t : TG} {g : D → Ev → Option Ev} {is : List Nat} (ha : SndA K O Wx ta ma) (hg : SndG K O t g is) : SndS K O Wx (tAsg (tBM K "list" r (tVar i) ta) t) (mOwnM O i f ma g) := by
  intro G0 H0 σ ρ G H s Dn F h
  unfold mOwnM at h
  split at h
  · rename_i xs ei
    obtain ⟨o, eo, p, vs, rfl, hp, r0, gp, wp, h0⟩ := F.fm.at ei
    refine ⟨.ref p, eo, .inl ⟨rfl, vs, .inl (.inl hp)⟩, ?_⟩
    refine ha σ ρ H0 G H s _ F.fm (pst_toS F h fun ds s1 _ ws G1 H1 t1 k1 r1 h1 => ?_)
    have F1 := F.go t1 k1
    cases ef : f xs ds with
    | none => rw [ef] at h1; exact (show False from h1).elim
    | some dy =>
      obtain ⟨d, ys⟩ := dy
      rw [ef] at h1
      dsimp only at h1
      obtain ⟨o', eo', p', vs', e', hp', r', gp', wp', h0'⟩ := F1.fm.at ei
      rw [eo] at eo'
      subst e'
      cases eo'
      refine hr r' r1 ef hp' fun y vs2 ry r2 => ?_
      have F2 := F1.wr (y := .own ys) ei rfl rfl eo gp' wp' h0' (not_xd_l hp') ⟨p, _, rfl, upd_same, r2, gp', wp', h0'⟩
      cases eg : g d (ρ.set i (.own ys)) with
      | none => rw [eg] at h1; exact (show False from h1).elim
      | some ρ1 =>
        rw [eg] at h1
        exact hg H0 σ _ G1 _ s1 y d ρ1 _ F2.fm ry eg fun σ' F' _ => h1 σ' G1 _ (Same.refl _) ⟨F', F2.tr⟩
  · exact h.elim
/-- the value is dropped -/
def fDrop : D → Ev → Option Ev := fun _ ρ => some ρ
theorem snd_drop : SndG K O (fun _ σ H Q => Q σ H) fDrop [] := fun H0 σ ρ G H s v d ρ' Q F r e q => by
  cases e
  exact q σ F fun _ _ => rfl
theorem ds_ownM (i : Nat) {r : V → List V → Hp → VK → Prop} {f : List D → List D → Option (D × List D)} {name : Str} {id : String} {x : Str} {e : Expr} {es : List Expr} {ta : TA} {ma : MA O} {p1 p2 p3 p4 : Pos} (hr : OwnR K r f) (slot : Slot "list" name id) (hty : typeOf (.builtin id) = pure (.type "method_descriptor")) (hm : MtR X id r) (ha : DA K O Wx X (e :: es) ta ma)
    (hN : X.N[i]? = some x := by rfl) (hv : Vis X.env.scope x := by first | exact Or.inl rfl | exact Or.inr (Or.inl rfl) | exact Or.inr (Or.inr rfl)) (hd : (x == ("__debug__" : Str)) = false := by decide)
    (hcd : (x == ("__classdict__" : Str)) = false := by decide) (hbase : attributeBase (.Name x p1) name X.env (eval (.Name x p1) X.env) = eval (.Name x p1) X.env := by rfl)
    (hfew : ((backTo p3 (starEach (e :: es) X.env)).all (fun x => !x.1) && (backToKw p3 (keywordEach [] X.env)).all (fun x => x.1.isSome) && decide ((e :: es).length + ([] : List Keyword).length + (if ([] : List Keyword).isEmpty then 0 else 1) < 30)) = true := by rfl)
    (hline : (p2.endLine == p3.line) = true := by rfl) (hse : starEach (e :: es) X.env = (false, eval e X.env) :: starEach es X.env := by rfl) (hpl : (backTo p3 (starEach es X.env)).any (·.1) = false := by rfl)
    (hs : swapsWith (.Call (.Attribute (.Name x p1) name p2) (e :: es) [] p3) none p4.line X.env = pure false := by rfl) : DS K O Wx X (.Expr (.Call (.Attribute (.Name x p1) name p2) (e :: es) [] p3) p4) (tDrop (tBM K "list" r (tVar i) ta)) (mOwnM O i f ma fDrop) := by
  refine ⟨by rw [← ha.hK]; exact ps_expr (pe_bm PySem.F.plainAttrs_list slot hty hm (pe_var hN hv hd hcd) ha.pe hbase hfew hline hse hpl) hs, ?_⟩
  exact snd_ownM hr i ha.sn snd_drop
theorem ds_ownMA (i : Nat) {r : V → List V → Hp → VK → Prop} {f : List D → List D → Option (D × List D)} {name : Str} {id : String} {x : Str} {tg e : Expr} {es : List Expr} {ta : TA} {ma : MA O} {t : TG} {g : D → Ev → Option Ev} {is : List Nat} {p1 p2 p3 p4 : Pos} (hr : OwnR K r f) (slot : Slot "list" name id) (hty : typeOf (.builtin id) = pure (.type "method_descriptor")) (hm : MtR X id r) (ha : DA K O Wx X (e :: es) ta ma) (hg : DG K O X tg t g is)
    (hN : X.N[i]? = some x := by rfl) (hv : Vis X.env.scope x := by first | exact Or.inl rfl | exact Or.inr (Or.inl rfl) | exact Or.inr (Or.inr rfl)) (hd : (x == ("__debug__" : Str)) = false := by decide)
    (hcd : (x == ("__classdict__" : Str)) = false := by decide) (hbase : attributeBase (.Name x p1) name X.env (eval (.Name x p1) X.env) = eval (.Name x p1) X.env := by rfl)
    (hfew : ((backTo p3 (starEach (e :: es) X.env)).all (fun x => !x.1) && (backToKw p3 (keywordEach [] X.env)).all (fun x => x.1.isSome) && decide ((e :: es).length + ([] : List Keyword).length + (if ([] : List Keyword).isEmpty then 0 else 1) < 30)) = true := by rfl)
    (hline : (p2.endLine == p3.line) = true := by rfl) (hse : starEach (e :: es) X.env = (false, eval e X.env) :: starEach es X.env := by rfl) (hpl : (backTo p3 (starEach es X.env)).any (·.1) = false := by rfl)
    (hs : swapsWithSole [tg] (.Call (.Attribute (.Name x p1) name p2) (e :: es) [] p3) p4.line X.env = pure false := by rfl) (hw : swappedStores [tg] (.Call (.Attribute (.Name x p1) name p2) (e :: es) [] p3) X.env = pure none := by rfl)
    (h1 : (assignEach [tg] X.env).map (·.2) = [assign tg X.env] := by rfl) : DS K O Wx X (.Assign [tg] (.Call (.Attribute (.Name x p1) name p2) (e :: es) [] p3) p4) (tAsg (tBM K "list" r (tVar i) ta) t) (mOwnM O i f ma g) := by
  refine ⟨by rw [← ha.hK]; exact ps_asg (pe_bm PySem.F.plainAttrs_list slot hty hm (pe_var hN hv hd hcd) ha.pe hbase hfew hline hse hpl) hg.pe hs hw h1, ?_⟩
  exact snd_ownM hr i ha.sn hg.sn
/-! insert, pop -/
def rIns : V → List V → Hp → VK → Prop := fun x vs H Q => ∃ (l : Addr) (xs : List V) (i : Int) (y : V), x = .ref l ∧ vs = [.int i, y] ∧ H l = some (.lst xs) ∧ xs.length < sizeLine ∧ 0 ≤ i ∧ i < 2 ^ 63 ∧
    Q .non (upd H l (.lst (xs.take i.toNat ++ [y] ++ xs.drop i.toNat)))
def lIns (xs : List D) : List D → Option (D × List D)
  | [.int j, d] => if 0 ≤ j ∧ j ≤ 100000 ∧ xs.length < 100000 then some (.non, xs.take j.toNat ++ [d] ++ xs.drop j.toNat) else none
  | _ => none
theorem own_ins : OwnR K rIns lIns := by
  intro G H l vs ws xs ds ys d Q r1 r2 e hl q
  unfold lIns at e
  split at e
  · rename_i j d'
    split at e
    · rename_i h
      cases e
      cases r2 with
      | cons a b =>
        cases a
        cases b with
        | cons b c =>
          cases c
          exact ⟨l, vs, j, _, rfl, rfl, hl, by rw [r1.length]; exact sz5l h.2.2, h.1, by omega, q _ _ .non (((r1.take j.toNat).append (.cons b .nil)).append (r1.drop j.toNat))⟩
    · cases e
  · cases e
theorem mt_ins : MtR X "list.insert" rIns := mt_insert
def lPop (xs : List D) : List D → Option (D × List D)
  | [.int j] => if -100000 ≤ j ∧ j ≤ 100000 then (seqIndex? j xs.length).bind fun k => (xs[k]?).map fun d => (d, xs.eraseIdx k) else none
  | _ => none
theorem own_pop : OwnR K rPopAt lPop := by
  intro G H l vs ws xs ds ys d Q r1 r2 e hl q
  unfold lPop at e
  split at e
  · rename_i j
    split at e
    · rename_i h
      rw [Option.bind_eq_some_iff] at e
      obtain ⟨k, hk, e⟩ := e
      rw [Option.map_eq_some_iff] at e
      obtain ⟨d', hd, e⟩ := e
      cases e
      cases r2 with
      | cons a b =>
        cases a
        cases b
        obtain ⟨v, hv, rv⟩ := r1.get' hd
        exact ⟨l, vs, j, k, v, rfl, rfl, hl, by omega, by omega, by rw [r1.length]; exact hk, hv, q _ _ rv (r1.eraseIdx k)⟩
    · cases e
  · cases e
theorem mt_popA : MtR X "list.pop" rPopAt := mt_popAt
end
end Mr

namespace Mr
open PySem PySem.Spec PyProof.Rows L2 RZ
section
variable {K : PySem.W.Frag} {O : Wo} {Wx : WX} {X : Cx} {G0 H0 G H G1 H1 : Hp} {σ : L2.St} {ρ : Ev} {s s1 : O.S}
/-! ### a def that returns a new list -/
/-- return x, x an own list -/
def mRetO (O : Wo) (i : Nat) : MS O := fun ρ s => match ρ[i]? with
  | some (.own xs) => .rn xs s
  | _ => .bad
theorem ds_retO (i : Nat) {x : Str} {p pos : Pos} (hN : X.N[i]? = some x := by rfl) (hv : Vis X.env.scope x := by first | exact Or.inl rfl | exact Or.inr (Or.inl rfl) | exact Or.inr (Or.inr rfl)) (hd : (x == ("__debug__" : Str)) = false := by decide)
    (hcd : (x == ("__classdict__" : Str)) = false := by decide) : DS K O Wx X (.Return (some (.Name x p)) pos) (tRet (tVar i)) (mRetO O i) := by
  refine ⟨ps_ret (pe_var hN hv hd hcd), fun G0 H0 σ ρ G H s Dn F h => ?_⟩
  unfold mRetO at h
  split at h
  · rename_i xs ei
    obtain ⟨o, eo, p, vs, rfl, hp, r, gp, wp, h0⟩ := F.fm.at ei
    exact ⟨.ref p, eo, h p vs G H (Same.refl _) F.tr F.fm.ok h0 gp hp r⟩
  · exact h.elim
/-- return a new list -/
def mRetNew (O : Wo) (m : MA O) : MS O := fun ρ s => toS (m ρ s) ρ fun ds s1 => .rn ds s1
theorem ds_retNew {e : Expr} {te : TE} {me : MA O} {pos : Pos} (he : DN K O Wx X e te me) : DS K O Wx X (.Return (some e) pos) (tRet te) (mRetNew O me) := by
  refine ⟨ps_ret he.pe, fun G0 H0 σ ρ G H s Dn F h => ?_⟩
  refine he.sn σ ρ H0 G H s _ F.fm ?_
  unfold mRetNew at h
  revert h
  cases me ρ s with
  | ok ds s1 => exact fun h p vs G' H' t k n g e r => h p vs G' H' t.gg (F.tr.trans t) k (F.tr.dm p n) g e r
  | err c fs s' => exact fun h dd xs G' H' t k e n r => h σ dd xs G' H' t.gg (F.go t k) e n r
  | bad => exact fun h => h
def runN (O : Wo) (n : Nat) (m : MS O) : List D → O.S → R O.S (List D) := fun ds s => match m (ds.map .sh ++ List.replicate (n - ds.length) .no) s with
  | .rn ds s1 => .ok ds s1
  | .err c fs _ s1 => .err c fs s1
  | _ => .bad
def PstFN (K : PySem.W.Frag) (O : Wo) (G H : Hp) (r : R O.S (List D)) (Q : VK) (E : XK) : Prop :=
  match r with
  | .ok ds s' => ∀ p vs G' H', Tr O.W G H G' H' → O.ok s' H' → H p = none → G' p = none → H' p = some (.lst vs) → Reps K G' vs ds → Q (.ref p) H'
  | .err c fs s' => ∀ dd xs G' H', Tr O.W G H G' H' → O.ok s' H' → H' dd = some (.xd xs) → ¬ O.W dd → RepF K G' xs fs → E (.ref c) (some dd) H'
  | .bad => False
def spN (K : PySem.W.Frag) (O : Wo) (n : Nat) (m : List D → O.S → R O.S (List D)) : Sp := fun vs H Q E => vs.length = n ∧ ∃ G ds s, Same G H ∧ (∀ a, O.W a → G a = none) ∧ O.ok s H ∧ Reps K G vs ds ∧ PstFN K O G H (m ds s) Q E
def mCallN (O : Wo) (n : Nat) (m : List D → O.S → R O.S (List D)) (a : MA O) : MA O := fun ρ s => (a ρ s).bind fun xs s1 => if xs.length = n then m xs s1 else .bad
theorem pstN_tr {r : R O.S (List D)} {Q : VK} (t : Tr O.W G H G1 H1) (h : PstN K O Wx σ G H r Q) : PstN K O Wx σ G1 H1 r Q := by
  cases r with
  | ok ds s' => exact fun p vs G' H' t' k n g e r => h p vs G' H' (t.trans t') k (t.dm p n) g e r
  | err c fs s' => exact fun dd xs G' H' t' k e n r => h dd xs G' H' (t.trans t') k e n r
  | bad => exact h
theorem pstN_bind {α β : Type} {rel : Hp → β → α → Prop} {r : R O.S α} {f : α → O.S → R O.S (List D)} {Q : VK} {Q1 : β → Hp → Prop} (h : PstN K O Wx σ G H (r.bind f) Q)
    (k : ∀ a s1, r = .ok a s1 → ∀ v G1 H1, Tr O.W G H G1 H1 → O.ok s1 H1 → rel G1 v a → PstN K O Wx σ G1 H1 (f a s1) Q → Q1 v H1) : Pst K O Wx σ G H rel r Q1 := by
  cases r with
  | ok d s' => exact fun v G' H' t' ko q => k d s' rfl v G' H' t' ko q (pstN_tr t' h)
  | err c fs s' => exact h
  | bad => exact h
theorem call_sndN {n : Nat} {m : List D → O.S → R O.S (List D)} {ta : TA} {ma : MA O} (h : SndA K O Wx ta ma) : SndN K O Wx (tCallS (spN K O n m) (WE Wx) ta) (mCallN O n m ma) := by
  intro σ ρ H0 G H s Q F hq
  refine h σ ρ H0 G H s _ F (pstN_bind hq fun ds s1 _ xs G1 H1 t1 k1 r1 h1 => ?_)
  have F1 := F.tr t1 k1
  by_cases e : ds.length = n
  · rw [if_pos e] at h1
    refine ⟨by rw [r1.length]; exact e, G1, ds, s1, F1.gh, F1.wg, F1.ok, r1, ?_⟩
    revert h1
    cases m ds s1 <;> exact fun h1 => h1
  · rw [if_neg e] at h1
    exact (show False from h1).elim
structure FoN (P : Program) (w : World) (K : PySem.W.Frag) (mg : Str → Option Value) (base : Heap) (O : Wo) (k : Nat) (x : Str) (n : Nat) (m : List D → O.S → R O.S (List D)) : Prop where
  ex : ∃ f fd ps, FnOk P w K mg base (L2.CX P w) k f fd ps (spN K O n m) ∧ mg x = some (.ref f) ∧ PySem.W.keepIn K (.ref f) = true ∧ Binds K fd ps []
theorem dn_call {k j n : Nat} {x : Str} {m : List D → O.S → R O.S (List D)} {e : Expr} {es : List Expr} {ta : TA} {ma : MA O} {p pos : Pos} (F : FoN X.prog X.w X.K X.mg X.base O k x n m) (hr : Room j X.A) (hk : k ≤ j) (ha : DA K O Wx X (e :: es) ta ma)
    (hg : Gl X x := by rfl) (hdb : (x == ("__debug__" : Str)) = false := by decide) (he : starEach (e :: es) X.env = (false, eval e X.env) :: starEach es X.env := by rfl) (hpl : (backTo pos (starEach es X.env)).any (·.1) = false := by rfl) :
    DN K O Wx X (.Call (.Name x p) (e :: es) [] pos) (tCallS (spN K O n m) (WE Wx) ta) (mCallN O n m ma) := by
  obtain ⟨f, fd, ps, Fn, hm, kp, bi⟩ := F.ex
  refine ⟨ha.hK, ha.tk, ?_, call_sndN ha.sn⟩
  have := ha.hK
  subst this
  exact pe_callS Fn (hr.mono hk) hg hm kp bi (fun σ => passAt ha.tk σ) ha.pe hdb he hpl
/-! methods -/
structure FoMN (P : Program) (w : World) (K : PySem.W.Frag) (mg : Str → Option Value) (base : Heap) (O : Wo) (C : Addr) (k : Nat) (x : Str) (n : Nat) (m : List D → O.S → R O.S (List D)) : Prop where
  ex : ∃ f fd ps, FnOk P w K mg base (L2.CX P w) k f fd ps (spN K O n m) ∧ Meth K C x f ∧ Binds K fd ps []
def mMethN (O : Wo) (C : Addr) (x : Str) (n : Nat) (m : List D → O.S → R O.S (List D)) (a : ME O) (b : MA O) : MA O := fun ρ s => (a ρ s).bind fun d s1 => match d with
  | .ins C' fs => if C' = C ∧ (fs.lookup x).isNone = true then (b ρ s1).bind fun ds s2 => if ds.length + 1 = n then m (.ins C' fs :: ds) s2 else .bad else .bad
  | _ => .bad
theorem meth_sndN {C : Addr} {x : Str} {n : Nat} {m : List D → O.S → R O.S (List D)} {te : TE} {ta : TA} {me : ME O} {ma : MA O} (he : SndE K O Wx te me) (h : SndA K O Wx ta ma) : SndN K O Wx (tMethS C x (spN K O n m) (WE Wx) te ta) (mMethN O C x n m me ma) := by
  intro σ ρ H0 G H s Q F hq
  refine he σ ρ H0 G H s _ F (pstN_bind hq fun dx s1 _ v G1 H1 t1 k1 r1 h1 => ?_)
  cases r1 with
  | @ins a0 C' dx' fs' ds' ha hr =>
    dsimp only at h1
    have F1 := F.tr t1 k1
    by_cases hc : C' = C ∧ (ds'.lookup x).isNone = true
    · rw [if_pos hc] at h1
      obtain ⟨hc, hn⟩ := hc
      subst hc
      refine ⟨_, _, _, rfl, t1.gh _ _ ha, RepF.none hr (Option.isNone_iff_eq_none.mp hn), ?_⟩
      refine h σ ρ H0 G1 H1 s1 _ F1 (pstN_bind h1 fun ds s2 _ xs G2 H2 t2 k2 r2 h2 => ?_)
      have F2 := F1.tr t2 k2
      by_cases e : ds.length + 1 = n
      · rw [if_pos e] at h2
        refine ⟨by rw [List.length_cons, r2.length]; exact e, G2, _, s2, F2.gh, F2.wg, F2.ok, .cons (.ins (t2.gg _ _ ha) (hr.mono t2.gg)) r2, ?_⟩
        revert h2
        cases m (.ins C' ds' :: ds) s2 <;> exact fun h2 => h2
      · rw [if_neg e] at h2
        exact (show False from h2).elim
    · rw [if_neg hc] at h1
      exact (show False from h1).elim
  | _ => exact (show False from h1).elim
theorem dn_meth0 {C : Addr} {k j n : Nat} {x cx : Str} {fs : List Str} {m : List D → O.S → R O.S (List D)} {o : Expr} {to : TE} {mo : ME O} {apos pos : Pos} {pl : Sem Bool} (F : FoMN X.prog X.w X.K X.mg X.base O C k x n m) (T : ClT K X.mg cx C fs) (hr : Room j X.A) (hk : k ≤ j) (ho : DE K O Wx X o to mo)
    (ht : eval (.Call (.Attribute o x apos) [] [] pos) X.env = (do
      let ov ← eval o X.env
      standAt apos.atName
      let (f, first) ← holding [ov] (getMethod ov x pl)
      callWith pos f first (backTo pos (starEach [] X.env)) (backToKw pos (keywordEach [] X.env))) := by rfl) :
    DN K O Wx X (.Call (.Attribute o x apos) [] [] pos) (tMethS C x (spN K O n m) (WE Wx) to tNil) (mMethN O C x n m mo (mNil O)) := by
  obtain ⟨f, fd, ps, Fn, hm, bi⟩ := F.ex
  refine ⟨ho.hK, ho.tk, ?_, meth_sndN ho.sn (da_nil ⟨ho.hK, ho.tk⟩).sn⟩
  have := ho.hK
  subst this
  exact pe_mS0 ho.pe T.cl hm Fn (hr.mono hk) bi (fun σ => passAt ho.tk σ) ht
end
section
variable {P : Program} {w : World} {K : PySem.W.Frag} {mg : Str → Option Value} {base : Heap} {O : Wo}
theorem fnN_mk {x qual : Str} {st : Stmt} {f : Addr} {fd : FuncData} {N ps : List Str} {k : Nat} {m : MS O} (F : Fun K x qual st f fd) (S : FnScope N ps (defScope st))
    (hbody : ∀ (cdv : Value) (A : Around) (outer : List Env) (s : Shared) (H : Hp) (E : XK), Room k (A.deeper (envOfC qual (defScope st) s.heap.objs.size f cdv)) →
      Cs K (fun cls d _ H => E cls d H) (cxOf (L2.CX P w) P w K mg base N qual (defScope st) f cdv A outer s H E) →
      ∃ t, DB K O (fun cls d _ H => E cls d H) (cxOf (L2.CX P w) P w K mg base N qual (defScope st) f cdv A outer s H E) (defBody st) t m) : FnOk P w K mg base (L2.CX P w) (k + 1) f fd ps (spN K O ps.length (runN O N.length m)) := by
  refine F.okX S (fun vs H Q E h => h.1) (fun cdv A outer s H vs Q E hr h => ?_)
  obtain ⟨hl, G, ds, s0, g, wg, ok, r, q⟩ := h
  have tk : Takes (cxOf (L2.CX P w) P w K mg base N qual (defScope st) f cdv A outer s H E) (fun cls d _ H => E cls d H) := takes_of rfl rfl rfl rfl
  obtain ⟨t, hd⟩ := hbody cdv A outer s H E hr ⟨⟨rfl, tk⟩, passes_of rfl, rfl, S.nd⟩
  refine ⟨t, hd.pe, hd.sn G H _ _ G H s0 _ ⟨start_fm g wg ok rfl r, .refl g⟩ ?_⟩
  unfold runN at q
  revert q
  cases m (ds.map .sh ++ List.replicate (N.length - ds.length) .no) s0 with
  | nx ρ s1 => exact fun q => q.elim
  | rt d s1 => exact fun q => q.elim
  | rn ds s1 => exact fun q p vs G' H' e t' k' n g hp r' => q p vs G' H' t' k' n g hp r'
  | err c fs ρ s1 => exact fun q σ' dd xs G' H' e F' a b c' => q dd xs G' H' F'.tr F'.fm.ok a b c'
  | bk ρ s1 => exact fun q => q.elim
  | ct ρ s1 => exact fun q => q.elim
  | bad => exact fun q => q.elim
end
end Mr

namespace Mr
open PySem PySem.Spec PyProof.Rows L2 RZ
/-! ### list(an iterator without a length), with an invariant -/
abbrev lstO (acc : Array Value) (c : Nat) : Obj := { cls := .type "list", dict := none, data := .seq acc c, slots := #[] }
/-- how an iterator I fills a list at S: J before each turn, Fin at the end -/
structure Fill (prog : Program) (w : World) (A : Around) (S I : Addr) (T : String) (n : Nat) (J : Nat → Array Value → Heap → Prop) (Fin : Array Value → Heap → Prop) : Prop where
  ne : S ≠ I
  ty : ∀ i acc h, J i acc h → ∃ o, h.get? I = some o ∧ o.cls = .type T
  sz : ∀ i acc h, J i acc h → acc.size = i
  st : ∀ i acc h h', J i acc h → (∀ b, b ≠ S → h'.get? b = h.get? b) → h'.objs.size = h.objs.size → J i acc h'
  item : ∀ i acc (s : Shared) c (Q : Option Value → Shared → Prop) (E : Value → Shared → Prop), i < n → J i acc s.heap → s.heap.get? S = some (lstO acc c) →
    (∀ v h', J (i + 1) (acc.push v) h' → h'.get? S = some (lstO acc c) → Q (some v) { s with heap := h' }) → wpAny (model prog w) A (pyNext (.ref I)) Q E s
  done : ∀ acc (s : Shared) c (Q : Option Value → Shared → Prop) (E : Value → Shared → Prop), J n acc s.heap → s.heap.get? S = some (lstO acc c) →
    (∀ h', Fin acc h' → h'.get? S = some (lstO acc c) → Q none { s with heap := h' }) → wpAny (model prog w) A (pyNext (.ref I)) Q E s
  self : ∀ i acc (s : Shared) (Q : Value → Shared → Prop) (E : Value → Shared → Prop), J i acc s.heap → Q (.ref I) s → wpAny (model prog w) A (pyIter (.ref I)) Q E s
section
variable {prog : Program} {w : World} {A : Around} {R : Result → Shared → Prop} {S I : Addr} {T : String} {n : Nat} {J : Nat → Array Value → Heap → Prop} {Fin : Array Value → Heap → Prop}
theorem fill_loop (W : Fill prog w A.in1 S I T n J Fin) (hn : n ≤ sizeLine) (res : Value) :
    ∀ (k i : Nat) (s : Shared) (acc : Array Value) (c : Nat), n - i = k → i ≤ n → J i acc s.heap → s.heap.get? S = some (lstO acc c) →
    (∀ h' acc' c', Fin acc' h' → h'.get? S = some (lstO acc' c') → R (.ok (.ret res)) { s with heap := h' }) →
    codeAny (model prog w) A (.builtin "list.extend.loop" ⟨[.ref S, .ref I, res], []⟩) R s := by
  intro k
  induction k with
  | zero =>
    intro i s acc c hk hi hst hS hR
    have hin : i = n := by omega
    subst hin
    refine codeAny_builtin F.entry_extend_loop ?_
    rw [Around.under_plainId F.plain_extend_loop _]
    show wpAny _ A.in1 (pyNext (.ref I) >>= _) _ _ s
    exact wpAny_bind (W.done acc s c _ _ hst hS fun h' f hS' => wpAny_pure (hR h' acc c f hS'))
  | succ k ih =>
    intro i s acc c hk hi hst hS hR
    have hlt : i < n := by omega
    have hz := W.sz i acc _ hst
    refine codeAny_builtin F.entry_extend_loop ?_
    rw [Around.under_plainId F.plain_extend_loop _]
    show wpAny _ A.in1 (pyNext (.ref I) >>= _) _ _ s
    refine wpAny_bind (W.item i acc s c _ _ hlt hst hS fun v h' hJ hS' => ?_)
    show wpAny _ A.in1 (updateSeq S (·.push v) >>= _) _ _ _
    refine wpAny_bind ?_
    refine wpAny_updateSeq hS' rfl (wpAny_pure ⟨plainId_quiet F.plain_extend_loop _, ih (i + 1) _ (acc.push v) _ (by omega) hlt (W.st _ _ _ _ hJ (fun b hb => Heap.get?_update_other _ _ (Ne.symm hb)) (Heap.SameBut.update ..).1) (Heap.get?_update_self _ hS' rfl) fun h'' acc' c' f hS'' => hR h'' acc' c' f hS''⟩) (by rw [hz]; omega) (by show (acc.push v).size ≤ sizeLine + 1; rw [Array.size_push, hz]; omega)
theorem fill_extend (W : Fill prog w A.in1 S I T n J Fin) (hT1 : (Value.type T == Value.type "list") = false) (hT2 : (Value.type T == Value.type "tuple") = false) (nolen : typeLookup (.type T) "__len__" = pure none) (nohint : typeLookup (.type T) "__length_hint__" = pure none) (hn : n ≤ sizeLine) (res : Value) {s : Shared} {c₀ : Nat} (hst : J 0 #[] s.heap)
    (hS : s.heap.get? S = some (lstO #[] c₀)) (hR : ∀ h' acc' c', Fin acc' h' → h'.get? S = some (lstO acc' c') → R (.ok (.ret res)) { s with heap := h' }) :
    wpAny (model prog w) A.in1 (Builtin.List.listExtendWith (.ref S) (.ref I) res)
      (fun fin s' => match fin with | .done f => R (.ok f) s' | .again c' => c'.quiet = true ∧ codeAny (model prog w) A c' R s') (fun e s' => R (.error e) s') s := by
  have ht : s.TypeIs (.ref I) T := W.ty 0 _ _ hst
  unfold Builtin.List.listExtendWith
  refine wpAny_bind (wpAny_typeOf ht ?_)
  have h1 : Builtin.List.listSameRef (.ref S) (.ref I) = false := by simp [Builtin.List.listSameRef, W.ne]
  simp only [h1, hT1, hT2, Bool.or_false, Bool.false_eq_true, if_false]
  refine wpAny_bind (W.self 0 _ _ _ _ hst ?_)
  refine wpAny_bind (wpAny_holding ?_)
  unfold Builtin.List.listLengthHint
  refine wpAny_bind (wpAny_specialOf ht nolen ?_)
  show wpAny _ A.in1 (specialOf (Value.ref I) (Str.ofString "__length_hint__") >>= _) _ _ _
  refine wpAny_bind (wpAny_specialOf ht nohint ?_)
  refine wpAny_pure ?_
  show wpAny _ A.in1 (rule "list.extend.makes-room" >>= fun _ => Builtin.List.listTouch (.ref S) >>= fun _ =>
    again (.builtin "list.extend.loop" ⟨[.ref S, .ref I, res], []⟩)) _ _ _
  refine wpAny_bind (wpAny_rule ?_)
  refine wpAny_bind ?_
  show wpAny _ A.in1 (updateSeq S (·.push .none) >>= fun _ => updateSeq S (·.pop)) _ _ _
  refine wpAny_bind (wpAny_updateSeq hS rfl ?_)
  have hS₂ := Heap.get?_update_self (Obj.mapSeq (·.push Value.none)) hS rfl
  refine wpAny_updateSeq (hz := by seq_fits) hS₂ rfl ?_
  have hS₃ := Heap.get?_update_self (Obj.mapSeq (·.pop)) hS₂ rfl
  refine wpAny_pure ⟨plainId_quiet F.plain_extend_loop _, fill_loop W hn _ n 0 _ _ _ rfl (Nat.zero_le _) (W.st _ _ _ _ hst (fun b hb => (Heap.get?_update_other _ _ (Ne.symm hb)).trans (Heap.get?_update_other _ _ (Ne.symm hb))) ?_) hS₃ fun h' acc' c' f hS' => hR h' acc' c' f hS'⟩
  exact (Heap.SameBut.update ..).1.trans (Heap.SameBut.update ..).1
theorem fill_init (W : Fill prog w A.in1 S I T n J Fin) (hT1 : (Value.type T == Value.type "list") = false) (hT2 : (Value.type T == Value.type "tuple") = false) (nolen : typeLookup (.type T) "__len__" = pure none) (nohint : typeLookup (.type T) "__length_hint__" = pure none) (hn : n ≤ sizeLine) {s : Shared} (hst : J 0 #[] s.heap)
    (hS : s.heap.get? S = some { cls := .type "list", data := .seq #[] }) (hR : ∀ h' acc' c', Fin acc' h' → h'.get? S = some (lstO acc' c') → R (.ok (.ret .none)) { s with heap := h' }) :
    wpAny (model prog w) A.in1 (Builtin.«list.__init__» ⟨[.ref S, .ref I], []⟩)
      (fun fin s' => match fin with | .done f => R (.ok f) s' | .again c' => c'.quiet = true ∧ codeAny (model prog w) A c' R s') (fun e s' => R (.error e) s') s := by
  show wpAny _ A.in1 (do let old ← Builtin.List.listItems (.ref S); Builtin.List.listUpdate (.ref S) (fun _ => #[]); letGo old.toList.reverse; Builtin.List.listExtendWith (.ref S) (.ref I) .none) _ _ s
  refine wpAny_bind ?_
  unfold Builtin.List.listItems
  refine wpAny_bind (wpAny_seqItems hS rfl (wpAny_pure ?_))
  show wpAny _ A.in1 (updateSeq S (fun _ => #[]) >>= fun _ => letGo (#[] : Array Value).toList.reverse >>= fun _ => Builtin.List.listExtendWith (.ref S) (.ref I) .none) _ _ s
  refine wpAny_bind (wpAny_updateSeq hS rfl ?_)
  have hS₂ := Heap.get?_update_self (Obj.mapSeq (fun _ => (#[] : Array Value))) hS rfl
  refine wpAny_bind (wpAny_letGo ?_)
  exact fill_extend W hT1 hT2 nolen nohint hn .none (W.st _ _ _ _ hst (fun b hb => Heap.get?_update_other _ _ (Ne.symm hb)) (Heap.SameBut.update ..).1) hS₂ fun h' acc' c' f hS' => hR h' acc' c' f hS'
end
theorem nolen_zip : typeLookup (.type "zip") "__len__" = pure none := by rw [typeLookup_type, builtinLookup_eq_fast]; kernel_rfl
theorem nohint_zip : typeLookup (.type "zip") "__length_hint__" = pure none := by rw [typeLookup_type, builtinLookup_eq_fast]; kernel_rfl
theorem call_list_zip {prog : Program} {w : World} {A : Around} {E : Value → Shared → Prop} {s : Shared} {I : Addr} {n : Nat} {J : Nat → Array Value → Heap → Prop} {Fin : Array Value → Heap → Prop} {Q : Value → Shared → Prop}
    (W : Fill prog w A.in1.in1 s.heap.objs.size I "zip" n J Fin) (hn : n ≤ sizeLine) (hst : J 0 #[] (s.heap.push { cls := .type "list", data := .seq #[] }))
    (hQ : ∀ h' acc' c', Fin acc' h' → h'.get? s.heap.objs.size = some (lstO acc' c') → Q (.ref s.heap.objs.size) { s with heap := h' }) :
    wpAny (model prog w) A (call (.type "list") [.ref I]) Q E s := by
  refine callType_codes (Q₁ := fun obj s₁ => obj = .ref s.heap.objs.size ∧ s₁ = { s with heap := s.heap.push { cls := .type "list", data := .seq #[] } }) F.called_list (F.typeCall_list_1 _) F.entry_list_init
    (code_list_new _ ⟨rfl, rfl⟩) fun obj s₁ h₁ => ?_
  obtain ⟨rfl, rfl⟩ := h₁
  have hS : (s.heap.push { cls := .type "list", data := .seq #[] }).get? s.heap.objs.size = some { cls := .type "list", data := .seq #[] } := Heap.get?_push_size _ rfl
  exact ⟨⟨_, hS, rfl⟩, F.args_list_init_2 _ _, fill_init (A := A.in1) W (by decide) (by decide) nolen_zip nohint_zip hn hst hS fun h' acc' c' f hS' => ⟨rfl, hQ h' acc' c' f hS'⟩⟩
end Mr

namespace Mr
open PySem PySem.Spec PyProof.Rows L2 RZ
/-! ### the next tuple of a zip whose last tuple is still held -/
abbrev IsZipF (h : Heap) (z TI TO a0 : Addr) (f : Bool) : Prop :=
  h.get? z = some { cls := .type "zip", dict := none, data := .fields #[rawInt a0, .bool f, .bool false, .ref TI, .ref TO], slots := #[] }
section
variable {prog : Program} {w : World} {A : Around} {E : Value → Shared → Prop}
theorem zloop2_item {σ : Type} {enc : Array Value → σ} {b : Value → σ → Sem (ForInStep σ)} {i : Nat}
    (hb : ∀ (s : Shared) (r : Sr) (x : Value) (items acc : Array Value) (Q : ForInStep σ → Shared → Prop), It01 r.k s.heap r.it r.l i → Sq01 r.k s.heap r.l items → items[i]? = some x →
      (∀ h', It01 r.k h' r.it r.l (i + 1) → Heap.SameBut r.it s.heap h' → Q (.yield (enc (acc.push x))) { s with heap := h' }) → wpAny (model prog w) A (b (.ref r.it) (enc acc)) Q E s) :
    ∀ (rs : List Sr) (xs : List Value) (acc : Array Value) (s : Shared) (Q : σ → Shared → Prop), AtI s.heap i rs xs → (rs.Pairwise fun a b => a.it ≠ b.it) → (∀ r ∈ rs, ∀ q ∈ rs, r.l ≠ q.it) →
      (∀ h', (∀ r ∈ rs, It01 r.k h' r.it r.l (i + 1)) → (∀ c, (∀ r ∈ rs, c ≠ r.it) → h'.get? c = s.heap.get? c) → h'.objs.size = s.heap.objs.size → Q (enc (acc ++ xs.toArray)) { s with heap := h' }) →
      wpAny (model prog w) A (forIn (rs.map fun r => Value.ref r.it) (enc acc) b) Q E s := by
  intro rs
  induction rs with
  | nil =>
    intro xs acc s Q hat _ _ hQ
    cases hat
    simp only [List.map_nil, List.forIn_nil]
    refine wpAny_pure ?_
    have := hQ s.heap (fun r hr => absurd hr List.not_mem_nil) (fun _ _ => rfl) rfl
    simpa using this
  | cons r rs ih =>
    intro xs acc s Q hat pw li hQ
    obtain ⟨x, xs, items, rfl, h1, h2, h3, h4⟩ : ∃ x xs' items, xs = x :: xs' ∧ It01 r.k s.heap r.it r.l i ∧ Sq01 r.k s.heap r.l items ∧ items[i]? = some x ∧ AtI s.heap i rs xs' := by
      cases hat with
      | cons h1 h2 h3 h4 => exact ⟨_, _, _, rfl, h1, h2, h3, h4⟩
    simp only [List.map_cons, List.forIn_cons]
    have pr : ∀ {q : Sr}, q ∈ rs → r.it ≠ q.it := fun hq => List.rel_of_pairwise_cons pw hq
    refine wpAny_bind (hb s r x items acc _ h1 h2 h3 fun h' i1 sb => ?_)
    refine ih xs (acc.push x) { s with heap := h' } Q (h4.keep fun q hq => ⟨fun o e => ?_, fun o e => ?_⟩) (List.Pairwise.of_cons pw) (fun q hq q2 hq2 => li q (List.mem_cons_of_mem _ hq) q2 (List.mem_cons_of_mem _ hq2)) fun h'' i2 f2 z2 => ?_
    · rw [sb.2 _ (pr hq).symm]; exact e
    · rw [sb.2 _ (li q (List.mem_cons_of_mem _ hq) r List.mem_cons_self)]; exact e
    · have ea : acc.push x ++ xs.toArray = acc ++ (x :: xs).toArray := by
        apply Array.toList_inj.mp
        simp
      rw [ea]
      refine hQ h'' (fun q hq => ?_) (fun c c2 => ?_) (z2.trans sb.1)
      · rcases List.mem_cons.mp hq with rfl | hq
        · exact i1.at fun o e => by rw [f2 _ fun q2 hq2 => pr hq2]; exact e
        · exact i2 q hq
      · rw [f2 c fun q hq => c2 q (List.mem_cons_of_mem _ hq)]
        exact sb.2 c (c2 r List.mem_cons_self)
theorem zloop2_end {σ : Type} {enc : Array Value → σ} {b : Value → σ → Sem (ForInStep σ)} {i : Nat}
    (hb : ∀ (s : Shared) (r : Sr) (x : Value) (items acc : Array Value) (Q : ForInStep σ → Shared → Prop), It01 r.k s.heap r.it r.l i → Sq01 r.k s.heap r.l items → items[i]? = some x →
      (∀ h', It01 r.k h' r.it r.l (i + 1) → Heap.SameBut r.it s.heap h' → Q (.yield (enc (acc.push x))) { s with heap := h' }) → wpAny (model prog w) A (b (.ref r.it) (enc acc)) Q E s)
    (he : ∀ (s : Shared) (r : Sr) (items acc : Array Value) (Q : ForInStep σ → Shared → Prop), It01 r.k s.heap r.it r.l i → Sq01 r.k s.heap r.l items → items[i]? = none →
      (∀ h' e, Heap.ExtBut r.it s.heap h' → (∃ o, h'.get? e = some o ∧ o.cls = .type "StopIteration") → E (.ref e) { s with heap := h' }) → wpAny (model prog w) A (b (.ref r.it) (enc acc)) Q E s) :
    ∀ (rs : List Sr) (acc : Array Value) (s : Shared) (Q : σ → Shared → Prop), EndI s.heap i rs → (rs.Pairwise fun a b => a.it ≠ b.it) → (∀ r ∈ rs, ∀ q ∈ rs, r.l ≠ q.it) →
      (∀ h' e, (∀ c o, (∀ r ∈ rs, c ≠ r.it) → s.heap.get? c = some o → h'.get? c = some o) → (∃ o, h'.get? e = some o ∧ o.cls = .type "StopIteration") → E (.ref e) { s with heap := h' }) →
      wpAny (model prog w) A (forIn (rs.map fun r => Value.ref r.it) (enc acc) b) Q E s := by
  intro rs
  induction rs with
  | nil =>
    intro acc s Q hat
    cases hat
  | cons r rs ih =>
    intro acc s Q hat pw li hE
    have hat : (∃ items, It01 r.k s.heap r.it r.l i ∧ Sq01 r.k s.heap r.l items ∧ items[i]? = none) ∨ (∃ items x, It01 r.k s.heap r.it r.l i ∧ Sq01 r.k s.heap r.l items ∧ items[i]? = some x ∧ EndI s.heap i rs) := by
      cases hat with
      | here h1 h2 h3 => exact .inl ⟨_, h1, h2, h3⟩
      | next h1 h2 h3 h4 => exact .inr ⟨_, _, h1, h2, h3, h4⟩
    simp only [List.map_cons, List.forIn_cons]
    have pr : ∀ {q : Sr}, q ∈ rs → r.it ≠ q.it := fun hq => List.rel_of_pairwise_cons pw hq
    rcases hat with ⟨items, h1, h2, h3⟩ | ⟨items, x, h1, h2, h3, h4⟩
    · exact wpAny_bind (he s r items acc _ h1 h2 h3 fun h' e f st => hE h' e (fun c o c3 q => f c o (c3 r List.mem_cons_self) q) st)
    refine wpAny_bind (hb s r x items acc _ h1 h2 h3 fun h' i1 sb => ?_)
    refine ih (acc.push x) { s with heap := h' } Q (h4.keep fun q hq => ⟨fun o e => ?_, fun o e => ?_⟩) (List.Pairwise.of_cons pw) (fun q hq q2 hq2 => li q (List.mem_cons_of_mem _ hq) q2 (List.mem_cons_of_mem _ hq2)) fun h'' e f st => ?_
    · rw [sb.2 _ (pr hq).symm]; exact e
    · rw [sb.2 _ (li q (List.mem_cons_of_mem _ hq) r List.mem_cons_self)]; exact e
    · refine hE h'' e (fun c o c3 q => f c o (fun q2 hq2 => c3 q2 (List.mem_cons_of_mem _ hq2)) ?_) st
      rw [sb.2 c (c3 r List.mem_cons_self)]
      exact q
variable {s : Shared}
theorem free_no {z TI TO a0 : Addr} {f : Bool} {oa : Obj} {Q : Bool → Shared → Prop} (hz : IsZipF s.heap z TI TO a0 f) (ha : s.heap.get? a0 = some oa)
    (hk : ∀ h', IsZipF h' z TI TO a0 true → Heap.SameBut z s.heap h' → Q false { s with heap := h' }) : wpAny (model prog w) A (Builtin.SmallTypes.ownedTupleIsFree (.ref z)) Q E s := by
  unfold Builtin.SmallTypes.ownedTupleIsFree
  refine wpAny_bind (wpAny_field hz rfl (x := rawInt a0) rfl ?_)
  show wpAny _ _ (loadIfAlive ((a0 : Int).toNat) >>= _) _ _ _
  rw [Int.toNat_natCast]
  refine wpAny_bind (PySem.W.kdx_alive ha ?_)
  simp only [Option.isNone_some, Bool.false_eq_true, if_false]
  refine wpAny_bind (wpAny_field hz rfl (x := .bool f) rfl ?_)
  cases f with
  | true =>
    rw [if_neg (show ¬ ((Value.bool true != Value.bool true) = true) from Bool.false_ne_true)]
    exact wpAny_pure (hk s.heap hz (Heap.SameBut.refl _ _))
  | false =>
    rw [if_pos (show (Value.bool false != Value.bool true) = true from rfl)]
    exact wpAny_bind (wpAny_setField_rec hz (by simp) fun h₃ he₃ hs₃ => wpAny_pure (hk h₃ he₃ hs₃))
abbrev frF (z : Addr) (src : List Sr) (h h' : Heap) : Prop := ∀ c o, c ≠ z → (∀ r ∈ src, c ≠ r.it) → h.get? c = some o → h'.get? c = some o
theorem zipF_next_item {z TI TO a0 : Addr} {f : Bool} {oa : Obj} {r0 : Sr} {rs : List Sr} {xs : List Value} {i : Nat} {Q : Value → Shared → Prop} (ap : Apart z TI TO (r0 :: rs))
    (hz : IsZipF s.heap z TI TO a0 f) (ha : s.heap.get? a0 = some oa) (hTI : s.heap.get? TI = some (tupO ((r0 :: rs).map fun r => Value.ref r.it).toArray)) (hkl : (r0 :: rs).length ≤ 1000) (hat : AtI s.heap i (r0 :: rs) xs)
    (hQ : ∀ h', IsZipF h' z TI TO a0 true → (∀ r ∈ (r0 :: rs), It01 r.k h' r.it r.l (i + 1)) → h'.get? s.heap.objs.size = some (tupO xs.toArray) → h'.objs.size = s.heap.objs.size + 1 → frF z (r0 :: rs) s.heap h' → Q (.ref s.heap.objs.size) { s with heap := h' }) :
    wpAny (model prog w) A (Builtin.«zip.__next__» ⟨[.ref z], []⟩) (fun fin s' => ∃ v, fin = .done (.ret v) ∧ Q v s') E s := by
  have hxl := hat.length
  show wpAny _ _ (field (.ref z) 2 >>= _) _ _ _
  refine wpAny_bind (wpAny_field hz rfl (x := .bool false) rfl ?_)
  show wpAny _ _ (field (.ref z) 3 >>= _) _ _ _
  refine wpAny_bind (wpAny_field hz rfl (x := .ref TI) rfl ?_)
  refine wpAny_bind (wpAny_seqItems hTI rfl ?_)
  show wpAny _ _ (Builtin.SmallTypes.ownedTupleIsFree (.ref z) >>= _) _ _ _
  refine wpAny_bind (free_no hz ha fun h₁ hz₁ hs₁ => ?_)
  have e₁ : ∀ c o, c ≠ z → s.heap.get? c = some o → h₁.get? c = some o := fun c o hc e => by rw [hs₁.2 c hc]; exact e
  simp only [Bool.false_eq_true, if_false, List.forIn_toArray]
  refine wpAny_bind ?_
  refine zloop2_item (i := i) (σ := Option Fin × Array Value) (enc := fun a => (none, a)) ?_ (r0 :: rs) xs #[] { s with heap := h₁ } _ (hat.keep fun r hr => ⟨fun o => e₁ _ o (ap.it r hr).1, fun o => e₁ _ o (ap.it r hr).2.2.2.1⟩) ap.its ap.lit ?_
  · intro s r x items acc Q h1 h2 h3 hQ
    refine wpAny_bind (wpAny_holding ?_)
    show wpAny _ _ (Builtin.SmallTypes.nextOf (.ref r.it) >>= _) _ _ _
    exact wpAny_bind (next01_item h1 h2 h3 fun h' i1 sb => wpAny_pure (wpAny_pure (hQ h' i1 sb)))
  intro h₅ i5 f5 z5
  have zs : ∀ r ∈ r0 :: rs, z ≠ r.it := fun r hr => (ap.it r hr).1.symm
  have hz₅ : IsZipF h₅ z TI TO a0 true := (f5 z zs).trans hz₁
  have hsz : h₅.objs.size = s.heap.objs.size := z5.trans hs₁.1
  have ex : (#[] : Array Value) ++ xs.toArray = xs.toArray := by simp
  rw [ex]
  refine wpAny_bind (wpAny_newTuple ?_)
  refine wpAny_pure ⟨_, rfl, ?_⟩
  show Q (.ref h₅.objs.size) _
  rw [hsz]
  refine hQ _ (Heap.get?_push_of_some _ hz₅) (fun r hr => (i5 r hr).at fun o e => Heap.get?_push_of_some _ e) ?_ ?_ fun c o c1 c3 e => Heap.get?_push_of_some _ ?_
  · rw [← hsz]
    exact Heap.get?_push_size _ rfl
  · rw [Heap.size_push, hsz]
  · rw [f5 c c3]
    exact e₁ c o c1 e
theorem zipF_next_end {z TI TO a0 : Addr} {f : Bool} {oa : Obj} {r0 : Sr} {rs : List Sr} {i : Nat} {Q : Fin → Shared → Prop} (hh : A.handled = none) (ap : Apart z TI TO (r0 :: rs))
    (hz : IsZipF s.heap z TI TO a0 f) (ha : s.heap.get? a0 = some oa) (hTI : s.heap.get? TI = some (tupO ((r0 :: rs).map fun r => Value.ref r.it).toArray)) (hat : EndI s.heap i (r0 :: rs))
    (hE : ∀ h' e, frF z (r0 :: rs) s.heap h' → (∃ o, h'.get? e = some o ∧ o.cls = .type "StopIteration") → E (.ref e) { s with heap := h' }) :
    wpAny (model prog w) A (Builtin.«zip.__next__» ⟨[.ref z], []⟩) Q E s := by
  show wpAny _ _ (field (.ref z) 2 >>= _) _ _ _
  refine wpAny_bind (wpAny_field hz rfl (x := .bool false) rfl ?_)
  show wpAny _ _ (field (.ref z) 3 >>= _) _ _ _
  refine wpAny_bind (wpAny_field hz rfl (x := .ref TI) rfl ?_)
  refine wpAny_bind (wpAny_seqItems hTI rfl ?_)
  show wpAny _ _ (Builtin.SmallTypes.ownedTupleIsFree (.ref z) >>= _) _ _ _
  refine wpAny_bind (free_no hz ha fun h₁ hz₁ hs₁ => ?_)
  have e₁ : ∀ c o, c ≠ z → s.heap.get? c = some o → h₁.get? c = some o := fun c o hc e => by rw [hs₁.2 c hc]; exact e
  simp only [Bool.false_eq_true, if_false, List.forIn_toArray]
  refine wpAny_bind ?_
  refine zloop2_end (i := i) (σ := Option Fin × Array Value) (enc := fun a => (none, a)) ?_ ?_ (r0 :: rs) #[] { s with heap := h₁ } _ (hat.keep fun r hr => ⟨fun o => e₁ _ o (ap.it r hr).1, fun o => e₁ _ o (ap.it r hr).2.2.2.1⟩) ap.its ap.lit ?_
  · intro s r x items acc Q h1 h2 h3 hQ
    refine wpAny_bind (wpAny_holding ?_)
    show wpAny _ _ (Builtin.SmallTypes.nextOf (.ref r.it) >>= _) _ _ _
    exact wpAny_bind (next01_item h1 h2 h3 fun h' i1 sb => wpAny_pure (wpAny_pure (hQ h' i1 sb)))
  · intro s r items acc Q h1 h2 h3 hE
    refine wpAny_bind (wpAny_holding ?_)
    show wpAny _ _ (Builtin.SmallTypes.nextOf (.ref r.it) >>= _) _ _ _
    exact wpAny_bind (next01_end hh h1 h2 h3 hE)
  · exact fun h' e f st => hE h' e (fun c o c1 c3 q => f c o c3 (e₁ c o c1 q)) st
theorem pyNext_zipF_item {z TI TO a0 : Addr} {f : Bool} {oa : Obj} {r0 : Sr} {rs : List Sr} {xs : List Value} {i : Nat} {Q : Option Value → Shared → Prop} (ap : Apart z TI TO (r0 :: rs))
    (hz : IsZipF s.heap z TI TO a0 f) (ha : s.heap.get? a0 = some oa) (hTI : s.heap.get? TI = some (tupO ((r0 :: rs).map fun r => Value.ref r.it).toArray)) (hkl : (r0 :: rs).length ≤ 1000) (hat : AtI s.heap i (r0 :: rs) xs)
    (hQ : ∀ h', IsZipF h' z TI TO a0 true → (∀ r ∈ (r0 :: rs), It01 r.k h' r.it r.l (i + 1)) → h'.get? s.heap.objs.size = some (tupO xs.toArray) → h'.objs.size = s.heap.objs.size + 1 → frF z (r0 :: rs) s.heap h' → Q (some (.ref s.heap.objs.size)) { s with heap := h' }) :
    wpAny (model prog w) A (pyNext (.ref z)) Q E s := by
  have hT : s.TypeIs (.ref z) "zip" := ⟨_, hz, rfl⟩
  unfold pyNext
  exact wpAny_bind (wpAny_attempt (wpAny_callSpecial?_slot (name := Str.ofString "__next__") hT F.slot_zip_next
    (wpAny_call_entry F.slot_zip_next hT F.entry_zip_next
      (zipF_next_item ap hz ha hTI hkl hat fun h' a1 a2 a3 a4 a5 => wpAny_pure (hQ h' a1 a2 a3 a4 a5)) (F.args_zip_next_1 _))))
theorem pyNext_zipF_end {z TI TO a0 : Addr} {f : Bool} {oa : Obj} {r0 : Sr} {rs : List Sr} {i : Nat} {Q : Option Value → Shared → Prop} (hh : A.handled = none) (ap : Apart z TI TO (r0 :: rs))
    (hz : IsZipF s.heap z TI TO a0 f) (ha : s.heap.get? a0 = some oa) (hTI : s.heap.get? TI = some (tupO ((r0 :: rs).map fun r => Value.ref r.it).toArray)) (hat : EndI s.heap i (r0 :: rs))
    (hQ : ∀ h', frF z (r0 :: rs) s.heap h' → Q none { s with heap := h' }) : wpAny (model prog w) A (pyNext (.ref z)) Q E s := by
  have hT : s.TypeIs (.ref z) "zip" := ⟨_, hz, rfl⟩
  unfold pyNext
  refine wpAny_bind (wpAny_attempt (wpAny_callSpecial?_slot (name := Str.ofString "__next__") hT F.slot_zip_next
    (wpAny_call_entry F.slot_zip_next hT F.entry_zip_next (zipF_next_end hh ap hz ha hTI hat fun h' e hk he => ?_) (F.args_zip_next_1 _))))
  obtain ⟨o, ho, hc⟩ := he
  refine wpAny_bind (wpAny_isInstance (T := "StopIteration") (b := true) ⟨o, ho, hc⟩ isSubtype_stop ?_)
  exact wpAny_pure (hQ _ hk)
end
end Mr

namespace Mr
open PySem PySem.Spec PyProof.Rows L2 RZ
/-! ### list(zip(a, b)) fills a list -/
structure ZJs (hb : Heap) (S z TI TO : Addr) (r1 r2 : Sr) (xs ys : Array Value) (i : Nat) (acc : Array Value) (h : Heap) (as : List Addr) : Prop where
  ac : acc.toList = as.map Value.ref
  ln : as.length = i
  zs : (i = 0 ∧ IsZip h z TI TO .none ∧ ∃ kept : Array Value, kept.size = 2 ∧ h.get? TO = some (tupO kept)) ∨ (∃ a0 f, a0 ∈ as ∧ IsZipF h z TI TO a0 f)
  ti : h.get? TI = some (tupO #[.ref r1.it, .ref r2.it])
  i1 : It01 r1.k h r1.it r1.l i
  i2 : It01 r2.k h r2.it r2.l i
  fr : ∀ c o, c ≠ z → c ≠ TO → c ≠ r1.it → c ≠ r2.it → c ≠ S → hb.get? c = some o → h.get? c = some o
  rw : ∀ (j : Nat) a, as[j]? = some a → ∃ x y, xs[j]? = some x ∧ ys[j]? = some y ∧ h.get? a = some (tupO #[x, y])
  up : as.Pairwise (fun a b => @LT.lt Nat _ a b)
  ab : ∀ a ∈ as, @LT.lt Nat _ S a ∧ @LT.lt Nat _ a h.objs.size
  sS : @LT.lt Nat _ S h.objs.size
structure ZB (hb : Heap) (S z TI TO : Addr) (r1 r2 : Sr) (xs ys : Array Value) : Prop where
  D : Apart z TI TO [r1, r2]
  q1 : Sq01 r1.k hb r1.l xs
  q2 : Sq01 r2.k hb r2.l ys
  lt : @LT.lt Nat _ z S ∧ @LT.lt Nat _ TI S ∧ @LT.lt Nat _ TO S ∧ @LT.lt Nat _ r1.it S ∧ @LT.lt Nat _ r2.it S ∧ @LT.lt Nat _ r1.l S ∧ @LT.lt Nat _ r2.l S
theorem ltA {a b : Nat} (h : a < b) : @Ne Addr a b := Nat.ne_of_lt h
section
variable {hb : Heap} {S z TI TO : Addr} {r1 r2 : Sr} {xs ys : Array Value} {i : Nat} {acc : Array Value} {h : Heap} {as : List Addr}
theorem ZJs.sq (B : ZB hb S z TI TO r1 r2 xs ys) (j : ZJs hb S z TI TO r1 r2 xs ys i acc h as) : Sq01 r1.k h r1.l xs ∧ Sq01 r2.k h r2.l ys := by
  have m1 : r1 ∈ [r1, r2] := List.mem_cons_self
  have m2 : r2 ∈ [r1, r2] := List.mem_cons_of_mem _ List.mem_cons_self
  obtain ⟨_, _, _, l1, l2⟩ := B.D.it r1 m1
  obtain ⟨_, _, _, l3, l4⟩ := B.D.it r2 m2
  exact ⟨B.q1.at fun o e => j.fr _ o l1 l2 (B.D.lit r1 m1 r1 m1) (B.D.lit r1 m1 r2 m2) (ltA B.lt.2.2.2.2.2.1) e, B.q2.at fun o e => j.fr _ o l3 l4 (B.D.lit r2 m2 r1 m1) (B.D.lit r2 m2 r2 m2) (ltA B.lt.2.2.2.2.2.2) e⟩
theorem ZJs.stay (B : ZB hb S z TI TO r1 r2 xs ys) (j : ZJs hb S z TI TO r1 r2 xs ys i acc h as) {h' : Heap} (e : ∀ b, b ≠ S → h'.get? b = h.get? b) (ez : h'.objs.size = h.objs.size) : ZJs hb S z TI TO r1 r2 xs ys i acc h' as := by
  obtain ⟨z1, z2, z3, z4, z5, _, _⟩ := B.lt
  refine ⟨j.ac, j.ln, ?_, (e _ (ltA z2)).trans j.ti, j.i1.at fun o q => (e _ (ltA z4)).trans q, j.i2.at fun o q => (e _ (ltA z5)).trans q, fun c o c1 c2 c3 c4 c5 q => (e _ c5).trans (j.fr c o c1 c2 c3 c4 c5 q), fun k a ha => ?_, j.up, fun a ha => by rw [ez]; exact j.ab a ha, by rw [ez]; exact j.sS⟩
  · rcases j.zs with ⟨h0, hz, kept, hk, hT⟩ | ⟨a0, f, ha, hz⟩
    · exact .inl ⟨h0, (e _ (ltA z1)).trans hz, kept, hk, (e _ (ltA z3)).trans hT⟩
    · exact .inr ⟨a0, f, ha, (e _ (ltA z1)).trans hz⟩
  · obtain ⟨x, y, h1, h2, h3⟩ := j.rw k a ha
    exact ⟨x, y, h1, h2, (e _ (Ne.symm (ltA (j.ab a (List.mem_of_getElem? ha)).1))).trans h3⟩
/-- one more tuple -/
theorem ZJs.more (B : ZB hb S z TI TO r1 r2 xs ys) (j : ZJs hb S z TI TO r1 r2 xs ys i acc h as) {h' : Heap} {x y : Value} {a0 : Addr} {f : Bool} (hx : xs[i]? = some x) (hy : ys[i]? = some y) (hz : IsZipF h' z TI TO a0 f) (ha0 : a0 ∈ as ++ [h.objs.size])
    (hi : ∀ r ∈ [r1, r2], It01 r.k h' r.it r.l (i + 1)) (hT : h'.get? h.objs.size = some (tupO #[x, y])) (hs : h'.objs.size = h.objs.size + 1) (hk : ∀ c o, c ≠ z → c ≠ TO → c ≠ r1.it → c ≠ r2.it → h.get? c = some o → h'.get? c = some o) :
    ZJs hb S z TI TO r1 r2 xs ys (i + 1) (acc.push (.ref h.objs.size)) h' (as ++ [h.objs.size]) := by
  obtain ⟨z1, z2, z3, z4, z5, _, _⟩ := B.lt
  have m1 : r1 ∈ [r1, r2] := List.mem_cons_self
  have m2 : r2 ∈ [r1, r2] := List.mem_cons_of_mem _ List.mem_cons_self
  have big : ∀ a ∈ as, a ≠ z ∧ a ≠ TO ∧ a ≠ r1.it ∧ a ≠ r2.it := fun a ha => by
    have := (j.ab a ha).1
    exact ⟨Ne.symm (ltA (Nat.lt_trans z1 this)), Ne.symm (ltA (Nat.lt_trans z3 this)), Ne.symm (ltA (Nat.lt_trans z4 this)), Ne.symm (ltA (Nat.lt_trans z5 this))⟩
  refine ⟨by simp [j.ac], by simp [j.ln], .inr ⟨a0, f, ha0, hz⟩, hk _ _ B.D.TIz B.D.TITO (Ne.symm (B.D.it r1 m1).2.1) (Ne.symm (B.D.it r2 m2).2.1) j.ti, hi r1 m1, hi r2 m2, fun c o c1 c2 c3 c4 c5 q => hk c o c1 c2 c3 c4 (j.fr c o c1 c2 c3 c4 c5 q), fun k a ha => ?_, ?_, fun a ha => ?_, by rw [hs]; exact Nat.lt_succ_of_lt j.sS⟩
  · by_cases hk' : k < as.length
    · rw [List.getElem?_append_left hk'] at ha
      obtain ⟨x', y', h1, h2, h3⟩ := j.rw k a ha
      obtain ⟨b1, b2, b3, b4⟩ := big a (List.mem_of_getElem? ha)
      exact ⟨x', y', h1, h2, hk a _ b1 b2 b3 b4 h3⟩
    · rw [List.getElem?_append_right (by omega)] at ha
      have hk2 : k = as.length := by
        have := (List.getElem?_eq_some_iff.mp ha).1
        simp at this
        omega
      subst hk2
      rw [Nat.sub_self] at ha
      simp only [List.getElem?_cons_zero, Option.some.injEq] at ha
      subst ha
      rw [j.ln]
      exact ⟨x, y, hx, hy, hT⟩
  · rw [List.pairwise_append]
    refine ⟨j.up, List.pairwise_singleton _ _, fun a ha b hb' => ?_⟩
    rw [List.mem_singleton] at hb'
    subst hb'
    exact (j.ab a ha).2
  · rw [hs]
    rcases List.mem_append.mp ha with q | q
    · exact ⟨(j.ab a q).1, Nat.lt_succ_of_lt (j.ab a q).2⟩
    · rw [List.mem_singleton] at q
      subst q
      exact ⟨j.sS, Nat.lt_succ_self _⟩
theorem frSrc {h h' : Heap} {r1 r2 : Sr} {z TO : Addr} (k : ∀ c o, c ≠ z → c ≠ TO → (∀ r ∈ [r1, r2], c ≠ r.it) → h.get? c = some o → h'.get? c = some o) : ∀ c o, c ≠ z → c ≠ TO → c ≠ r1.it → c ≠ r2.it → h.get? c = some o → h'.get? c = some o := fun c o c1 c2 c3 c4 e => k c o c1 c2 (fun r hr => by
  simp only [List.mem_cons, List.not_mem_nil, or_false] at hr
  rcases hr with rfl | rfl
  · exact c3
  · exact c4) e
/-- the list is full -/
structure ZEnd (hb : Heap) (S z TO : Addr) (r1 r2 : Sr) (xs ys : Array Value) (acc : Array Value) (h : Heap) (as : List Addr) : Prop where
  ac : acc.toList = as.map Value.ref
  ln : as.length = min xs.size ys.size
  fr : ∀ c o, c ≠ z → c ≠ TO → c ≠ r1.it → c ≠ r2.it → c ≠ S → hb.get? c = some o → h.get? c = some o
  rw : ∀ (j : Nat) a, as[j]? = some a → ∃ x y, xs[j]? = some x ∧ ys[j]? = some y ∧ h.get? a = some (tupO #[x, y])
  up : as.Pairwise (fun a b => @LT.lt Nat _ a b)
  ab : ∀ a ∈ as, @LT.lt Nat _ S a
theorem fill_zip {prog : Program} {w : World} {A : Around} (hh : A.handled = none) (B : ZB hb S z TI TO r1 r2 xs ys) :
    Fill prog w A S z "zip" (min xs.size ys.size) (fun i acc h => ∃ as, ZJs hb S z TI TO r1 r2 xs ys i acc h as) (fun acc h => ∃ as, ZEnd hb S z TO r1 r2 xs ys acc h as) where
  ne := Ne.symm (ltA B.lt.1)
  ty := fun i acc h ⟨as, j⟩ => by
    rcases j.zs with ⟨h0, hz, kept, hk, hT⟩ | ⟨a0, f, ha, hz⟩
    · exact ⟨_, hz, rfl⟩
    · exact ⟨_, hz, rfl⟩
  sz := fun i acc h ⟨as, j⟩ => by
    have := congrArg List.length j.ac
    rw [List.length_map, j.ln] at this
    simpa using this
  st := fun i acc h h' ⟨as, j⟩ e ez => ⟨as, j.stay B e ez⟩
  item := by
    intro i acc s c Q E hi hJ hS hQ
    obtain ⟨as, j⟩ := hJ
    obtain ⟨z1, z2, z3, z4, z5, _, _⟩ := B.lt
    obtain ⟨q1, q2⟩ := j.sq B
    have hx : xs[i]? = some xs[i] := Array.getElem?_eq_getElem (by omega)
    have hy : ys[i]? = some ys[i] := Array.getElem?_eq_getElem (by omega)
    have hat : AtI s.heap i [r1, r2] [xs[i], ys[i]] := .cons j.i1 q1 hx (.cons j.i2 q2 hy .nil)
    rcases j.zs with ⟨h0, hz, kept, hk, hT⟩ | ⟨a0, f, ha, hz⟩
    · refine pyNext_zipN_item B.D hz j.ti hT hk (by simp) hat fun h' z' TO' i' hT' hsz hfr => ?_
      have fr := frSrc hfr
      exact hQ _ h' ⟨_, j.more B hx hy (f := false) z' (by simp) i' hT' hsz fr⟩ (fr S _ (Ne.symm (ltA z1)) (Ne.symm (ltA z3)) (Ne.symm (ltA z4)) (Ne.symm (ltA z5)) hS)
    · obtain ⟨k, hk⟩ := List.mem_iff_getElem?.mp ha
      obtain ⟨x', y', _, _, h3⟩ := j.rw k a0 hk
      refine pyNext_zipF_item B.D hz h3 j.ti (by simp) hat fun h' z' i' hT' hsz hfr => ?_
      have fr := frSrc (TO := TO) fun c o c1 c2 c3 e => hfr c o c1 c3 e
      exact hQ _ h' ⟨_, j.more B hx hy z' (List.mem_append_left _ ha) i' hT' hsz fr⟩ (fr S _ (Ne.symm (ltA z1)) (Ne.symm (ltA z3)) (Ne.symm (ltA z4)) (Ne.symm (ltA z5)) hS)
  done := by
    intro acc s c Q E hJ hS hQ
    obtain ⟨as, j⟩ := hJ
    obtain ⟨z1, z2, z3, z4, z5, _, _⟩ := B.lt
    obtain ⟨q1, q2⟩ := j.sq B
    have hend : EndI s.heap (min xs.size ys.size) [r1, r2] := by
      by_cases hle : xs.size ≤ ys.size
      · exact .here j.i1 q1 (Array.getElem?_eq_none (by omega))
      · exact .next j.i1 q1 (Array.getElem?_eq_getElem (show min xs.size ys.size < xs.size by omega)) (.here j.i2 q2 (Array.getElem?_eq_none (by omega)))
    have big : ∀ a ∈ as, a ≠ z ∧ a ≠ TO ∧ a ≠ r1.it ∧ a ≠ r2.it := fun a ha => by
      have := (j.ab a ha).1
      exact ⟨Ne.symm (ltA (Nat.lt_trans z1 this)), Ne.symm (ltA (Nat.lt_trans z3 this)), Ne.symm (ltA (Nat.lt_trans z4 this)), Ne.symm (ltA (Nat.lt_trans z5 this))⟩
    have fin : ∀ h' : Heap, (∀ c o, c ≠ z → c ≠ TO → c ≠ r1.it → c ≠ r2.it → s.heap.get? c = some o → h'.get? c = some o) → Q none { s with heap := h' } := fun h' fr =>
      hQ h' ⟨as, j.ac, j.ln, fun c o c1 c2 c3 c4 c5 e => fr c o c1 c2 c3 c4 (j.fr c o c1 c2 c3 c4 c5 e), fun k a ha => by
        obtain ⟨x', y', h1, h2, h3⟩ := j.rw k a ha
        obtain ⟨b1, b2, b3, b4⟩ := big a (List.mem_of_getElem? ha)
        exact ⟨x', y', h1, h2, fr a _ b1 b2 b3 b4 h3⟩, j.up, fun a ha => (j.ab a ha).1⟩ (fr S _ (Ne.symm (ltA z1)) (Ne.symm (ltA z3)) (Ne.symm (ltA z4)) (Ne.symm (ltA z5)) hS)
    rcases j.zs with ⟨h0, hz, kept, hk, hT⟩ | ⟨a0, f, ha, hz⟩
    · exact pyNext_zipN_end hh B.D hz j.ti hT (by omega) hend fun h' hfr => fin h' (frSrc hfr)
    · obtain ⟨k, hk⟩ := List.mem_iff_getElem?.mp ha
      obtain ⟨x', y', _, _, h3⟩ := j.rw k a0 hk
      exact pyNext_zipF_end hh B.D hz h3 j.ti hend fun h' hfr => fin h' (frSrc (TO := TO) fun c o c1 c2 c3 e => hfr c o c1 c3 e)
  self := fun i acc s Q E ⟨as, j⟩ h => by
    rcases j.zs with ⟨h0, hz, kept, hk, hT⟩ | ⟨a0, f, ha, hz⟩
    · exact wpAny_pyIter_zip hz h
    · have hT : s.TypeIs (.ref z) "zip" := ⟨_, hz, rfl⟩
      refine wpAny_pyIter_slot hT F.slot_zip_iter (wpAny_call_entry F.slot_zip_iter hT F.entry_zip_iter ?_ (F.args_zip_iter_1 _))
      show wpAny _ _ (ret (.ref z)) _ _ s
      exact wpAny_pure ⟨_, rfl, "zip", _, hT, F.slot_zip_next.lookup, h⟩
end
end Mr

namespace Mr
open PySem PySem.Spec PyProof.Rows L2 RZ
/-! ### the pairs and their list are tracked -/
def putPs : Hp → List Addr → List (V × V) → Hp
  | H, a :: as, p :: ps => putPs (upd H a (.tup [p.1, p.2])) as ps
  | H, _, _ => H
theorem putPs_off {b : Addr} : ∀ (as : List Addr) (ps : List (V × V)) (H : Hp), b ∉ as → putPs H as ps b = H b
  | [], _, _, _ => rfl
  | _ :: _, [], _, _ => rfl
  | a :: as, p :: ps, H, h => by
    show putPs (upd H a (.tup [p.1, p.2])) as ps b = H b
    rw [putPs_off as ps _ (fun z => h (List.mem_cons_of_mem _ z)), upd_ne (fun z => h (by rw [z]; exact List.mem_cons_self))]
theorem putPs_at : ∀ (as : List Addr) (ps : List (V × V)) (H : Hp), as.Nodup → ∀ (j : Nat) (a : Addr) (p : V × V), as[j]? = some a → ps[j]? = some p → putPs H as ps a = some (.tup [p.1, p.2])
  | [], _, _, _, j, a, p, h, _ => by cases h
  | _ :: _, [], _, _, j, a, p, _, h => by cases h
  | b :: as, q :: ps, H, hn, 0, a, p, h1, h2 => by
    have e1 : b = a := by simpa using h1
    have e2 : q = p := by simpa using h2
    subst e1 e2
    show putPs (upd H b (.tup [q.1, q.2])) as ps b = _
    rw [putPs_off as ps _ (List.nodup_cons.mp hn).1, upd_same]
  | b :: as, q :: ps, H, hn, j + 1, a, p, h1, h2 => putPs_at as ps _ (List.nodup_cons.mp hn).2 j a p (by simpa using h1) (by simpa using h2)
theorem vals_refs : ∀ as : List Addr, Vals (as.map V.ref) (as.map Value.ref)
  | [] => .nil
  | _ :: as => .cons rfl (vals_refs as)
theorem pairs_laid {X : Cx} {pins : List (Addr × Obj)} {σ : L2.St} {H : Hp} {s : Shared} {h' : Heap} {tk : Nat} {rows : List (V × V)} {acc : Array Value} {c : Nat} {S : Addr} {as : List Addr} (I : Inv X pins σ H s) (hz : rows.length ≤ sizeLine)
    (hk : ∀ b o, s.heap.get? b = some o → h'.get? b = some o) (hle : @LE.le Nat _ s.heap.objs.size S) (ab : ∀ a ∈ as, @LT.lt Nat _ S a) (up : as.Pairwise (fun a b => @LT.lt Nat _ a b)) (hl : as.length = rows.length) (hS : h'.get? S = some (lstO acc c)) (hacc : acc.toList = as.map Value.ref)
    (hrow : ∀ (j : Nat) a, as[j]? = some a → ∃ p u v, rows[j]? = some p ∧ RelV p.1 u ∧ RelV p.2 v ∧ h'.get? a = some (tupO #[u, v])) :
    ∃ H' : Hp, (∀ b o, H b = some o → H' b = some o) ∧ H S = none ∧ (∀ t ∈ as, H t = none) ∧ S ∉ as ∧ H' S = some (.lst (as.map V.ref)) ∧ (∀ (j : Nat) a p, as[j]? = some a → rows[j]? = some p → H' a = some (.tup [p.1, p.2])) ∧ (∀ b, b ∉ as → b ≠ S → H' b = H b) ∧ Inv X pins σ H' { s with heap := h', toks := tk } := by
  have hSn : S ∉ as := fun z => Nat.lt_irrefl _ (ab _ z)
  have nd : as.Nodup := List.Pairwise.imp (fun {a b} (h : @LT.lt Nat _ a b) => Nat.ne_of_lt h) up
  have new : ∀ t ∈ as, H t = none := fun t ht => I.hok.fresh (Nat.le_of_lt (Nat.lt_of_le_of_lt hle (ab t ht)))
  have newS : H S = none := I.hok.fresh hle
  have atP := putPs_at as rows (upd H S (.lst (as.map V.ref))) nd
  have off : ∀ b, b ∉ as → b ≠ S → putPs (upd H S (.lst (as.map V.ref))) as rows b = H b := fun b h1 h2 => by rw [putPs_off as rows _ h1, upd_ne h2]
  have low : ∀ b o, s.heap.get? b = some o → b ∉ as ∧ b ≠ S := fun b o e => ⟨fun z => absurd (Heap.lt_size e) (Nat.not_lt.mpr (Nat.le_of_lt (Nat.lt_of_le_of_lt hle (ab b z)))), Nat.ne_of_lt (Nat.lt_of_lt_of_le (Heap.lt_size e) hle)⟩
  have kp : ∀ b u, H b = some u → (putPs (upd H S (.lst (as.map V.ref))) as rows) b = some u := fun b u e => by
    rw [off b (fun z => by rw [new b z] at e; cases e) (fun z => by rw [z, newS] at e; cases e)]
    exact e
  have eS : putPs (upd H S (.lst (as.map V.ref))) as rows S = some (.lst (as.map V.ref)) := by rw [putPs_off as rows _ hSn, upd_same]
  refine ⟨putPs (upd H S (.lst (as.map V.ref))) as rows, kp, newS, new, hSn, eS, atP, off, ?_⟩
  refine I.call' (ch := []) rfl ⟨fun b o q _ _ _ => hk b o q, fun b o q _ _ _ => ⟨o.slots, hk b o q⟩, fun b o q n _ => ?_, fun b o q _ => ⟨o, hk b o q⟩, fun b xs q => kp b _ q, fun b o u q => kp b _ q, fun b ps q => ⟨#[], by rw [kp b _ q]; simp⟩⟩ (fun b u q => ?_) I.bare fun b z => by simp at z
  · obtain ⟨z1, z2⟩ := low b o q
    rw [off b z1 z2]
    exact n
  · by_cases hb : b ∈ as
    · obtain ⟨j, e1⟩ := List.mem_iff_getElem?.mp hb
      obtain ⟨p, x, y, e2, rx, ry, f3⟩ := hrow j b e1
      rw [atP j b p e1 e2] at q
      cases q
      exact ⟨by show 2 ≤ sizeLine; decide, [x, y], .cons rx (.cons ry .nil), ⟨_, f3, rfl, _, rfl⟩⟩
    · by_cases hb2 : b = S
      · rw [hb2] at q ⊢
        rw [eS] at q
        cases q
        refine ⟨by rw [List.length_map]; omega, acc.toList, c, by rw [hacc]; exact vals_refs as, ?_⟩
        rw [Array.toArray_toList]
        exact hS
      · rw [off b hb hb2] at q
        exact (I.hok b u q).stay (fun d v _ y => hk d v y) (fun d y => kp d _ y) fun d xs y => kp d _ y
end Mr

namespace Mr
open PySem PySem.Spec PyProof.Rows L2 RZ
def tListZip (K : PySem.W.Frag) (ta : TA) : TE := fun σ H Q => ta σ H fun vs H1 => ∃ k1 k2 a b xs ys, vs = [.ref a, .ref b] ∧ SqX K H1 k1 a xs ∧ SqX K H1 k2 b ys ∧
  ∀ (H' : Hp) (p : Addr) (ts : List Addr), (∀ b o, H1 b = some o → H' b = some o) → H1 p = none → (∀ t ∈ ts, H1 t = none) → p ∉ ts → ts.Nodup → H' p = some (.lst (ts.map V.ref)) → ts.length = (xs.zip ys).length →
    (∀ (j : Nat) a q, ts[j]? = some a → (xs.zip ys)[j]? = some q → H' a = some (.tup [q.1, q.2])) → (∀ b, b ∉ ts → b ≠ p → H' b = H1 b) → Q (.ref p) H'
theorem vals_get2 {xs : List V} {its : List Value} (r : Vals xs its) : ∀ {j : Nat} {u : Value}, its[j]? = some u → ∃ x, xs[j]? = some x ∧ RelV x u := by
  induction r with
  | nil => intro j u h; cases h
  | cons r _ ih =>
    intro j u h
    cases j with
    | zero => simp only [List.getElem?_cons_zero, Option.some.injEq] at h; subst h; exact ⟨_, rfl, r⟩
    | succ j => exact ih (by simpa using h)
theorem pe_listZip {X : Cx} {e e2 : Expr} {ta : TA} {p p2 pos pos2 : Pos} (hc : X.calm = true) (hg : Gl X "list") (hm : X.mg "list" = none) (hg2 : Gl X "zip") (hm2 : X.mg "zip" = none) (ha : PA X [e, e2] ta)
    (na : starEach [.Call (.Name "zip" p2) [e, e2] [] pos2] X.env = (false, eval (.Call (.Name "zip" p2) [e, e2] [] pos2) X.env) :: starEach [] X.env := by rfl)
    (hs : starEach [e, e2] X.env = (false, eval e X.env) :: starEach [e2] X.env := by rfl) (hpl : (backTo pos2 (starEach [e2] X.env)).any (·.1) = false := by rfl) :
    PE X (.Call (.Name "list" p) [.Call (.Name "zip" p2) [e, e2] [] pos2] [] pos) (tListZip X.K ta) := by
  refine ⟨fun pins s σ H Q I h => ?_⟩
  refine Call_ (ld_blt I hg hm boot_list (PyProof.Rows.callWith_type1 (args_cons ?_ na) na))
  refine Call_ (ld_blt I hg2 hm2 PyProof.Rows.boot_zip (PyProof.Rows.callWith_type1 (thn (ha.run pos2 pins s σ H _ I h) fun us s1 ⟨vs, H1, I1, r1, q1⟩ => ?_) hs hpl))
  obtain ⟨k1, k2, a, b, xs, ys, ex, hqx, hqy, q⟩ := q1
  subst ex
  cases r1 with
  | cons r rr =>
    cases rr with
    | cons r' rr =>
      cases rr
      cases r
      cases r'
      obtain ⟨its, rv, p1⟩ := hqx.has I1
      obtain ⟨its2, rv2, p2⟩ := hqy.has I1
      have la := sq01_lt p1
      have lb := sq01_lt p2
      refine call_zip2 p1 p2 fun h' hz hTI hTO h1 h2 hk => args_nil ?_
      have D := apart2 k1 k2 s1.heap.objs.size a b la lb
      have zlt : s1.heap.objs.size + 4 < h'.objs.size := Heap.lt_size hz
      have B : ZB h' h'.objs.size (s1.heap.objs.size + 4) (s1.heap.objs.size + 2) (s1.heap.objs.size + 3) ⟨k1, s1.heap.objs.size, a⟩ ⟨k2, s1.heap.objs.size + 1, b⟩ its.toArray its2.toArray :=
        ⟨D, p1.at fun o e => hk _ o e, p2.at fun o e => hk _ o e, by
          generalize s1.heap.objs.size = n at la lb zlt
          exact ⟨zlt, Nat.lt_trans (show n + 2 < n + 4 by omega) zlt, Nat.lt_trans (show n + 3 < n + 4 by omega) zlt, Nat.lt_trans (show n < n + 4 by omega) zlt, Nat.lt_trans (show n + 1 < n + 4 by omega) zlt, Nat.lt_trans la (Nat.lt_trans (show n < n + 4 by omega) zlt), Nat.lt_trans lb (Nat.lt_trans (show n < n + 4 by omega) zlt)⟩⟩
      have l1 := rv.length
      have l2 := rv2.length
      have hzx : xs.length ≤ sizeLine := by
        cases k1
        · obtain ⟨_, _, _, z⟩ := I1.tuple hqx; exact z
        · obtain ⟨_, _, _, z⟩ := I1.list hqx; exact z
      refine call_list_zip (s := { s1 with heap := h' }) (fill_zip (A := X.A.in1.in1) (I1.ok.hd hc) B) (by simp; omega) ⟨[], rfl, rfl, .inl ⟨rfl, Heap.get?_push_of_some _ hz, _, rfl, Heap.get?_push_of_some _ hTO⟩, Heap.get?_push_of_some _ hTI, h1.at fun o e => Heap.get?_push_of_some _ e, h2.at fun o e => Heap.get?_push_of_some _ e, fun c o _ _ _ _ _ e => Heap.get?_push_of_some _ e, fun j a ha => (by cases ha), .nil, fun a ha => absurd ha List.not_mem_nil, by show h'.objs.size < (h'.push _).objs.size; rw [Heap.size_push]; exact Nat.lt_succ_self _⟩ ?_
      rintro h'' acc c ⟨as, E⟩ hS
      have hl : as.length = (xs.zip ys).length := by
        rw [E.ln, List.length_zip]
        simp
        omega
      have keep : ∀ b o, s1.heap.get? b = some o → h''.get? b = some o := fun b' o e => by
        have hb' := Heap.lt_size e
        refine E.fr b' o ?_ ?_ ?_ ?_ ?_ (hk b' o e)
        · exact ltA (Nat.lt_trans hb' (show s1.heap.objs.size < s1.heap.objs.size + 4 by omega))
        · exact ltA (Nat.lt_trans hb' (show s1.heap.objs.size < s1.heap.objs.size + 3 by omega))
        · exact ltA hb'
        · exact ltA (Nat.lt_trans hb' (show s1.heap.objs.size < s1.heap.objs.size + 1 by omega))
        · exact ltA (Nat.lt_trans hb' (Nat.lt_trans (show s1.heap.objs.size < s1.heap.objs.size + 4 by omega) zlt))
      obtain ⟨H', j1, j2, j3, j4, j5, j6, j7, J⟩ := pairs_laid (tk := s1.toks) (rows := xs.zip ys) I1 (by rw [List.length_zip]; omega) keep (Nat.le_of_lt (Nat.lt_trans (show s1.heap.objs.size < s1.heap.objs.size + 4 by omega) zlt)) E.ab E.up hl hS E.ac (fun j a' hj => by
        obtain ⟨x, y, e1, e2, e3⟩ := E.rw j a' hj
        obtain ⟨vx, f1, rx⟩ := vals_get2 rv (by simpa using e1)
        obtain ⟨vy, f2, ry⟩ := vals_get2 rv2 (by simpa using e2)
        exact ⟨(vx, vy), x, y, by rw [List.getElem?_zip_eq_some]; exact ⟨f1, f2⟩, rx, ry, e3⟩)
      exact ⟨.ref _, H', J, rfl, q H' _ as j1 j2 j3 j4 (List.Pairwise.imp (fun {a b} (h : @LT.lt Nat _ a b) => Nat.ne_of_lt h) E.up) j5 hl j6 j7⟩
section
variable {K : PySem.W.Frag} {O : Wo} {Wx : WX} {X : Cx} {G H : Hp}
theorem Reps.of_get : ∀ {vs : List V} {ds : List D}, vs.length = ds.length → (∀ (j : Nat) v d, vs[j]? = some v → ds[j]? = some d → Rep K G v d) → Reps K G vs ds
  | [], [], _, _ => .nil
  | [], _ :: _, h, _ => by cases h
  | _ :: _, [], h, _ => by cases h
  | v :: vs, d :: ds, h, k => .cons (k 0 v d rfl rfl) (Reps.of_get (by simpa using h) fun j v' d' h1 h2 => k (j + 1) v' d' (by simpa using h1) (by simpa using h2))
/-- list(zip(a, b)) -/
def mZipL (O : Wo) (m : MA O) : MA O := fun ρ s => (m ρ s).bind fun ds s1 => R.lift (dZip ds) s1
theorem dn_listZip {e e2 : Expr} {ta : TA} {ma : MA O} {p p2 pos pos2 : Pos} (c : Cs K Wx X) (hm : X.mg "list" = none) (hm2 : X.mg "zip" = none) (ha : DA K O Wx X [e, e2] ta ma) (hg : Gl X "list" := by rfl) (hg2 : Gl X "zip" := by rfl)
    (na : starEach [.Call (.Name "zip" p2) [e, e2] [] pos2] X.env = (false, eval (.Call (.Name "zip" p2) [e, e2] [] pos2) X.env) :: starEach [] X.env := by rfl)
    (hs : starEach [e, e2] X.env = (false, eval e X.env) :: starEach [e2] X.env := by rfl) (hpl : (backTo pos2 (starEach [e2] X.env)).any (·.1) = false := by rfl) :
    DN K O Wx X (.Call (.Name "list" p) [.Call (.Name "zip" p2) [e, e2] [] pos2] [] pos) (tListZip K ta) (mZipL O ma) := by
  refine ⟨ha.hK, ha.tk, by have := ha.hK; subst this; exact pe_listZip c.hc hg hm hg2 hm2 ha.pe na hs hpl, fun σ ρ H0 G H s Q F h => ?_⟩
  refine ha.sn σ ρ H0 G H s _ F (pstN_bind h fun ds s1 _ vs G1 H1 t1 k1 r1 h1 => ?_)
  have F1 := F.tr t1 k1
  cases e0 : dZip ds with
  | none => rw [e0] at h1; exact (show False from h1).elim
  | some its =>
    rw [e0] at h1
    obtain ⟨d, e, xs, ys, rfl, s1', s2', rfl⟩ := dZip_sq e0
    cases r1 with
    | cons r1 r2 =>
      cases r2 with
      | cons r2 r3 =>
        cases r3
        obtain ⟨k1', a, us, rfl, q1, p1⟩ := rep_sqD r1 s1'
        obtain ⟨k2', b, ws, rfl, q2, p2⟩ := rep_sqD r2 s2'
        refine ⟨k1', k2', a, b, us, ws, rfl, q1.mono F1.gh, q2.mono F1.gh, fun H' p ts hk np nts hp nd hS hl hrow hoff => ?_⟩
        have gt : ∀ t ∈ ts, G1 t = none := fun t ht => F1.gh.free (nts t ht)
        have off : ∀ b, b ∉ ts → putPs G1 ts (us.zip ws) b = G1 b := fun b hb => putPs_off ts _ _ hb
        have at' := putPs_at ts (us.zip ws) G1 nd
        have row : ∀ (j : Nat) a, ts[j]? = some a → ∃ q, (us.zip ws)[j]? = some q := fun j a hj => by
          have := (List.getElem?_eq_some_iff.mp hj).1
          exact ⟨_, List.getElem?_eq_getElem (show j < (us.zip ws).length by omega)⟩
        have gg : Same G1 (putPs G1 ts (us.zip ws)) := fun b o e => by
          rw [off b fun hb => by rw [gt b hb] at e; cases e]
          exact e
        have gh : Same (putPs G1 ts (us.zip ws)) H' := fun b o e => by
          by_cases hb : b ∈ ts
          · obtain ⟨j, hj⟩ := List.mem_iff_getElem?.mp hb
            obtain ⟨q, hq⟩ := row j b hj
            rw [at' j b q hj hq] at e
            rw [hrow j b q hj hq]
            exact e
          · rw [off b hb] at e
            exact hk b o (F1.gh b o e)
        refine h1 p (ts.map V.ref) (putPs G1 ts (us.zip ws)) H' ⟨gg, gh, fun b o e => ?_, fun b o _ e => hk b o e, fun b e => ?_⟩ ?_ np ?_ hS ?_
        · by_cases hb : b ∈ ts
          · exact .inr (nts b hb)
          · rw [off b hb] at e
            exact .inl e
        · cases e1 : H1 b with
          | none => rfl
          | some o => rw [hk b o e1] at e; cases e
        · refine O.loc s1 H1 _ (fun a w => hoff a (fun ht => O.dom s1 H1 a k1 w (nts a ht)) fun e => ?_) k1
          rw [e] at w
          exact O.dom s1 H1 p k1 w np
        · rw [off p hp]
          exact F1.gh.free np
        · refine Reps.of_get ?_ fun j v d hv hd => ?_
          · rw [List.length_map, hl, zipD_length, List.length_zip, p1.length, p2.length]
          · rw [List.getElem?_map, Option.map_eq_some_iff] at hv
            obtain ⟨t, ht, rfl⟩ := hv
            obtain ⟨da, db, x1, x2, rfl⟩ := zipD_at hd
            obtain ⟨v1, g1, rv1⟩ := p1.get' x1
            obtain ⟨v2, g2, rv2⟩ := p2.get' x2
            have e1 := at' j t (v1, v2) ht (by rw [List.getElem?_zip_eq_some]; exact ⟨g1, g2⟩)
            exact .tup (.inl (.inl e1)) (.cons (rv1.mono gg) (.cons (rv2.mono gg) .nil))
end
end Mr

namespace Mr
open PySem PySem.Spec PyProof.Rows L2 RZ
section
variable {K : PySem.W.Frag} {O : Wo} {Wx : WX} {X : Cx} {G H : Hp}
/-- a + b, lists: a new list -/
def mCatN (O : Wo) (a b : ME O) : MA O := fun ρ s => (a ρ s).bind fun x s1 => (b ρ s1).bind fun y s2 => match x, y with
  | .lst xs, .lst ys => if xs.length + ys.length ≤ 100000 then .ok (xs ++ ys) s2 else .bad
  | _, _ => .bad
theorem dn_cat {a b : Expr} {ta tb : TE} {ma mb : ME O} {pos : Pos} (ha : DE K O Wx X a ta ma) (hb : DE K O Wx X b tb mb) : DN K O Wx X (.BinOp a .Add b pos) (tOp (rAddG K) ta tb) (mCatN O ma mb) := by
  refine ⟨ha.hK, ha.tk, (de_add ha hb).pe, fun σ ρ H0 G H s Q F h => ?_⟩
  refine ha.sn σ ρ H0 G H s _ F (pstN_bind h fun dx s1 _ x G1 H1 t1 k1 r1 h1 => ?_)
  have F1 := F.tr t1 k1
  refine hb.sn σ ρ H0 G1 H1 s1 _ F1 (pstN_bind h1 fun dy s2 _ y G2 H2 t2 k2 r2 h2 => ?_)
  have F2 := F1.tr t2 k2
  have r1' := r1.mono t2.gg
  cases r1' with
  | lst hs q1 =>
    cases r2 with
    | lst hs2 q2 =>
      dsimp only at h2
      split at h2
      · rename_i hz
        refine .inr (.inl ⟨_, _, _, _, rfl, rfl, F2.gh.seq hs, F2.gh.seq hs2, ?_, fun p np => newL (.refl F2.gh) k2 F2.gh h2 (q1.append q2) np⟩)
        rw [q1.length, q2.length]
        exact sz5 hz
      · exact h2.elim
    | _ => exact (show False from h2).elim
  | _ => exact (show False from h2).elim
end
end Mr

namespace Mr
open PySem PySem.Spec PyProof.Rows L2 RZ
/-! ### several except clauses, each with a name -/
abbrev ClA := Value × Nat × (Addr → Value → Option Addr → TS)
def wManyA (K : PySem.W.Frag) (Wout : WX) (D : Ends) : List ClA → WX
  | [] => Wout
  | (c, i, ts) :: r => fun cls d σ H => ∃ b, PySem.W.exmOne K cls c = some b ∧ (b = true → ∀ a, H a = none → ts a cls d { nx := fun σ' H' => D.nx (σ'.set i none) H', rt := D.rt, bk := fun σ' H' => D.bk (σ'.set i none) H', ct := fun σ' H' => D.ct (σ'.set i none) H' } (σ.set i (some (.ref a))) H) ∧ (b = false → wManyA K Wout D r cls d σ H)
inductive HdsA (X : Cx) : List ExceptHandler → List ClA → Prop
  | nil : HdsA X [] []
  | cons {x n : Str} {c : Value} {i : Nat} {ts : Addr → Value → Option Addr → TS} {b₀ : Stmt} {suite : List Stmt} {np pos' : Pos} {hds : List ExceptHandler} {l : List ClA} (hc : Names X x c) (hi : X.N[i]? = some n) (hln : X.env.kindOf n = some .local)
      (hsu : ∀ (a : Addr) (oe : Obj) (cls : Value) (d : Option Addr) (pn : List (Addr × Obj)), Zc cls d oe → (∃ vs, oe.data = .fields vs) → PSs (X.suite a ((a, oe) :: pn)) (b₀ :: suite) (ts a cls d)) (r : HdsA X hds l) :
      HdsA X (.ExceptHandler (some (.Name x np)) (some n) (b₀ :: suite) pos' :: hds) ((c, i, ts) :: l)
/-- an exception a of class cls, with its dict d, that no clause has taken so far: sI is the state in which it was raised -/
structure Fell (X : Cx) (B : Heap) (sI : Shared) (pins : List (Addr × Obj)) (σ : L2.St) (H : Hp) (a : Addr) (cls : Value) (d : Option Addr) (sN : Shared) : Prop where
  inv : Inv X pins σ H sI
  old : ∀ b o, sI.heap.get? b = some o → b ∉ frs X.stack → B.get? b = some o
  fly : HandSPX.FlyingZ B (X.env :: X.outer) a (Zc cls d) sN.heap
  upto : sI.heap.UpToSlots sN.heap
  os : sN.os = sI.os
  gens : AllBare sN.gens
  free : H a = none
section
variable {X : Cx} {B : Heap} {sI sN : Shared} {pins : List (Addr × Obj)} {σ : L2.St} {H : Hp} {a : Addr} {cls : Value} {d : Option Addr}
theorem Fell.now (h : Fell X B sI pins σ H a cls d sN) : Inv X pins σ H sN := h.inv.landed h.old h.fly.1 h.upto h.os h.gens
theorem Fell.obj (h : Fell X B sI pins σ H a cls d sN) : ∃ oe vs, sN.heap.get? a = some oe ∧ Zc cls d oe ∧ oe.data = .fields vs := h.fly.there
/-- the exception is none of the frames -/
theorem Fell.apart (h : Fell X B sI pins σ H a cls d sN) (hf : X.env.frame = some X.env.locals) : a ≠ X.env.locals ∧ a ∉ X.fs := by
  obtain ⟨oe, vs, g, _, hd⟩ := h.obj
  have out : a ∉ frs (X.env :: X.outer) := by
    intro m
    obtain ⟨_, o2, g2, no⟩ := h.fly.2.2.1.mem m
    have : oe = o2 := Option.some.inj (g.symm.trans g2)
    exact no vs (this ▸ hd)
  constructor
  · intro e
    exact out (List.mem_filterMap.mpr ⟨X.env, List.mem_cons_self, e ▸ hf⟩)
  · intro m
    obtain ⟨v, hv, q⟩ := List.mem_filterMap.mp m
    exact out (List.mem_filterMap.mpr ⟨v, .tail _ hv, q⟩)
/-- the clauses are at their end: it goes on -/
theorem Fell.goes (h : Fell X B sI pins σ H a cls d sN) {Wout : WX} {D : Ends} (hs : X.stack = X.env :: X.outer) (hf : X.env.frame = some X.env.locals) (tk : Takes X Wout) (w : Wout cls d σ H) :
    wpAny (model X.prog X.w) X.A (handleBy (.ref a) X.env []) (SP X pins D) X.xe sN := by
  apply wpAny_handleBy_nil
  have fl := h.fly
  obtain ⟨_, _, _, oe, vs, T, oT, tsl, g, _, hd, tb, _⟩ := id fl
  have rest : wpAny (model X.prog X.w) X.A (setFlight (.ref a) X.env.frame) (fun _ s4 => wpAny (model X.prog X.w) X.A (throw (.ref a) : Sem Flow) (SP X pins D) X.xe s4) X.xe sN := by
    rw [hf]
    apply HandSPX.setFlight_upZ fl
    intro h4 held up4
    apply wpAny_throw
    apply tk
    exact ⟨a, B, sI, pins, σ, H, cls, d, rfl, h.inv, h.old, h.upto.trans up4, .inr (.inr (hs ▸ held)), h.free, h.os, h.gens, w⟩
  unfold PySem.passOn
  apply wpAny_bind
  apply wpAny_field g hd tb
  rw [if_neg (by simp : ¬ ((Value.ref T == Value.none) = true))]
  first
    | exact wpAny_bind (wpAny_pure (wpAny_bind rest))
    | exact wpAny_bind rest
/-- a clause that names the class c, as n (slot i) -/
theorem Fell.clause (h : Fell X B sI pins σ H a cls d sN) {x n : Str} {c : Value} {i : Nat} {ts : Addr → Value → Option Addr → TS} {st : Stmt} {sts : List Stmt} {np hp : Pos} {rest : List ExceptHandler} {b : Bool} {D : Ends} (ok : X.Ok) (hf : X.env.frame = some X.env.locals) (hN : X.N.Nodup) (hc : Names X x c) (hi : X.N[i]? = some n) (hln : X.env.kindOf n = some .local)
    (hsu : ∀ (a : Addr) (oe : Obj) (cls : Value) (d : Option Addr) (pn : List (Addr × Obj)), Zc cls d oe → (∃ vs, oe.data = .fields vs) → PSs (X.suite a ((a, oe) :: pn)) (st :: sts) (ts a cls d))
    (hb : PySem.W.exmOne X.K cls c = some b) (yes : b = true → ts a cls d { nx := fun σ' H' => D.nx (σ'.set i none) H', rt := D.rt, bk := fun σ' H' => D.bk (σ'.set i none) H', ct := fun σ' H' => D.ct (σ'.set i none) H' } (σ.set i (some (.ref a))) H)
    (no : b = false → wpAny (model X.prog X.w) X.A (handleBy (.ref a) X.env rest) (SP X pins D) X.xe sN) :
    wpAny (model X.prog X.w) X.A (handleBy (.ref a) X.env (.ExceptHandler (some (.Name x np)) (some n) (st :: sts) hp :: rest)) (SP X pins D) X.xe sN := by
  obtain ⟨oe, vs, g, hz, hd⟩ := h.obj
  obtain ⟨nl, nf⟩ := h.apart hf
  have inS := h.now.suite g hd h.free nl nf
  have name : ∀ {Q : Value → Shared → Prop} {E : Value → Shared → Prop}, Q c sN → wpAny (model X.prog X.w) (X.A.mark (some (.ref a))) (eval (.Name x np) X.env) Q E sN := by
    intro Q E q
    rcases hc with ⟨gl, db, m | ⟨m, v, nn⟩⟩
    · exact ld_glob (X := X.suite a ((a, oe) :: (X.pn ++ pins))) inS gl m q db
    · exact ld_blt (X := X.suite a ((a, oe) :: (X.pn ++ pins))) inS gl m v q nn db
  have isOf := PySem.W.exm_one (M := model X.prog X.w) h.now.kIn (fun A Q E s k q => wpAny_typeOf_ref (k _ _ g) (by rw [hz.1]; exact q)) hb
  apply wpAny_handleBy_cons _ (by intro z; cases z)
  apply codeAny_handlers_test
  apply name
  apply isOf.here
  cases b
  · exact no rfl
  · apply codeAny_handlers_suite_as
    apply HandSPX.lands_againZ h.fly
    intro h4 fl4 up4
    have h' : Fell X B sI pins σ H a cls d { sN with heap := h4 } := ⟨h.inv, h.old, fl4, h.upto.trans up4, h.os, h.gens, h.free⟩
    obtain ⟨oe4, vs4, g4, hz4, hd4⟩ := h'.obj
    have inS4 := h'.now.suite g4 hd4 h.free nl nf
    refine store_ok (X := X.suite a ((a, oe4) :: (X.pn ++ pins))) (v := .ref a) inS4 hN hi (.inl hln) rfl (fun s5 in5 => ?_) (.inr hln)
    refine wpAny_mono ((hsu a oe4 cls d (X.pn ++ pins) hz4 ⟨_, hd4⟩).run [] s5 _ H _ in5 (yes rfl)) (fun fw s6 => ?_) (fun _ _ z => False.elim z)
    have bye : ∀ {τ : L2.St} {H6 : Hp} {Q : Shared → Prop}, Inv (X.suite a ((a, oe4) :: (X.pn ++ pins))) [] τ H6 s6 → (∀ s7, Inv X pins (τ.set i none) H6 s7 → Q s7) →
        wpAny (model X.prog X.w) X.A (do bindName X.env n .none; unbindBehindTheSuite X.env n hp) (fun _ s7 => Q s7) X.xe s6 := fun {τ H6 Q} in6 hq => gone_ok (in6.unsuite ok) hN hi hln hq
    cases fw
    · rintro ⟨τ, H6, in6, q⟩
      exact bye in6 fun s7 in7 => ⟨_, _, in7, q⟩
    · rintro ⟨τ, H6, in6, q⟩
      exact bye in6 fun s7 in7 => ⟨_, _, in7, q⟩
    · rintro ⟨τ, H6, in6, q⟩
      exact bye in6 fun s7 in7 => ⟨_, _, in7, q⟩
    · rintro ⟨v, τ, H6, in6, r, q⟩
      exact bye in6 fun s7 in7 => ⟨_, _, _, in7, r, q⟩
end
section
variable {X : Cx} {body : List Stmt} {h₀ : ExceptHandler} {hds : List ExceptHandler} {l : List ClA} {pos : Pos} {tb : WX → TS} {Wout : WX}
theorem Fell.clauses {B : Heap} {sI sN : Shared} {pins : List (Addr × Obj)} {σ : L2.St} {H : Hp} {a : Addr} {cls : Value} {d : Option Addr} {D : Ends} (h : Fell X B sI pins σ H a cls d sN) (ok : X.Ok) (hs : X.stack = X.env :: X.outer) (hf : X.env.frame = some X.env.locals) (hN : X.N.Nodup) (tk : Takes X Wout) (hh : HdsA X hds l) :
    wManyA X.K Wout D l cls d σ H → wpAny (model X.prog X.w) X.A (handleBy (.ref a) X.env hds) (SP X pins D) X.xe sN := by
  induction hh with
  | nil => exact fun w => h.goes hs hf tk w
  | cons hc hi hln hsu _ ih =>
    rintro ⟨b, hb, yes, no⟩
    exact h.clause ok hf hN hc hi hln hsu hb (fun e => yes e a h.free) (fun e => ih (no e))
theorem ps_try_manyA (hs : X.stack = X.env :: X.outer) (hf : X.env.frame = some X.env.locals) (hN : X.N.Nodup) (tk : Takes X Wout)
    (hb : ∀ (W : WX) (pn : List (Addr × Obj)) (xe : Value → Shared → Prop), Takes (X.tr pn xe) W → PassesOwn (model X.prog X.w) X.A X.env xe → PSs (X.tr pn xe) body (tb W))
    (hh : HdsA X (h₀ :: hds) l) : PS X (.Try body (h₀ :: hds) [] [] pos) (fun D σ H => tb (wManyA X.K Wout D l) D σ H) := by
  constructor
  intro pins s σ H D I h
  have ok := I.ok
  apply wpAny_Try_except
  have run := (hb (wManyA X.K Wout D l) (X.pn ++ pins) (fun e s₁ => wpAny (model X.prog X.w) X.A (noteFrame e X.env) (fun _ s₂ => wpAny (model X.prog X.w) X.A (setFlight e none) (fun _ s₃ => wpAny (model X.prog X.w) X.A (handleBy e X.env (h₀ :: hds)) (SP X pins D) X.xe s₃) X.xe s₂) X.xe s₁) ?_ PassesOwn.looking).run [] s σ H D (I.toTry _) h
  · refine wpAny_mono run (fun f s1 => ?_) (fun e s1 z => z)
    cases f
    · rintro ⟨τ, H1, in1, q⟩
      exact wpAny_execs_nil ⟨τ, H1, in1.ofTry ok, q⟩
    · rintro ⟨τ, H1, in1, q⟩
      exact ⟨τ, H1, in1.ofTry ok, q⟩
    · rintro ⟨τ, H1, in1, q⟩
      exact ⟨τ, H1, in1.ofTry ok, q⟩
    · rintro ⟨v, τ, H1, in1, r, q⟩
      exact ⟨v, τ, H1, in1.ofTry ok, r, q⟩
  · rintro u s' ⟨a, B, sI, pins', τ, H1, cls, d, rfl, in1, old, upto, sky, free, os, gens, w⟩
    have sky2 : Sky B (X.env :: X.outer) a (Zc cls d) X.env.locals s'.heap := hs ▸ sky
    have fr : X.A.frames = some (X.env :: X.outer) := ok.frames.trans (congrArg some hs)
    show wpAny (model X.prog X.w) X.A (noteFrame (.ref a) X.env) _ _ _
    apply Sky.land Zc.steady fr hf sky2
    intro h3 fl3 up3
    have fell : Fell X B sI pins τ H1 a cls d { s' with heap := h3 } := ⟨in1.ofTry ok, old, fl3, upto.trans up3, os, gens, free⟩
    exact fell.clauses ok hs hf hN tk hh w
end
/-! the mirror -/
structure MCl (O : Wo) where
  mt : Addr → Option Bool
  i : Nat
  ms : MS O
def mCls (O : Wo) (c : Addr) (fs : List (Str × D)) (ρ1 : Ev) (s1 : O.S) : List (MCl O) → RS O.S
  | [] => .err c fs ρ1 s1
  | k :: r => match k.mt c with
    | some true => if ρ1.all noExc = true then clrS k.i (k.ms (ρ1.set k.i (.exc c fs)) s1) else .bad
    | some false => mCls O c fs ρ1 s1 r
    | none => .bad
def mTryM (O : Wo) (l : List (MCl O)) (mb : MS O) : MS O := fun ρ s => match mb ρ s with
  | .err c fs ρ1 s1 => mCls O c fs ρ1 s1 l
  | r => r
section
variable {K : PySem.W.Frag} {O : Wo} {Wx : WX} {X : Cx} {G0 H0 G H G1 H1 : Hp} {σ : L2.St} {ρ : Ev} {s s1 : O.S}
/-- clauses and their mirrors -/
structure DH (K : PySem.W.Frag) (O : Wo) (Wx : WX) (X : Cx) (hds : List ExceptHandler) (ml : List (MCl O)) : Prop where
  ex : ∃ l : List ClA, HdsA X hds l ∧ ∀ (G0 H0 G : Hp) (Dn : Ends) (c : Addr) (fs : List (Str × D)) (ρ1 : Ev) (s1 : O.S), PstS K O Wx G0 H0 G (mCls O c fs ρ1 s1 ml) Dn → ∀ σ' dd xs G' H', Same G G' → Fs K O G0 H0 σ' ρ1 G' H' s1 → H' dd = some (.xd xs) → ¬ O.W dd → RepF K G' xs fs → wManyA K Wx Dn l (.ref c) (some dd) σ' H'
theorem dh_nil : DH K O Wx X [] [] := ⟨[], .nil, fun G0 H0 G Dn c fs ρ1 s1 h σ' dd xs G' H' e F' a b c' => h σ' dd xs G' H' e F' a b c'⟩
theorem dh_cons (i : Nat) {x n : Str} {cv : Value} {mt : Addr → Option Bool} {suite : List Stmt} {b0 : Stmt} {np pos' : Pos} {ms : MS O} {hds : List ExceptHandler} {ml : List (MCl O)} (c : Cs K Wx X) (hm : ∀ c b, mt c = some b → PySem.W.exmOne K (.ref c) cv = some b) (hc : Names X x cv)
    (hsu : ∃ (ts : Addr → Value → Option Addr → TS) (mh : ∀ (a : Addr) (cls : Value) (d : Option Addr), MS (O.hold a cls d)), (∀ (a : Addr) (oe : Obj) (cls : Value) (d : Option Addr) (pn : List (Addr × Obj)), Zc cls d oe → (∃ vs, oe.data = .fields vs) → Cn K WF (X.suite a ((a, oe) :: pn)) → DB K (O.hold a cls d) WF (X.suite a ((a, oe) :: pn)) (b0 :: suite) (ts a cls d) (mh a cls d)) ∧ ∀ a cls d, mh a cls d = ms)
    (r : DH K O Wx X hds ml) (hi : X.N[i]? = some n := by rfl) (hln : X.env.kindOf n = some .local := by rfl) : DH K O Wx X (.ExceptHandler (some (.Name x np)) (some n) (b0 :: suite) pos' :: hds) (⟨mt, i, ms⟩ :: ml) := by
  obtain ⟨ts, mh, h1, h2⟩ := hsu
  obtain ⟨l, hl, hw⟩ := r.ex
  have cs : ∀ (a : Addr) (oe : Obj) (pn : List (Addr × Obj)), Cn K WF (X.suite a ((a, oe) :: pn)) := fun a oe pn => ⟨c.cn.hK, takes0⟩
  have hsu : ∀ (a : Addr) (oe : Obj) (cls : Value) (d : Option Addr) (pn : List (Addr × Obj)), Zc cls d oe → (∃ vs, oe.data = .fields vs) → Cn K WF (X.suite a ((a, oe) :: pn)) → DB K (O.hold a cls d) WF (X.suite a ((a, oe) :: pn)) (b0 :: suite) (ts a cls d) ms := fun a oe cls d pn hz hf cn => by
    have := h1 a oe cls d pn hz hf cn
    rw [h2] at this
    exact this
  refine ⟨(cv, i, ts) :: l, .cons hc hi hln (fun a oe cls d pn hz hfv => (hsu a oe cls d pn hz hfv (cs a oe pn)).pe) hl, ?_⟩
  intro G0 H0 G Dn c' fs ρ1 s1 h σ' dd xs G' H' e F' hdd nW r
  unfold mCls at h
  dsimp only at h
  split at h
  · rename_i em
    refine ⟨true, hm _ _ em, fun _ a na => ?_, fun z => by cases z⟩
    split at h
    · rename_i hn
      have ss := (hsu a { cls := .ref c', dict := some dd, data := .fields #[] } (.ref c') (some dd) [] ⟨rfl, rfl⟩ ⟨_, rfl⟩ (cs ..)).sn
      refine ss G0 H0 _ _ G' H' s1 _ (F'.hold hn hdd nW r) ?_
      have h2 := PstS.shift e h
      revert h2
      cases ms (ρ1.set i (.exc c' fs)) s1 with
      | nx ρ2 s2 =>
        intro h2 σ2 G2 H2 e2 F2
        simp only [clrS] at h2
        split at h2
        · rename_i hn2; exact h2 _ G2 H2 e2 (F2.unhold hn2)
        · exact h2.elim
      | bk ρ2 s2 =>
        intro h2 σ2 G2 H2 e2 F2
        simp only [clrS] at h2
        split at h2
        · rename_i hn2; exact h2 _ G2 H2 e2 (F2.unhold hn2)
        · exact h2.elim
      | ct ρ2 s2 =>
        intro h2 σ2 G2 H2 e2 F2
        simp only [clrS] at h2
        split at h2
        · rename_i hn2; exact h2 _ G2 H2 e2 (F2.unhold hn2)
        · exact h2.elim
      | rt d s2 => exact fun h2 => h2
      | rn ds s2 => exact fun h2 => h2
      | err _ _ _ _ => exact fun h2 => (show False from h2).elim
      | bad => exact fun h2 => h2
    · exact h.elim
  · rename_i em
    exact ⟨false, hm _ _ em, fun z => (by cases z), fun _ => hw G0 H0 G Dn c' fs ρ1 s1 h σ' dd xs G' H' e F' hdd nW r⟩
  · exact h.elim
theorem ds_tryM {body : List Stmt} {h₀ : ExceptHandler} {hds : List ExceptHandler} {ml : List (MCl O)} {pos : Pos} {mb : MS O} (c : Cs K Wx X) (hh : DH K O Wx X (h₀ :: hds) ml)
    (hb : ∃ tb : WX → TS, ∀ (W : WX) (pn : List (Addr × Obj)) (xe : Value → Shared → Prop), Cs K W (X.tr pn xe) → DB K O W (X.tr pn xe) body (tb W) mb)
    (hs : X.stack = X.env :: X.outer := by rfl) (hf : X.env.frame = some X.env.locals := by rfl) :
    DS K O Wx X (.Try body (h₀ :: hds) [] [] pos) (fun D σ H => hb.choose (wManyA K Wx D hh.ex.choose) D σ H) (mTryM O ml mb) := by
  have ct : ∀ (W : WX) (pn : List (Addr × Obj)) (xe : Value → Shared → Prop), Takes (X.tr pn xe) W → PassesOwn (model X.prog X.w) X.A X.env xe → Cs K W (X.tr pn xe) := fun W pn xe tk po => ⟨⟨c.cn.hK, tk⟩, po, c.hc, c.nd⟩
  have hb2 := hb.choose_spec
  obtain ⟨hl, hw⟩ := hh.ex.choose_spec
  refine ⟨?_, fun G0 H0 σ ρ G H s Dn F h => ?_⟩
  · have hk : X.K = K := c.cn.hK
    subst hk
    exact ps_try_manyA hs hf c.nd c.cn.tk (fun W pn xe tk po => (hb2 W pn xe (ct W pn xe tk po)).pe) hl
  · have sb : SndS K O (wManyA K Wx Dn hh.ex.choose) (hb.choose (wManyA K Wx Dn hh.ex.choose)) mb := (hb2 _ [] _ (ct _ [] (lookX X) (looks_takes hs hf) PassesOwn.looking)).sn
    refine sb G0 H0 σ ρ G H s Dn F ?_
    unfold mTryM at h
    revert h
    cases mb ρ s with
    | nx ρ s => exact fun h => h
    | bk ρ s => exact fun h => h
    | ct ρ s => exact fun h => h
    | rt d s => exact fun h => h
    | rn ds s => exact fun h => h
    | bad => exact fun h => h
    | err c' fs ρ1 s1 => exact fun h => hw G0 H0 G Dn c' fs ρ1 s1 h
end
end Mr

namespace Mr
open PySem PySem.Spec PyProof.Rows L2 RZ
/-! ### calls with keywords: keyword-only parameters, some with defaults -/
/-- the things at the places is -/
def plc {α : Type} (is : List Nat) (xs : List α) : List α := is.filterMap fun i => xs[i]?
theorem plc_vals {is : List Nat} {vs : List V} {us : List Value} (h : Vals vs us) : Vals (plc is vs) (plc is us) := by
  unfold plc
  induction is with
  | nil => exact .nil
  | cons i is ih =>
    have key : ∀ {vs : List V} {us : List Value}, Vals vs us → ∀ i : Nat, (vs[i]? = none ∧ us[i]? = none) ∨ ∃ v u, vs[i]? = some v ∧ us[i]? = some u ∧ RelV v u := by
      intro vs us h
      induction h with
      | nil => exact fun i => .inl ⟨rfl, rfl⟩
      | cons r h ih =>
        intro i
        cases i with
        | zero => exact .inr ⟨_, _, rfl, rfl, r⟩
        | succ i => exact ih i
    rcases key h i with ⟨e1, e2⟩ | ⟨v, u, e1, e2, r⟩
    · rw [List.filterMap_cons_none e1, List.filterMap_cons_none e2]
      exact ih
    · rw [List.filterMap_cons_some e1, List.filterMap_cons_some e2]
      exact .cons r ih
theorem plc_reps {K : PySem.W.Frag} {G : Hp} {is : List Nat} {vs : List V} {ds : List D} (h : Reps K G vs ds) : Reps K G (plc is vs) (plc is ds) := by
  unfold plc
  induction is with
  | nil => exact .nil
  | cons i is ih =>
    cases e : vs[i]? with
    | none =>
      have e2 : ds[i]? = none := by
        rw [List.getElem?_eq_none_iff] at e ⊢
        rw [← h.length]
        exact e
      rw [List.filterMap_cons_none e, List.filterMap_cons_none e2]
      exact ih
    | some v =>
      obtain ⟨d, e2, r⟩ := h.get e
      rw [List.filterMap_cons_some e, List.filterMap_cons_some e2]
      exact .cons r ih
/-- a def as it stands behind the top, its keyword defaults kd -/
structure FunK (K : PySem.W.Frag) (x qual : Str) (st : Stmt) (kd : List (Str × V)) (f : Addr) (fd : FuncData) : Prop where
  fn : Fun K x qual st f fd
  ex : ∃ (kV doc pm : Value) (an : Option Addr) (cdv ct : Value), fd = PySem.W.fnOf x qual (defArgs st) (defBody st) (defScope st) .none kV doc pm an cdv ct ∧ KwdV K kV kd
/-- the parameters ps of a call with n values and the keywords ks, where those of ms lack -/
def Site (x qual : Str) (st : Stmt) (ps : List Str) (n : Nat) (ks : List Str) (ms : List (Str × V)) (is : List Nat) : Prop :=
  ∀ (kV : Value) (D : Addr) (doc pm : Value) (an : Option Addr) (cdv ct : Value) (us ws mv : List Value), us.length = n → ws.length = ks.length → mv.length = ms.length → (ms ≠ [] → kV = .ref D) →
    KwChain D ((ms.map (·.1)).zip mv) (bindArgs (PySem.W.fnOf x qual (defArgs st) (defBody st) (defScope st) .none kV doc pm an cdv ct) ⟨us, ks.zip ws⟩) (ps.zip (plc is (us ++ (ws ++ mv))))
theorem FunK.kb {K : PySem.W.Frag} {x qual : Str} {st : Stmt} {kd ms : List (Str × V)} {f : Addr} {fd : FuncData} {ps ks : List Str} {n : Nat} {is : List Nat} (F : FunK K x qual st kd f fd) (S : Site x qual st ps n ks ms is) (hms : ∀ q ∈ ms, q ∈ kd) :
    ∃ g, KBn K fd ps n ks g (fun vs zs => plc is (vs ++ (zs ++ ms.map (·.2)))) := by
  obtain ⟨kV, doc, pm, an, cdv, ct, rfl, hk⟩ := F.ex
  have key : ∃ (D : Addr) (mv : List Value), mv.length = ms.length ∧ Vals (ms.map (·.2)) mv ∧ (∀ q ∈ (ms.map (·.1)).zip mv, PySem.W.nsIn K D q.1 = some (some q.2)) ∧ (ms ≠ [] → kV = .ref D) := by
    by_cases hm : ms = []
    · subst hm
      exact ⟨0, [], rfl, .nil, fun q hq => absurd hq List.not_mem_nil, fun h => absurd rfl h⟩
    · rcases hk with e | ⟨D, e, hq⟩
      · exfalso
        obtain ⟨q, hq⟩ := List.exists_mem_of_ne_nil ms hm
        have := hms q hq
        rw [e] at this
        exact absurd this List.not_mem_nil
      · obtain ⟨mv, l1, v1, h1⟩ := kwd_vals (ms := ms) fun q h => hq q (hms q h)
        exact ⟨D, mv, l1, v1, h1, fun _ => e⟩
  obtain ⟨D, mv, l1, v1, h1, h2⟩ := key
  refine ⟨fun us ws => plc is (us ++ (ws ++ mv)), fun s us ws X l2 l3 => ?_, fun r1 r2 => plc_vals (r1.append (r2.append v1))⟩
  exact BindsTo.of_looks fun M => KwChain.looks X h1 (S kV D doc pm an cdv ct us ws mv l2 l3 l1 h2)
section
variable {K : PySem.W.Frag} {O : Wo} {Wx : WX} {X : Cx}
structure DK (K : PySem.W.Frag) (O : Wo) (Wx : WX) (X : Cx) (e : List Keyword) (t : TA) (m : MA O) : Prop where
  pe : PK X e t
  sn : SndA K O Wx t m
theorem dk_nil (c : Cn K Wx X) : DK K O Wx X [] tNil (mNil O) := ⟨pk_nil, (da_nil c).sn⟩
theorem dk_cons {e : Expr} {te : TE} {me : ME O} {kws : List Keyword} {ta : TA} {ma : MA O} {nm : Option Str} {kpos : Pos} (he : DE K O Wx X e te me) (ha : DK K O Wx X kws ta ma) : DK K O Wx X (⟨nm, e, kpos⟩ :: kws) (tCons te ta) (mCons O me ma) := by
  refine ⟨pk_cons he.pe ha.pe, fun σ ρ H0 G H s Q F h => ?_⟩
  refine he.sn σ ρ H0 G H s _ F (pst_bind h fun dx s1 _ x G1 H1 t1 k1 r1 h1 => ?_)
  refine ha.sn σ ρ H0 G1 H1 s1 _ (F.tr t1 k1) (pst_bind h1 fun ds s2 _ xs G2 H2 t2 k2 r2 h2 => ?_)
  exact h2 (x :: xs) G2 H2 (.refl t2.gh) k2 (.cons (r1.mono t2.gg) r2)
/-- a call with keywords whose exceptions are told with the slots -/
def tCallKS (n m : Nat) (sp : Sp) (gV : List V → List V → List V) (E : L2.St → XK) (t tk : TA) : TE := fun σ H Q => t σ H fun vs H1 => tk σ H1 fun zs H2 => vs.length = n ∧ zs.length = m ∧ sp (gV vs zs) H2 Q (E σ)
theorem pe_callKS {CX : CXT} {k n : Nat} {f : Addr} {fd : FuncData} {ps ks : List Str} {sp : Sp} {E : L2.St → XK} {x : Str} {p pos : Pos} {e : Expr} {es : List Expr} {kws : List Keyword} {t tk : TA} {g : List Value → List Value → List Value} {gV : List V → List V → List V}
    (F : FnOk X.prog X.w X.K X.mg X.base CX k f fd ps sp) (hr : Room k X.A) (hg : Gl X x) (hm : X.mg x = some (.ref f)) (kp : PySem.W.keepIn X.K (.ref f) = true) (hb : KBn X.K fd ps n ks g gV) (hx : ∀ σ, PassesAt CX X σ (E σ)) (ha : PA X (e :: es) t) (hkw : PK X kws tk)
    (hall : (backToKw pos (keywordEach kws X.env)).all (·.1.isSome) = true) (hks : (backToKw pos (keywordEach kws X.env)).filterMap (·.1) = ks) (hdb : (x == ("__debug__" : Str)) = false) (he : starEach (e :: es) X.env = (false, eval e X.env) :: starEach es X.env)
    (hpl : ((backTo pos (starEach (e :: es) X.env)).any (·.1) || (backToKw pos (keywordEach kws X.env)).any (·.1.isNone)) = false) : PE X (.Call (.Name x p) (e :: es) kws pos) (tCallKS n ks.length sp gV E t tk) := by
  constructor
  intro pins s σ H Q I h
  apply wpAny_Call_Name_kw
  apply ld_glob I hg hm _ hdb
  refine PySem.W.callWith_KW (h₀ := X.base) I.ok.mod.kin kp hall (thn (ha.run pos pins s σ H _ I h) ?_) hpl he
  rintro us s1 ⟨vs, H1, I1, r, q⟩
  refine thn (hkw.run pos pins s1 σ H1 _ I1 q) ?_
  rintro ws s2 ⟨zs, H2, I2, rz, l1, l2, q2⟩
  refine ⟨I2.kIn, ?_⟩
  rw [hks]
  refine wpAny_call (codeAny_mono (F.run X.A X.stack s2 H2 ⟨us, ks.zip ws⟩ (g us ws) (gV vs zs) Q (E σ) hr I2.env0 (hb.to s2 us ws I2.kIn (by rw [← r.length]; exact l1) (by rw [← rz.length]; exact l2)) (hb.rel r rz) q2) ?_)
  rintro (e | fl) s' z
  · exact hx σ pins H2 s2 e s' I2 z
  · cases fl
    · exact z.elim
    · exact z.elim
    · exact z.elim
    · exact I2.after z
def mCallK (O : Wo) (n j k : Nat) (is : List Nat) (dd : List D) (m : List D → O.S → R O.S D) (a b : MA O) : ME O := fun ρ s => (a ρ s).bind fun xs s1 => (b ρ s1).bind fun ys s2 => if xs.length = n ∧ ys.length = j ∧ (plc is (xs ++ (ys ++ dd))).length = k then m (plc is (xs ++ (ys ++ dd))) s2 else .bad
/-- a def that is called by its name, with keywords -/
structure FoK (P : Program) (w : World) (K : PySem.W.Frag) (mg : Str → Option Value) (base : Heap) (O : Wo) (k : Nat) (x : Str) (st : Stmt) (ps : List Str) (kd : List (Str × V)) (m : List D → O.S → R O.S D) : Prop where
  ex : ∃ f fd, FnOk P w K mg base (L2.CX P w) k f fd ps (spM K O ps.length m) ∧ mg x = some (.ref f) ∧ FunK K x x st kd f fd
theorem de_callK {k j n : Nat} {x : Str} {st : Stmt} {ps ks : List Str} {kd ms : List (Str × V)} {is : List Nat} {dd : List D} {m : List D → O.S → R O.S D} {e : Expr} {es : List Expr} {kws : List Keyword} {ta tk : TA} {ma mk : MA O} {p pos : Pos} (F : FoK X.prog X.w X.K X.mg X.base O k x st ps kd m) (hr : Room j X.A) (hk : k ≤ j)
    (S : Site x x st ps n ks ms is) (hms : ∀ q ∈ ms, q ∈ kd) (hdd : ∀ G, Reps K G (ms.map (·.2)) dd) (ha : DA K O Wx X (e :: es) ta ma) (hw : DK K O Wx X kws tk mk)
    (hg : Gl X x := by rfl) (hall : (backToKw pos (keywordEach kws X.env)).all (·.1.isSome) = true := by rfl) (hks : (backToKw pos (keywordEach kws X.env)).filterMap (·.1) = ks := by rfl)
    (hdb : (x == ("__debug__" : Str)) = false := by decide) (he : starEach (e :: es) X.env = (false, eval e X.env) :: starEach es X.env := by rfl)
    (hpl : ((backTo pos (starEach (e :: es) X.env)).any (·.1) || (backToKw pos (keywordEach kws X.env)).any (·.1.isNone)) = false := by rfl) :
    DE K O Wx X (.Call (.Name x p) (e :: es) kws pos) (tCallKS n ks.length (spM K O ps.length m) (fun vs zs => plc is (vs ++ (zs ++ ms.map (·.2)))) (WE Wx) ta tk) (mCallK O n ks.length ps.length is dd m ma mk) := by
  obtain ⟨f, fd, Fn, hm, FK⟩ := F.ex
  obtain ⟨g, kb⟩ := FK.kb S hms
  have hK := ha.hK
  subst hK
  refine ⟨rfl, ha.tk, pe_callKS Fn (hr.mono hk) hg hm FK.fn.kp kb (fun σ => passAt ha.tk σ) ha.pe hw.pe hall hks hdb he hpl, fun σ ρ H0 G H s Q F hq => ?_⟩
  refine ha.sn σ ρ H0 G H s _ F (pst_bind hq fun ds s1 _ xs G1 H1 t1 k1 r1 h1 => ?_)
  have F1 := F.tr t1 k1
  refine hw.sn σ ρ H0 G1 H1 s1 _ F1 (pst_bind h1 fun es s2 _ ys G2 H2 t2 k2 r2 h2 => ?_)
  have F2 := F1.tr t2 k2
  by_cases c : ds.length = n ∧ es.length = ks.length ∧ (plc is (ds ++ (es ++ dd))).length = ps.length
  · rw [if_pos c] at h2
    have r3 := plc_reps (is := is) ((r1.mono t2.gg).append (r2.append (hdd G2)))
    refine ⟨by rw [r1.length]; exact c.1, by rw [r2.length]; exact c.2.1, by rw [r3.length]; exact c.2.2, G2, _, s2, F2.gh, F2.wg, F2.ok, r3, ?_⟩
    revert h2
    cases m (plc is (ds ++ (es ++ dd))) s2 <;> exact fun h2 => h2
  · rw [if_neg c] at h2
    exact (show False from h2).elim
end
section
variable {P : Program} {w : World} {K : PySem.W.Frag} {mg : Str → Option Value} {base : Heap} {O : Wo}
theorem foK_mk {x : Str} {st : Stmt} {kd : List (Str × V)} {f : Addr} {fd : FuncData} {N ps : List Str} {k : Nat} {m : MS O} (F : FunK K x x st kd f fd) (S : FnScope N ps (defScope st)) (hg : mg x = some (.ref f))
    (hbody : ∀ (cdv : Value) (A : Around) (outer : List Env) (s : Shared) (H : Hp) (E : XK), Room k (A.deeper (envOfC x (defScope st) s.heap.objs.size f cdv)) →
      Cs K (fun cls d _ H => E cls d H) (cxOf (L2.CX P w) P w K mg base N x (defScope st) f cdv A outer s H E) →
      ∃ t, DB K O (fun cls d _ H => E cls d H) (cxOf (L2.CX P w) P w K mg base N x (defScope st) f cdv A outer s H E) (defBody st) t m) : FoK P w K mg base O (k + 1) x st ps kd (runF O N.length m) := ⟨f, fd, fn_mk F.fn S hbody, hg, F⟩
theorem funK_mk {x qual : Str} {st : Stmt} {f : Addr} {od an : Option Addr} {sl : Array (Option Value)} {oc kV dc pm cd ct : Value} {kd : List (Str × V)} (lk : K.lookup f = some ⟨oc, od, .func (PySem.W.fnOf x qual (defArgs st) (defBody st) (defScope st) .none kV dc pm an cd ct), sl⟩) (hc : PySem.W.codeIn K cd qual = true) (hk : PySem.W.keepIn K (.ref f) = true) (h : KwdV K kV kd) :
    FunK K x qual st kd f (PySem.W.fnOf x qual (defArgs st) (defBody st) (defScope st) .none kV dc pm an cd ct) := ⟨fun_mk lk hc hk, _, _, _, _, _, _, rfl, h⟩
end
end Mr

namespace Mr
open PySem PySem.Spec PyProof.Rows L2 RZ
section
variable {K : PySem.W.Frag} {O : Wo} {Wx : WX} {X : Cx} {G H : Hp}
/-! ### list(x) as a new list -/
def mListN (O : Wo) (a : MA O) : MA O := fun ρ s => (a ρ s).bind fun ds s1 => match ds with
  | [.lst xs] => .ok xs s1
  | [.tup xs] => .ok xs s1
  | _ => .bad
theorem dn_listOf {e : Expr} {es : List Expr} {ta : TA} {ma : MA O} {p pos : Pos} (hm : X.mg "list" = none) (ha : DA K O Wx X (e :: es) ta ma)
    (hg : Gl X "list" := by rfl) (he : starEach (e :: es) X.env = (false, eval e X.env) :: starEach es X.env := by rfl) (hpl : (backTo pos (starEach es X.env)).any (·.1) = false := by rfl) :
    DN K O Wx X (.Call (.Name "list" p) (e :: es) [] pos) (tCB (rListOf K) ta) (mListN O ma) := by
  refine ⟨ha.hK, ha.tk, (de_callT (f := dListOf) (call_listG ha.hK) vcl_listOf hm (by decide +kernel) ha hg (by decide) (by decide) he hpl).pe, fun σ ρ H0 G H s Q F h => ?_⟩
  refine ha.sn σ ρ H0 G H s _ F (pstN_bind h fun ds s1 _ vs G1 H1 t1 k1 r1 h1 => ?_)
  have F1 := F.tr t1 k1
  split at h1
  · cases r1 with
    | cons ra rb =>
      cases rb
      cases ra with
      | lst hs r => exact ⟨_, _, rfl, .inl (F1.gh.seq hs), fun l n => newL (.refl F1.gh) k1 F1.gh h1 r n⟩
  · cases r1 with
    | cons ra rb =>
      cases rb
      cases ra with
      | tup hs r => exact ⟨_, _, rfl, .inr (sq_t F1.gh hs), fun l n => newL (.refl F1.gh) k1 F1.gh h1 r n⟩
  · exact (show False from h1).elim
theorem ds_ownLc2 (i : Nat) {y : Str} {elt tg iter tg1 iter1 : Expr} {ifs ifs1 : List Expr} {scope : Scope} {pos py spos : Pos} {t : TE} {m : MA O} (h : DLc2 K O Wx X elt tg iter tg1 iter1 ifs ifs1 scope pos t m) (hi : X.N[i]? = some y := by rfl) (hyl : X.env.scope.names.lookup y = some .local := by rfl)
    (hsw : swapsWith (.ListComp elt [⟨tg, iter, ifs, 0⟩, ⟨tg1, iter1, ifs1, 0⟩] scope pos) (some (.Name y py)) spos.line X.env = pure true := by exact sw_true rfl rfl rfl (by decide +kernel)) :
    DS K O Wx X (.Assign [.Name y py] (.ListComp elt [⟨tg, iter, ifs, 0⟩, ⟨tg1, iter1, ifs1, 0⟩] scope pos) spos) (tAsg t (gName i)) (mOwn O i m) := ⟨h.ps i y py spos hi hyl hsw, snd_own h.dn.sn⟩
end
end Mr

namespace Mr
open PySem PySem.Spec PyProof.Rows L2 RZ
/-! ### an own list is lent for one expression: the value has no list in it -/
mutual
def noL : D → Bool
  | .lst _ => false
  | .tup xs => noLs xs
  | .ins _ fs => noLF fs
  | .dct kvs => noLK kvs
  | _ => true
def noLs : List D → Bool
  | [] => true
  | d :: ds => noL d && noLs ds
def noLF : List (Str × D) → Bool
  | [] => true
  | d :: ds => noL d.2 && noLF ds
def noLK : List (Key × D) → Bool
  | [] => true
  | d :: ds => noL d.2 && noLK ds
end
/-- without the object at p -/
def less (G : Hp) (p : Addr) : Hp := fun a => if a = p then none else G a
theorem less_ne {G : Hp} {p a : Addr} {u : HO} {vs : List V} (hp : G p = some (.lst vs)) (h : G a = some u) (hu : ∀ ws, u ≠ .lst ws) : less G p a = some u := by
  unfold less
  rw [if_neg]
  · exact h
  · intro e
    subst e
    rw [hp] at h
    cases h
    exact hu _ rfl
theorem less_t {K : PySem.W.Frag} {G : Hp} {p a : Addr} {vs xs : List V} (hp : G p = some (.lst vs)) (h : SqT K G a xs) : SqT K (less G p) a xs := by
  rcases h with (h | ⟨o, h⟩) | h
  · exact .inl (.inl (less_ne hp h fun _ z => by cases z))
  · exact .inl (.inr ⟨o, less_ne hp h fun _ z => by cases z⟩)
  · exact .inr h
section
variable {K : PySem.W.Frag} {G : Hp} {p : Addr} {vs : List V}
mutual
theorem Rep.less (hp : G p = some (.lst vs)) : ∀ {v : V} {d : D}, Rep K G v d → noL d = true → Rep K (less G p) v d
  | _, _, .non, _ => .non
  | _, _, .bl b, _ => .bl b
  | _, _, .int i, _ => .int i
  | _, _, .str x, _ => .str x
  | _, _, .lst h r, n => by simp [noL] at n
  | _, _, .tup h r, n => .tup (less_t hp h) (Reps.less hp r (by simpa [noL] using n))
  | _, _, .ref a, _ => .ref a
  | _, _, .ty n, _ => .ty n
  | _, _, .ins h r, n => .ins (less_ne hp h fun _ z => by cases z) (RepF.less hp r (by simpa [noL] using n))
  | _, _, .dct h r, n => .dct (less_ne hp h fun _ z => by cases z) (RepK.less hp r (by simpa [noL] using n))
theorem Reps.less (hp : G p = some (.lst vs)) : ∀ {v : List V} {d : List D}, Reps K G v d → noLs d = true → Reps K (less G p) v d
  | _, _, .nil, _ => .nil
  | _, _, .cons h r, n => by
    simp only [noLs, Bool.and_eq_true] at n
    exact .cons (Rep.less hp h n.1) (Reps.less hp r n.2)
theorem RepF.less (hp : G p = some (.lst vs)) : ∀ {v : List (Str × V)} {d : List (Str × D)}, RepF K G v d → noLF d = true → RepF K (less G p) v d
  | _, _, .nil, _ => .nil
  | _, _, .cons h r, n => by
    simp only [noLF, Bool.and_eq_true] at n
    exact .cons (Rep.less hp h n.1) (RepF.less hp r n.2)
theorem RepK.less (hp : G p = some (.lst vs)) : ∀ {v : List (Key × V)} {d : List (Key × D)}, RepK K G v d → noLK d = true → RepK K (less G p) v d
  | _, _, .nil, _ => .nil
  | _, _, .cons h r, n => by
    simp only [noLK, Bool.and_eq_true] at n
    exact .cons (Rep.less hp h n.1) (RepK.less hp r n.2)
end
theorem tr_less {W : Addr → Prop} {H G' H' : Hp} (gp : G p = none) (t : Tr W (upd G p (.lst vs)) H G' H') : Tr W G H (less G' p) H' := by
  have ne : ∀ {b : Addr} {u : HO}, less G' p b = some u → b ≠ p ∧ G' b = some u := by
    intro b u e
    unfold less at e
    split at e
    · cases e
    · rename_i h; exact ⟨h, e⟩
  refine ⟨fun b u e => ?_, fun b u e => t.gh b u (ne e).2, fun b u e => ?_, t.kp, t.dm⟩
  · have hb : b ≠ p := ne_of_none e gp
    unfold less
    rw [if_neg hb]
    exact t.gg b u (by rw [upd_ne hb]; exact e)
  · obtain ⟨hb, e⟩ := ne e
    rcases t.gr b u e with q | q
    · rw [upd_ne hb] at q; exact .inl q
    · exact .inr q
end
section
variable {K : PySem.W.Frag} {O : Wo} {Wx : WX} {X : Cx} {G H H0 : Hp} {σ : L2.St} {ρ : Ev} {s : O.S}
def lendR {S α : Type} (ok : α → Bool) : R S α → R S α
  | .ok d s => if ok d = true then .ok d s else .bad
  | .err c fs s => if noLF fs = true then .err c fs s else .bad
  | .bad => .bad
theorem pst_lend {α β : Type} {rel : Hp → β → α → Prop} {okd : α → Bool} {r : R O.S α} {Q : β → Hp → Prop} {p : Addr} {vs : List V} (hrel : ∀ {G v d}, G p = some (.lst vs) → rel G v d → okd d = true → rel (less G p) v d) (gp : G p = none)
    (h : Pst K O Wx σ G H rel (lendR okd r) Q) : Pst K O Wx σ (upd G p (.lst vs)) H rel r Q := by
  cases r with
  | ok d s' =>
    intro v G' H' t k r
    unfold lendR at h
    dsimp only at h
    split at h
    · rename_i hd
      exact h v (less G' p) H' (tr_less gp t) k (hrel (t.gg p _ upd_same) r hd)
    · exact h.elim
  | err c fs s' =>
    intro dd xs G' H' t k e n r
    unfold lendR at h
    dsimp only at h
    split at h
    · rename_i hd
      exact h dd xs (less G' p) H' (tr_less gp t) k e n (r.less (t.gg p _ upd_same) hd)
    · exact h.elim
  | bad => exact h
theorem Fm.lent (f : Fm K O H0 σ ρ G H s) {i : Nat} {xs : List D} (h : ρ[i]? = some (.own xs)) : ∃ p vs, G p = none ∧ Fm K O H0 σ (ρ.set i (.sh (.lst xs))) (upd G p (.lst vs)) H s := by
  obtain ⟨o, eo, p, vs, rfl, hp, r, gp, wp, h0⟩ := f.at h
  have e1 : Same G (upd G p (.lst vs)) := fun b u e => by rw [upd_ne (ne_of_none e gp)]; exact e
  have e2 : Same (upd G p (.lst vs)) H := fun b u e => by
    by_cases hb : b = p
    · subst hb; rw [upd_same] at e; rw [hp]; exact e
    · rw [upd_ne hb] at e; exact f.gh b u e
  refine ⟨p, vs, gp, e2, fun a w => (by have na : a ≠ p := (fun z => wp (by rw [← z]; exact w)); rw [upd_ne na]; exact f.wg a w), f.ok, by simpa using f.len, fun j o x a b => ?_, fun j k q x y hjk a b c e g => ?_⟩
  · by_cases hj : i = j
    · subst hj
      have h2 := (List.getElem?_eq_some_iff.mp b).1
      rw [List.length_set] at h2
      rw [List.getElem?_set_self h2] at b
      rw [eo] at a
      cases a; cases b
      exact ⟨_, rfl, .lst (.inl (.inl upd_same)) (r.mono e1)⟩
    · rw [List.getElem?_set_ne hj] at b
      have old := f.sl j o x a b
      cases x with
      | no => trivial
      | sh d => obtain ⟨v, a', b'⟩ := old; exact ⟨v, a', b'.mono e1⟩
      | own ys =>
        obtain ⟨p', vs', e', hp', r', gp', wp', h0'⟩ := old
        have np : p' ≠ p := by
          intro z
          subst z
          exact f.ds j i p' _ _ (fun z => hj z.symm) b h rfl rfl (by rw [a, e']) eo
        exact ⟨p', vs', e', hp', r'.mono e1, by rw [upd_ne np]; exact gp', wp', h0'⟩
      | ownD ys =>
        obtain ⟨p', vs', e', hp', r', gp', wp', h0'⟩ := old
        have np : p' ≠ p := by
          intro z
          subst z
          rw [hp] at hp'; cases hp'
        exact ⟨p', vs', e', hp', r'.mono e1, by rw [upd_ne np]; exact gp', wp', h0'⟩
      | ownI C ys =>
        obtain ⟨p', dx', vs', e', hp', r', gp', wp', h0', sf⟩ := old
        have np : p' ≠ p := by
          intro z
          subst z
          rw [hp] at hp'; cases hp'
        exact ⟨p', dx', vs', e', hp', r'.mono e1, by rw [upd_ne np]; exact gp', wp', h0', sf⟩
      | exc c fs =>
        obtain ⟨a', dd, ys, e', q', b', c', d'⟩ := old
        exact ⟨a', dd, ys, e', q', b', c'.mono e1, d'⟩
  · have key : ∀ {k : Nat} {z : Sl}, (ρ.set i (.sh (.lst xs)))[k]? = some z → isOwn z = true → ρ[k]? = some z := by
      intro k z hz ho
      by_cases hk : i = k
      · subst hk
        have h2 := (List.getElem?_eq_some_iff.mp hz).1
        rw [List.length_set] at h2
        rw [List.getElem?_set_self h2] at hz
        cases hz
        cases ho
      · rw [List.getElem?_set_ne hk] at hz; exact hz
    exact f.ds j k q x y hjk (key a c) (key b e) c e g
def mLendE (O : Wo) (i : Nat) (m : ME O) : ME O := fun ρ s => match ρ[i]? with
  | some (.own xs) => lendR noL (m (ρ.set i (.sh (.lst xs))) s)
  | _ => .bad
def mLendQ (O : Wo) (i : Nat) (m : MT O) : MT O := fun ρ s => match ρ[i]? with
  | some (.own xs) => lendR (fun _ => true) (m (ρ.set i (.sh (.lst xs))) s)
  | _ => .bad
theorem de_lendG (i : Nat) {e : Expr} {t : TE} {m : ME O} (h : DE K O Wx X e t m) : DE K O Wx X e t (mLendE O i m) := by
  refine ⟨h.hK, h.tk, h.pe, fun σ ρ H0 G H s Q F q => ?_⟩
  unfold mLendE at q
  split at q
  · rename_i xs ei
    obtain ⟨p, vs, gp, F'⟩ := F.lent ei
    exact h.sn σ _ H0 _ H s Q F' (pst_lend (vs := vs) (fun hp r hd => r.less hp hd) gp q)
  · exact q.elim
theorem dt_lendG (i : Nat) {e : Expr} {t : TT} {m : MT O} (h : DT K O Wx X e t m) : DT K O Wx X e t (mLendQ O i m) := by
  refine ⟨h.hK, h.tk, h.pe, fun σ ρ H0 G H s Q F q => ?_⟩
  unfold mLendQ at q
  split at q
  · rename_i xs ei
    obtain ⟨p, vs, gp, F'⟩ := F.lent ei
    exact h.sn σ _ H0 _ H s Q F' (pst_lend (vs := vs) (fun hp r hd => r) gp q)
  · exact q.elim
end
end Mr

namespace S
open PySem PySem.Spec PyProof.Rows L2 RZ Mr
/-! law_mixed -/
def mb_law_mixed (A : Ad) : MS (O A) :=
  (mSeq (O A) (mAsg (O A) (mBin (O A) dMod (mBin (O A) dPow (mBin (O A) dAdd (mBin (O A) dAdd (mBin (O A) dMod (mVar (O A) 0) (mC (O A) (.int 2147483647))) (mBin (O A) dMul (mC (O A) (.int 7919)) (mVar (O A) 1))) (mC (O A) (.int 104729))) (mC (O A) (.int 5))) (mC (O A) (.int 2147483629))) (fName 2))
  (mRet (O A) (mBin (O A) dMod (mBin (O A) dPow (mBin (O A) dAdd (mBin (O A) dAdd (mBin (O A) dMul (mVar (O A) 2) (mC (O A) (.int 48271))) (mBin (O A) dMul (mBin (O A) dMul (mC (O A) (.int 40503)) (mVar (O A) 1)) (mVar (O A) 1))) (mC (O A) (.int 13))) (mC (O A) (.int 3))) (mC (O A) (.int 1000000007)))))
def m_law_mixed (A : Ad) : List D → Dr → R Dr D := runF (O A) 3 (mb_law_mixed A)
/-! law_take -/
def mb_law_take (A : Ad) : MS (O A) :=
  (mSeq (O A) (mDrSet A.d A.a A.b 0 3 (mBin (O A) dAdd (mDrI A.d A.a A.b 0 3) (mC (O A) (.int 1))))
  (mSeq (O A) (mIfS (O A) (mAnd (O A) (mTest (O A) (mBin (O A) dEq (mDrI A.d A.a A.b 0 1) (mC (O A) (.int 0)))) (mDrNe A.d A.a A.b 0 0)) (mDrPop A.d A.a A.b 0) (mNext (O A)))
  (mSeq (O A) (mIfS (O A) (mTest (O A) (mBin (O A) dGt (mDrI A.d A.a A.b 0 1) (mC (O A) (.int 0))))
    (mSeq (O A) (mAsg (O A) (mBin (O A) dMod (mDrI A.d A.a A.b 0 1) (mVar (O A) 1)) (fName 2))
    (mSeq (O A) (mDrSet A.d A.a A.b 0 1 (mBin (O A) dDiv (mDrI A.d A.a A.b 0 1) (mVar (O A) 1))) (mRet (O A) (mVar (O A) 2)))) (mNext (O A)))
  (mSeq (O A) (mAsg (O A) (mC (O A) (.int 17)) (fName 3))
  (mSeq (O A) (mIfS (O A) (mDrNe A.d A.a A.b 0 2) (mAsg (O A) (mDrIx A.d A.a A.b 0 2 (mBin (O A) dMod (mDrI A.d A.a A.b 0 3) (mDrLen A.d A.a A.b 0 2))) (fName 3)) (mNext (O A)))
  (mSeq (O A) (mAsg (O A) (mC (O A) (.int 0)) (fName 2))
  (mSeq (O A) (mAsg (O A) (mC (O A) (.int 1)) (fName 4))
  (mSeq (O A) (mWhile (O A) (fun _ _ => 100) (mTest (O A) (mBin (O A) dLt (mVar (O A) 4) (mVar (O A) 1)))
    (mSeq (O A) (mAsg (O A) (mBin (O A) dAdd (mBin (O A) dMul (mVar (O A) 2) (mC (O A) (.int 1000000007))) (mCall (O A) 2 (m_law_mixed A) (mCons (O A) (mVar (O A) 3) (mCons (O A) (mBin (O A) dAdd (mDrI A.d A.a A.b 0 3) (mBin (O A) dMul (mC (O A) (.int 1009)) (mBin (O A) dMod (mVar (O A) 2) (mC (O A) (.int 97))))) (mNil (O A)))))) (fName 2))
    (mAsg (O A) (mBin (O A) dMul (mVar (O A) 4) (mC (O A) (.int 1000000007))) (fName 4))))
  (mRet (O A) (mBin (O A) dMod (mVar (O A) 2) (mVar (O A) 1)))))))))))
def m_law_take (A : Ad) : List D → Dr → R Dr D := runF (O A) 5 (mb_law_take A)
/-! law_number -/
def mb_law_number (A : Ad) : MS (O A) :=
  (mSeq (O A) (mAsg (O A) (mCall (O A) 2 (m_law_take A) (mCons (O A) (mVar (O A) 0) (mCons (O A) (mC (O A) (.int 8)) (mNil (O A))))) (fName 1))
  (mSeq (O A) (mIfS (O A) (mTest (O A) (mBin (O A) dLt (mVar (O A) 1) (mC (O A) (.int 6))))
  (mRet (O A) (mBin (O A) dSub (mCall (O A) 2 (m_law_take A) (mCons (O A) (mVar (O A) 0) (mCons (O A) (mC (O A) (.int 12)) (mNil (O A))))) (mC (O A) (.int 3))))
  (mNext (O A)))
  (mSeq (O A) (mAsg (O A) (mCall (O A) 2 (m_law_take A) (mCons (O A) (mVar (O A) 0) (mCons (O A) (mBin (O A) dIdx (mCl (O A) dList (mCons (O A) (mBin (O A) dPow (mC (O A) (.int 10)) (mC (O A) (.int 6))) (mCons (O A) (mBin (O A) dPow (mC (O A) (.int 10)) (mC (O A) (.int 40))) (mNil (O A))))) (mBin (O A) dSub (mVar (O A) 1) (mC (O A) (.int 6)))) (mNil (O A))))) (fName 2))
  (mRet (O A) (mBin (O A) dIdx (mCl (O A) dList (mCons (O A) (mVar (O A) 2) (mCons (O A) (mBin (O A) dSub (mC (O A) (.int 0)) (mVar (O A) 2)) (mNil (O A))))) (mCall (O A) 2 (m_law_take A) (mCons (O A) (mVar (O A) 0) (mCons (O A) (mC (O A) (.int 2)) (mNil (O A))))))))))
def m_law_number (A : Ad) : List D → Dr → R Dr D := runF (O A) 3 (mb_law_number A)
/-! law_great -/
def mb_law_great (A : Ad) : MS (O A) :=
  (mSeq (O A) (mAsg (O A) (mCall (O A) 2 (m_law_take A) (mCons (O A) (mVar (O A) 0) (mCons (O A) (mC (O A) (.int 8)) (mNil (O A))))) (fName 1))
  (mSeq (O A) (mAsg (O A) (mCl (O A) dList (mCons (O A) (mBin (O A) dSub (mBin (O A) dPow (mC (O A) (.int 10)) (mC (O A) (.int 40))) (mC (O A) (.int 1))) (mCons (O A) (mBin (O A) dSub (mC (O A) (.int 1)) (mBin (O A) dPow (mC (O A) (.int 10)) (mC (O A) (.int 40)))) (mCons (O A) (mBin (O A) dPow (mC (O A) (.int 10)) (mC (O A) (.int 30))) (mCons (O A) (mBin (O A) dSub (mC (O A) (.int 0)) (mBin (O A) dPow (mC (O A) (.int 10)) (mC (O A) (.int 30)))) (mCons (O A) (mBin (O A) dSub (mBin (O A) dPow (mC (O A) (.int 10)) (mC (O A) (.int 30))) (mC (O A) (.int 1))) (mCons (O A) (mBin (O A) dAdd (mBin (O A) dPow (mC (O A) (.int 10)) (mC (O A) (.int 30))) (mC (O A) (.int 1))) (mCons (O A) (mBin (O A) dPow (mC (O A) (.int 10)) (mC (O A) (.int 20))) (mCons (O A) (mC (O A) (.int 0)) (mNil (O A))))))))))) (fName 2))
  (mSeq (O A) (mIfS (O A) (mTest (O A) (mBin (O A) dLt (mVar (O A) 1) (mC (O A) (.int 4))))
  (mRet (O A) (mCall (O A) 1 (m_law_number A) (mCons (O A) (mVar (O A) 0) (mNil (O A)))))
  (mNext (O A)))
  (mSeq (O A) (mIfS (O A) (mTest (O A) (mBin (O A) dLt (mVar (O A) 1) (mC (O A) (.int 6))))
  (mRet (O A) (mBin (O A) dIdx (mVar (O A) 2) (mCall (O A) 2 (m_law_take A) (mCons (O A) (mVar (O A) 0) (mCons (O A) (mC (O A) (.int 8)) (mNil (O A)))))))
  (mNext (O A)))
  (mRet (O A) (mBin (O A) dMul (mBin (O A) dIdx (mCl (O A) dList (mCons (O A) (mC (O A) (.int 1)) (mCons (O A) (mUn (O A) dNeg (mC (O A) (.int 1))) (mNil (O A))))) (mCall (O A) 2 (m_law_take A) (mCons (O A) (mVar (O A) 0) (mCons (O A) (mC (O A) (.int 2)) (mNil (O A)))))) (mCall (O A) 2 (m_law_take A) (mCons (O A) (mVar (O A) 0) (mCons (O A) (mBin (O A) dIdx (mCl (O A) dList (mCons (O A) (mBin (O A) dPow (mC (O A) (.int 10)) (mC (O A) (.int 20))) (mCons (O A) (mBin (O A) dPow (mC (O A) (.int 10)) (mC (O A) (.int 31))) (mCons (O A) (mBin (O A) dPow (mC (O A) (.int 10)) (mC (O A) (.int 40))) (mNil (O A)))))) (mCall (O A) 2 (m_law_take A) (mCons (O A) (mVar (O A) 0) (mCons (O A) (mC (O A) (.int 3)) (mNil (O A)))))) (mNil (O A)))))))))))
def m_law_great (A : Ad) : List D → Dr → R Dr D := runF (O A) 3 (mb_law_great A)
/-! law_same -/
def lc_law_same_0 (A : Ad) (mrec : List D → Dr → R Dr D) : MA (O A) :=
  (mLc (O A) (mItA (O A) dZip (mCons (O A) (mVar (O A) 0) (mCons (O A) (mVar (O A) 1) (mNil (O A))))) (fTup 2 (fCons (fName 2) (fCons (fName 3) fNil))) (mYes (O A)) (mCall (O A) 2 mrec (mCons (O A) (mVar (O A) 2) (mCons (O A) (mVar (O A) 3) (mNil (O A))))) [2, 3])
def mb_law_same (A : Ad) (mrec : List D → Dr → R Dr D) : MS (O A) :=
  (mSeq (O A) (mIfS (O A) (mTruth (O A) (mIsT (O A) (mVar (O A) 1) (mCons (O A) (mC (O A) (.ty "list")) (mCons (O A) (mC (O A) (.ty "tuple")) (mNil (O A))))))
  (mSeq (O A) (mIfS (O A) (mOr (O A) (mTest (O A) (mBin (O A) dNe (mCl (O A) dIsI (mCons (O A) (mVar (O A) 0) (mCons (O A) (mC (O A) (.ty "list")) (mNil (O A))))) (mCl (O A) dIsI (mCons (O A) (mVar (O A) 1) (mCons (O A) (mC (O A) (.ty "list")) (mNil (O A))))))) (mTest (O A) (mBin (O A) dNe (mCl (O A) dIsI (mCons (O A) (mVar (O A) 0) (mCons (O A) (mC (O A) (.ty "tuple")) (mNil (O A))))) (mCl (O A) dIsI (mCons (O A) (mVar (O A) 1) (mCons (O A) (mC (O A) (.ty "tuple")) (mNil (O A))))))))
  (mRet (O A) (mC (O A) (.bl false)))
  (mNext (O A)))
  (mRet (O A) (mAndV (O A) (mBin (O A) dEq (mCl (O A) dLen (mCons (O A) (mVar (O A) 0) (mNil (O A)))) (mCl (O A) dLen (mCons (O A) (mVar (O A) 1) (mNil (O A))))) (mCl (O A) dAll (mCons (O A) (mLst (O A) (lc_law_same_0 A mrec)) (mNil (O A)))))))
  (mNext (O A)))
  (mSeq (O A) (mIfS (O A) (mTruth (O A) (mIsT (O A) (mVar (O A) 1) (mCons (O A) (mC (O A) (.ty "bool")) (mCons (O A) (mC (O A) (.ty "int")) (mNil (O A))))))
  (mRet (O A) (mAndV (O A) (mCl (O A) dIsI (mCons (O A) (mVar (O A) 0) (mCons (O A) (mC (O A) (.ty "int")) (mNil (O A))))) (mAndV (O A) (mBin (O A) dEq (mCl (O A) dIsI (mCons (O A) (mVar (O A) 0) (mCons (O A) (mC (O A) (.ty "bool")) (mNil (O A))))) (mCl (O A) dIsI (mCons (O A) (mVar (O A) 1) (mCons (O A) (mC (O A) (.ty "bool")) (mNil (O A)))))) (mBin (O A) dEq (mVar (O A) 0) (mVar (O A) 1)))))
  (mNext (O A)))
  (mRet (O A) (mAndV (O A) (mBin (O A) dIs (mCl (O A) dIsI (mCons (O A) (mVar (O A) 0) (mCons (O A) (mC (O A) (.ty "bool")) (mNil (O A))))) (mC (O A) (.bl false))) (mBin (O A) dEq (mVar (O A) 0) (mVar (O A) 1))))))
def mN_law_same (A : Ad) : Nat → List D → Dr → R Dr D
  | 0 => fun _ _ => .bad
  | n + 1 => runF (O A) 4 (mb_law_same A (mN_law_same A n))
def m_law_same (A : Ad) : List D → Dr → R Dr D := mN_law_same A 4
end S

namespace S
open PySem PySem.Spec PyProof.Rows L2 RZ Mr
theorem mixed_ok (A : Ad) (z k : Int) (s : Dr) (h0 : 0 ≤ k) (h1 : k ≤ 2000000) : ∃ r, m_law_mixed A [.int z, .int k] s = .ok (.int r) s ∧ 0 ≤ r ∧ r < 1000000007 := by
  have a1 : 0 ≤ z.fmod 2147483647 := Int.fmod_nonneg_of_pos z (by decide)
  have a2 : z.fmod 2147483647 < 2147483647 := Int.fmod_lt_of_pos z (by decide)
  have c1 : CModG z 2147483647 := by unfold CModG; decide
  have c2 : CMulG 7919 k := mulG (by decide) (by decide) (by omega) (by omega)
  have c3 : CPowG (z.fmod 2147483647 + 7919 * k + 104729) 5 := ⟨by decide, by decide, by omega⟩
  have c4 : ∀ y : Int, CModG y 2147483629 := fun y => by unfold CModG; decide
  have c9 : ∀ y : Int, CModG y 1000000007 := fun y => by unfold CModG; decide
  have f1 : 0 ≤ ((z.fmod 2147483647 + 7919 * k + 104729) ^ 5).fmod 2147483629 := Int.fmod_nonneg_of_pos _ (by decide)
  have f2 : ((z.fmod 2147483647 + 7919 * k + 104729) ^ 5).fmod 2147483629 < 2147483629 := Int.fmod_lt_of_pos _ (by decide)
  have c5 : CMulG (((z.fmod 2147483647 + 7919 * k + 104729) ^ 5).fmod 2147483629) 48271 := mulG (by omega) (by omega) (by decide) (by decide)
  have c6 : CMulG 40503 k := mulG (by decide) (by decide) (by omega) (by omega)
  have c7 : CMulG (40503 * k) k := mulG (by omega) (by omega) (by omega) (by omega)
  have k1 : 0 ≤ 40503 * k * k := Int.mul_nonneg (by omega) h0
  have k2 : 40503 * k * k ≤ 40503 * 2000000 * 2000000 := Int.mul_le_mul (by omega) h1 h0 (by omega)
  have c8 : CPowG (((z.fmod 2147483647 + 7919 * k + 104729) ^ 5).fmod 2147483629 * 48271 + 40503 * k * k + 13) 3 := ⟨by decide, by decide, by omega⟩
  refine ⟨_, ?_, Int.fmod_nonneg_of_pos ((((z.fmod 2147483647 + 7919 * k + 104729) ^ 5).fmod 2147483629 * 48271 + 40503 * k * k + 13) ^ 3) (by decide), Int.fmod_lt_of_pos _ (by decide)⟩
  simp only [m_law_mixed, mb_law_mixed, runF, mSeq, seqS, mAsg, mBin, mUn, mVar, mC, mRet, mNext, mIfS, mTest, mTruth, mAnd, mOr, mNot, mAndV, mOrV, mNotV, mCl, mCons, mNil, mCall, mDrop, mDrI, mDrNe, mDrIx, mDrLen, mDrSet, mDrPop, drL, isDr0, toS, fName, R.lift, bind_ok, bind_err, bind_bad, eAdd, eSub, eMul, eDiv, eMod, ePow, eNeg, eLt, eLe, eGt, eGe, eEqI, eNeI, eEqS, eEqB, eNeB, eIdxL, eIdxT, eBool, eAbs, Bool.false_eq_true, dList, dTup, if_true, if_false, if_pos, List.map_cons, List.map_nil, List.length_cons, List.length_nil, List.replicate, List.cons_append, List.nil_append, List.getElem?_cons_zero, List.getElem?_cons_succ, List.set_cons_zero, List.set_cons_succ, Nat.reduceAdd, Nat.reduceSub, Nat.reduceLeDiff, Nat.reduceLT, Nat.reduceMul, Int.reduceToNat, Int.reduceEq, Int.reduceAdd, Int.reduceSub, Int.reduceNeg, Bool.not_true, Bool.not_false, decide_true, decide_false, reduceIte, Nat.reduceEqDiff, ite_true, ite_false, mIf, mLst, mSlice, mPart, mNoPart, mItS, mItL, mItT, asSeq, asList, asTup, mFor, mPar, mPass, mBrk, mCnt, mRetN, c1, c2, c3, c4, c5, c6, c7, c8, c9]
theorem loop_ok (A : Ad) {n seed : Int} {s : Dr} (hn : n ≤ 10 ^ 150) (k0 : 0 ≤ s.k) (k1 : s.k ≤ 1000000) : ∀ (m : Nat) (found reach : Int), 0 ≤ found → found < reach → n ≤ reach * 1000 ^ m →
    ∃ f' r' : Int, whileL (O A).S (mTest (O A) (mBin (O A) dLt (mVar (O A) 4) (mVar (O A) 1)))
    (mSeq (O A) (mAsg (O A) (mBin (O A) dAdd (mBin (O A) dMul (mVar (O A) 2) (mC (O A) (.int 1000000007))) (mCall (O A) 2 (m_law_mixed A) (mCons (O A) (mVar (O A) 3) (mCons (O A) (mBin (O A) dAdd (mDrI A.d A.a A.b 0 3) (mBin (O A) dMul (mC (O A) (.int 1009)) (mBin (O A) dMod (mVar (O A) 2) (mC (O A) (.int 97))))) (mNil (O A)))))) (fName 2))
    (mAsg (O A) (mBin (O A) dMul (mVar (O A) 4) (mC (O A) (.int 1000000007))) (fName 4))) (m + 1) [.sh (.ref A.d), .sh (.int n), .sh (.int found), .sh (.int seed), .sh (.int reach)] s = .nx [.sh (.ref A.d), .sh (.int n), .sh (.int f'), .sh (.int seed), .sh (.int r')] s := by
  intro m
  induction m with
  | zero =>
    intro found reach h0 h1 h2
    refine ⟨found, reach, ?_⟩
    have h3 : ¬ reach < n := by simpa using h2
    simp only [whileL, runF, mSeq, seqS, mAsg, mBin, mUn, mVar, mC, mRet, mNext, mIfS, mTest, mTruth, mAnd, mOr, mNot, mAndV, mOrV, mNotV, mCl, mCons, mNil, mCall, mDrop, mDrI, mDrNe, mDrIx, mDrLen, mDrSet, mDrPop, drL, isDr0, toS, fName, R.lift, bind_ok, bind_err, bind_bad, eAdd, eSub, eMul, eDiv, eMod, ePow, eNeg, eLt, eLe, eGt, eGe, eEqI, eNeI, eEqS, eEqB, eNeB, eIdxL, eIdxT, eBool, eAbs, Bool.false_eq_true, dList, dTup, if_true, if_false, if_pos, List.map_cons, List.map_nil, List.length_cons, List.length_nil, List.replicate, List.cons_append, List.nil_append, List.getElem?_cons_zero, List.getElem?_cons_succ, List.set_cons_zero, List.set_cons_succ, Nat.reduceAdd, Nat.reduceSub, Nat.reduceLeDiff, Nat.reduceLT, Nat.reduceMul, Int.reduceToNat, Int.reduceEq, Int.reduceAdd, Int.reduceSub, Int.reduceNeg, Bool.not_true, Bool.not_false, decide_true, decide_false, reduceIte, Nat.reduceEqDiff, ite_true, ite_false, mIf, mLst, mSlice, mPart, mNoPart, mItS, mItL, mItT, asSeq, asList, asTup, mFor, mPar, mPass, mBrk, mCnt, mRetN, h3]
  | succ m ih =>
    intro found reach h0 h1 h2
    by_cases h3 : reach < n
    · have g1 : 0 ≤ found.fmod 97 := Int.fmod_nonneg_of_pos found (by decide)
      have g2 : found.fmod 97 < 97 := Int.fmod_lt_of_pos found (by decide)
      obtain ⟨r, e, r0, r1⟩ := mixed_ok A seed (s.k + 1009 * found.fmod 97) s (by omega) (by omega)
      have c1 : CMulG found 1000000007 := mulG (by omega) (by omega) (by decide) (by decide)
      have c2 : CMulG 1009 (found.fmod 97) := mulG (by decide) (by decide) (by omega) (by omega)
      have c3 : CMulG reach 1000000007 := mulG (by omega) (by omega) (by decide) (by decide)
      have c4 : CModG found 97 := by unfold CModG; decide
      have hp : (0 : Int) ≤ 1000 ^ m := Int.le_of_lt (Int.pow_pos (by decide))
      have h4 : n ≤ reach * 1000000007 * 1000 ^ m := by
        refine Int.le_trans h2 ?_
        rw [Int.pow_succ, Int.mul_comm (1000 ^ m) 1000, ← Int.mul_assoc]
        exact Int.mul_le_mul_of_nonneg_right (by omega) hp
      obtain ⟨f', r', e2⟩ := ih (found * 1000000007 + r) (reach * 1000000007) (by omega) (by omega) h4
      refine ⟨f', r', ?_⟩
      rw [← e2]
      rw [whileL]
      simp only [runF, mSeq, seqS, mAsg, mBin, mUn, mVar, mC, mRet, mNext, mIfS, mTest, mTruth, mAnd, mOr, mNot, mAndV, mOrV, mNotV, mCl, mCons, mNil, mCall, mDrop, mDrI, mDrNe, mDrIx, mDrLen, mDrSet, mDrPop, drL, isDr0, toS, fName, R.lift, bind_ok, bind_err, bind_bad, eAdd, eSub, eMul, eDiv, eMod, ePow, eNeg, eLt, eLe, eGt, eGe, eEqI, eNeI, eEqS, eEqB, eNeB, eIdxL, eIdxT, eBool, eAbs, Bool.false_eq_true, dList, dTup, if_true, if_false, if_pos, List.map_cons, List.map_nil, List.length_cons, List.length_nil, List.replicate, List.cons_append, List.nil_append, List.getElem?_cons_zero, List.getElem?_cons_succ, List.set_cons_zero, List.set_cons_succ, Nat.reduceAdd, Nat.reduceSub, Nat.reduceLeDiff, Nat.reduceLT, Nat.reduceMul, Int.reduceToNat, Int.reduceEq, Int.reduceAdd, Int.reduceSub, Int.reduceNeg, Bool.not_true, Bool.not_false, decide_true, decide_false, reduceIte, Nat.reduceEqDiff, ite_true, ite_false, mIf, mLst, mSlice, mPart, mNoPart, mItS, mItL, mItT, asSeq, asList, asTup, mFor, mPar, mPass, mBrk, mCnt, mRetN, h3, c1, c2, c3, c4, e]
    · refine ⟨found, reach, ?_⟩
      simp only [whileL, runF, mSeq, seqS, mAsg, mBin, mUn, mVar, mC, mRet, mNext, mIfS, mTest, mTruth, mAnd, mOr, mNot, mAndV, mOrV, mNotV, mCl, mCons, mNil, mCall, mDrop, mDrI, mDrNe, mDrIx, mDrLen, mDrSet, mDrPop, drL, isDr0, toS, fName, R.lift, bind_ok, bind_err, bind_bad, eAdd, eSub, eMul, eDiv, eMod, ePow, eNeg, eLt, eLe, eGt, eGe, eEqI, eNeI, eEqS, eEqB, eNeB, eIdxL, eIdxT, eBool, eAbs, Bool.false_eq_true, dList, dTup, if_true, if_false, if_pos, List.map_cons, List.map_nil, List.length_cons, List.length_nil, List.replicate, List.cons_append, List.nil_append, List.getElem?_cons_zero, List.getElem?_cons_succ, List.set_cons_zero, List.set_cons_succ, Nat.reduceAdd, Nat.reduceSub, Nat.reduceLeDiff, Nat.reduceLT, Nat.reduceMul, Int.reduceToNat, Int.reduceEq, Int.reduceAdd, Int.reduceSub, Int.reduceNeg, Bool.not_true, Bool.not_false, decide_true, decide_false, reduceIte, Nat.reduceEqDiff, ite_true, ite_false, mIf, mLst, mSlice, mPart, mNoPart, mItS, mItL, mItT, asSeq, asList, asTup, mFor, mPar, mPass, mBrk, mCnt, mRetN, h3]
theorem take_ok (A : Ad) {b n : Int} {s : Dr} (h : Ok b s) (hb : b < 1000000) (h1 : 1 ≤ n) (h2 : n ≤ 10 ^ 150) : ∃ r s', m_law_take A [.ref A.d, .int n] s = .ok (.int r) s' ∧ 0 ≤ r ∧ r < n ∧ Ok (b + 1) s' := by
  obtain ⟨xs, n0, zs, k⟩ := s
  obtain ⟨hx, hn, hk, hkb⟩ := h
  dsimp only at hx hn hk hkb
  have m0 : n ≠ 0 := by omega
  have m1 : ∀ x : Int, CModG x n := fun x => m0
  have m2 : ∀ x : Int, CDivG x n := fun x => divG m0 (by omega) (by omega)
  have ret : ∀ (x : Int) (ys : List Int), 0 < x → (∀ y ∈ ys, 0 < y) → 0 ≤ x.fmod n ∧ x.fmod n < n ∧ Ok (b + 1) ⟨ys, x.fdiv n, zs, k + 1⟩ := fun x ys hx hy =>
    ⟨Int.fmod_nonneg_of_pos x (by omega), Int.fmod_lt_of_pos x (by omega), hy, Int.fdiv_nonneg (by omega) (by omega), by show 0 ≤ k + 1; omega, by show k + 1 ≤ b + 1; omega⟩
  by_cases hz : n0 = 0
  · subst hz
    cases xs with
    | cons x xs =>
      have x0 : 0 < x := hx x List.mem_cons_self
      refine ⟨_, _, ?_, ret x xs x0 fun y hy => hx y (List.mem_cons_of_mem _ hy)⟩
      simp only [m_law_take, mb_law_take, runF, mSeq, seqS, mAsg, mBin, mUn, mVar, mC, mRet, mNext, mIfS, mTest, mTruth, mAnd, mOr, mNot, mAndV, mOrV, mNotV, mCl, mCons, mNil, mCall, mDrop, mDrI, mDrNe, mDrIx, mDrLen, mDrSet, mDrPop, drL, isDr0, toS, fName, R.lift, bind_ok, bind_err, bind_bad, eAdd, eSub, eMul, eDiv, eMod, ePow, eNeg, eLt, eLe, eGt, eGe, eEqI, eNeI, eEqS, eEqB, eNeB, eIdxL, eIdxT, eBool, eAbs, Bool.false_eq_true, dList, dTup, if_true, if_false, if_pos, List.map_cons, List.map_nil, List.length_cons, List.length_nil, List.replicate, List.cons_append, List.nil_append, List.getElem?_cons_zero, List.getElem?_cons_succ, List.set_cons_zero, List.set_cons_succ, Nat.reduceAdd, Nat.reduceSub, Nat.reduceLeDiff, Nat.reduceLT, Nat.reduceMul, Int.reduceToNat, Int.reduceEq, Int.reduceAdd, Int.reduceSub, Int.reduceNeg, Bool.not_true, Bool.not_false, decide_true, decide_false, reduceIte, Nat.reduceEqDiff, ite_true, ite_false, mIf, mLst, mSlice, mPart, mNoPart, mItS, mItL, mItT, asSeq, asList, asTup, mFor, mPar, mPass, mBrk, mCnt, mRetN, Option.map_some, m1, m2, List.isEmpty_cons, x0]
    | nil =>
      have ok : Ok (b + 1) ⟨[], 0, zs, k + 1⟩ := ⟨hx, Int.le_refl _, by show 0 ≤ k + 1; omega, by show k + 1 ≤ b + 1; omega⟩
      have fin : ∀ f : Int, 0 ≤ f.fmod n ∧ f.fmod n < n := fun f => ⟨Int.fmod_nonneg_of_pos f (by omega), Int.fmod_lt_of_pos f (by omega)⟩
      have lp : ∀ seed : Int, _ := fun seed => loop_ok A (n := n) (seed := seed) (s := ⟨[], 0, zs, k + 1⟩) h2 (by show 0 ≤ k + 1; omega) (by show k + 1 ≤ 1000000; omega) 99 0 1 (by decide) (by decide) (by
        refine Int.le_trans h2 ?_
        decide +kernel)
      cases zs with
      | nil =>
        obtain ⟨f', r', e⟩ := lp 17
        refine ⟨f'.fmod n, _, ?_, (fin f').1, (fin f').2, ok⟩
        simp only [m_law_take, mb_law_take, mWhile, runF, mSeq, seqS, mAsg, mBin, mUn, mVar, mC, mRet, mNext, mIfS, mTest, mTruth, mAnd, mOr, mNot, mAndV, mOrV, mNotV, mCl, mCons, mNil, mCall, mDrop, mDrI, mDrNe, mDrIx, mDrLen, mDrSet, mDrPop, drL, isDr0, toS, fName, R.lift, bind_ok, bind_err, bind_bad, eAdd, eSub, eMul, eDiv, eMod, ePow, eNeg, eLt, eLe, eGt, eGe, eEqI, eNeI, eEqS, eEqB, eNeB, eIdxL, eIdxT, eBool, eAbs, Bool.false_eq_true, dList, dTup, if_true, if_false, if_pos, List.map_cons, List.map_nil, List.length_cons, List.length_nil, List.replicate, List.cons_append, List.nil_append, List.getElem?_cons_zero, List.getElem?_cons_succ, List.set_cons_zero, List.set_cons_succ, Nat.reduceAdd, Nat.reduceSub, Nat.reduceLeDiff, Nat.reduceLT, Nat.reduceMul, Int.reduceToNat, Int.reduceEq, Int.reduceAdd, Int.reduceSub, Int.reduceNeg, Bool.not_true, Bool.not_false, decide_true, decide_false, reduceIte, Nat.reduceEqDiff, ite_true, ite_false, mIf, mLst, mSlice, mPart, mNoPart, mItS, mItL, mItT, asSeq, asList, asTup, mFor, mPar, mPass, mBrk, mCnt, mRetN, Option.map_some, m1, m2, List.isEmpty_nil, Int.lt_irrefl]
        rw [e]
        simp only [runF, mSeq, seqS, mAsg, mBin, mUn, mVar, mC, mRet, mNext, mIfS, mTest, mTruth, mAnd, mOr, mNot, mAndV, mOrV, mNotV, mCl, mCons, mNil, mCall, mDrop, mDrI, mDrNe, mDrIx, mDrLen, mDrSet, mDrPop, drL, isDr0, toS, fName, R.lift, bind_ok, bind_err, bind_bad, eAdd, eSub, eMul, eDiv, eMod, ePow, eNeg, eLt, eLe, eGt, eGe, eEqI, eNeI, eEqS, eEqB, eNeB, eIdxL, eIdxT, eBool, eAbs, Bool.false_eq_true, dList, dTup, if_true, if_false, if_pos, List.map_cons, List.map_nil, List.length_cons, List.length_nil, List.replicate, List.cons_append, List.nil_append, List.getElem?_cons_zero, List.getElem?_cons_succ, List.set_cons_zero, List.set_cons_succ, Nat.reduceAdd, Nat.reduceSub, Nat.reduceLeDiff, Nat.reduceLT, Nat.reduceMul, Int.reduceToNat, Int.reduceEq, Int.reduceAdd, Int.reduceSub, Int.reduceNeg, Bool.not_true, Bool.not_false, decide_true, decide_false, reduceIte, Nat.reduceEqDiff, ite_true, ite_false, mIf, mLst, mSlice, mPart, mNoPart, mItS, mItL, mItT, asSeq, asList, asTup, mFor, mPar, mPass, mBrk, mCnt, mRetN, m1]
      | cons z zs =>
        have l0 : ((zs.length + 1 : Nat) : Int) ≠ 0 := by omega
        have l1 : CModG (k + 1) ((zs.length + 1 : Nat) : Int) := l0
        obtain ⟨y, ey, _⟩ := atI_ok (xs := z :: zs) (i := (k + 1).fmod ((zs.length + 1 : Nat) : Int)) (Int.fmod_nonneg_of_pos _ (by omega)) (by rw [List.length_cons]; exact Int.fmod_lt_of_pos _ (by omega))
        obtain ⟨f', r', e⟩ := lp y
        refine ⟨f'.fmod n, _, ?_, (fin f').1, (fin f').2, ok⟩
        simp only [m_law_take, mb_law_take, mWhile, runF, mSeq, seqS, mAsg, mBin, mUn, mVar, mC, mRet, mNext, mIfS, mTest, mTruth, mAnd, mOr, mNot, mAndV, mOrV, mNotV, mCl, mCons, mNil, mCall, mDrop, mDrI, mDrNe, mDrIx, mDrLen, mDrSet, mDrPop, drL, isDr0, toS, fName, R.lift, bind_ok, bind_err, bind_bad, eAdd, eSub, eMul, eDiv, eMod, ePow, eNeg, eLt, eLe, eGt, eGe, eEqI, eNeI, eEqS, eEqB, eNeB, eIdxL, eIdxT, eBool, eAbs, Bool.false_eq_true, dList, dTup, if_true, if_false, if_pos, List.map_cons, List.map_nil, List.length_cons, List.length_nil, List.replicate, List.cons_append, List.nil_append, List.getElem?_cons_zero, List.getElem?_cons_succ, List.set_cons_zero, List.set_cons_succ, Nat.reduceAdd, Nat.reduceSub, Nat.reduceLeDiff, Nat.reduceLT, Nat.reduceMul, Int.reduceToNat, Int.reduceEq, Int.reduceAdd, Int.reduceSub, Int.reduceNeg, Bool.not_true, Bool.not_false, decide_true, decide_false, reduceIte, Nat.reduceEqDiff, ite_true, ite_false, mIf, mLst, mSlice, mPart, mNoPart, mItS, mItL, mItT, asSeq, asList, asTup, mFor, mPar, mPass, mBrk, mCnt, mRetN, Option.map_some, m1, m2, List.isEmpty_cons, List.isEmpty_nil, Int.lt_irrefl, l1, ey]
        rw [e]
        simp only [runF, mSeq, seqS, mAsg, mBin, mUn, mVar, mC, mRet, mNext, mIfS, mTest, mTruth, mAnd, mOr, mNot, mAndV, mOrV, mNotV, mCl, mCons, mNil, mCall, mDrop, mDrI, mDrNe, mDrIx, mDrLen, mDrSet, mDrPop, drL, isDr0, toS, fName, R.lift, bind_ok, bind_err, bind_bad, eAdd, eSub, eMul, eDiv, eMod, ePow, eNeg, eLt, eLe, eGt, eGe, eEqI, eNeI, eEqS, eEqB, eNeB, eIdxL, eIdxT, eBool, eAbs, Bool.false_eq_true, dList, dTup, if_true, if_false, if_pos, List.map_cons, List.map_nil, List.length_cons, List.length_nil, List.replicate, List.cons_append, List.nil_append, List.getElem?_cons_zero, List.getElem?_cons_succ, List.set_cons_zero, List.set_cons_succ, Nat.reduceAdd, Nat.reduceSub, Nat.reduceLeDiff, Nat.reduceLT, Nat.reduceMul, Int.reduceToNat, Int.reduceEq, Int.reduceAdd, Int.reduceSub, Int.reduceNeg, Bool.not_true, Bool.not_false, decide_true, decide_false, reduceIte, Nat.reduceEqDiff, ite_true, ite_false, mIf, mLst, mSlice, mPart, mNoPart, mItS, mItL, mItT, asSeq, asList, asTup, mFor, mPar, mPass, mBrk, mCnt, mRetN, m1]
  · have x0 : 0 < n0 := by omega
    have hz' : decide (n0 = 0) = false := decide_eq_false hz
    refine ⟨_, _, ?_, ret n0 xs x0 hx⟩
    simp only [m_law_take, mb_law_take, runF, mSeq, seqS, mAsg, mBin, mUn, mVar, mC, mRet, mNext, mIfS, mTest, mTruth, mAnd, mOr, mNot, mAndV, mOrV, mNotV, mCl, mCons, mNil, mCall, mDrop, mDrI, mDrNe, mDrIx, mDrLen, mDrSet, mDrPop, drL, isDr0, toS, fName, R.lift, bind_ok, bind_err, bind_bad, eAdd, eSub, eMul, eDiv, eMod, ePow, eNeg, eLt, eLe, eGt, eGe, eEqI, eNeI, eEqS, eEqB, eNeB, eIdxL, eIdxT, eBool, eAbs, Bool.false_eq_true, dList, dTup, if_true, if_false, if_pos, List.map_cons, List.map_nil, List.length_cons, List.length_nil, List.replicate, List.cons_append, List.nil_append, List.getElem?_cons_zero, List.getElem?_cons_succ, List.set_cons_zero, List.set_cons_succ, Nat.reduceAdd, Nat.reduceSub, Nat.reduceLeDiff, Nat.reduceLT, Nat.reduceMul, Int.reduceToNat, Int.reduceEq, Int.reduceAdd, Int.reduceSub, Int.reduceNeg, Bool.not_true, Bool.not_false, decide_true, decide_false, reduceIte, Nat.reduceEqDiff, ite_true, ite_false, mIf, mLst, mSlice, mPart, mNoPart, mItS, mItL, mItT, asSeq, asList, asTup, mFor, mPar, mPass, mBrk, mCnt, mRetN, Option.map_some, m1, m2, hz', x0]
theorem at0 {α : Type} (a : α) (r : List α) : atI (a :: r) 0 = some a := by
  unfold atI ixN
  rw [if_pos (by decide), if_pos (by simp)]
  rfl
theorem at1 {α : Type} (a b : α) (r : List α) : atI (a :: b :: r) 1 = some b := by
  unfold atI ixN
  rw [if_pos (by decide), if_pos (by simp; omega)]
  rfl
theorem number_ok (A : Ad) {b : Int} {s : Dr} (h : Ok b s) (hb : b + 3 ≤ 1000000) : ∃ r s', m_law_number A [.ref A.d] s = .ok (.int r) s' ∧ -(10 ^ 40) < r ∧ r < 10 ^ 40 ∧ Ok (b + 3) s' := by
  obtain ⟨w, s1, e1, w0, w1, k1⟩ := take_ok A (n := 8) h (by omega) (by decide) (by decide)
  by_cases hw : w < 6
  · obtain ⟨r, s2, e2, r0, r1, k2⟩ := take_ok A (n := 12) k1 (by omega) (by decide) (by decide)
    refine ⟨r - 3, s2, ?_, by omega, by omega, k2.mono (by omega)⟩
    simp only [m_law_number, mb_law_number, runF, mSeq, seqS, mAsg, mBin, mUn, mVar, mC, mRet, mNext, mIfS, mTest, mTruth, mAnd, mOr, mNot, mAndV, mOrV, mNotV, mCl, mCons, mNil, mCall, mDrop, mDrI, mDrNe, mDrIx, mDrLen, mDrSet, mDrPop, drL, isDr0, toS, fName, R.lift, bind_ok, bind_err, bind_bad, eAdd, eSub, eMul, eDiv, eMod, ePow, eNeg, eLt, eLe, eGt, eGe, eEqI, eNeI, eEqS, eEqB, eNeB, eIdxL, eIdxT, eBool, eAbs, Bool.false_eq_true, dList, dTup, if_true, if_false, if_pos, List.map_cons, List.map_nil, List.length_cons, List.length_nil, List.replicate, List.cons_append, List.nil_append, List.getElem?_cons_zero, List.getElem?_cons_succ, List.set_cons_zero, List.set_cons_succ, Nat.reduceAdd, Nat.reduceSub, Nat.reduceLeDiff, Nat.reduceLT, Nat.reduceMul, Int.reduceToNat, Int.reduceEq, Int.reduceAdd, Int.reduceSub, Int.reduceNeg, Bool.not_true, Bool.not_false, decide_true, decide_false, reduceIte, Nat.reduceEqDiff, ite_true, ite_false, mIf, mLst, mSlice, mPart, mNoPart, mItS, mItL, mItT, asSeq, asList, asTup, mFor, mPar, mPass, mBrk, mCnt, mRetN, e1, e2, hw]
  · have c6 : CPowG 10 6 := by decide
    have c40 : CPowG 10 40 := by decide
    have hw6 : w = 6 ∨ w = 7 := by omega
    have fin : ∀ (n : Int) (s1 : Dr), Ok (b + 1) s1 → 1 ≤ n → n ≤ 10 ^ 40 → ∃ (g : Int) (s2 : Dr) (t : Int) (s3 : Dr), m_law_take A [.ref A.d, .int n] s1 = .ok (.int g) s2 ∧ m_law_take A [.ref A.d, .int 2] s2 = .ok (.int t) s3 ∧ -(10 ^ 40) < g ∧ g < 10 ^ 40 ∧ (t = 0 ∨ t = 1) ∧ Ok (b + 3) s3 := by
      intro n s1 k1 n1 n2
      obtain ⟨g, s2, e2, g0, g1, k2⟩ := take_ok A (n := n) k1 (by omega) n1 (by omega)
      obtain ⟨t, s3, e3, t0, t1, k3⟩ := take_ok A (n := 2) k2 (by omega) (by decide) (by decide)
      exact ⟨g, s2, t, s3, e2, e3, by omega, by omega, by omega, k3.mono (by omega)⟩
    rcases hw6 with rfl | rfl
    · obtain ⟨g, s2, t, s3, e2, e3, g0, g1, ht, k3⟩ := fin (10 ^ 6) s1 k1 (by decide) (by decide)
      rcases ht with rfl | rfl
      · refine ⟨g, s3, ?_, g0, g1, k3⟩
        simp only [m_law_number, mb_law_number, runF, mSeq, seqS, mAsg, mBin, mUn, mVar, mC, mRet, mNext, mIfS, mTest, mTruth, mAnd, mOr, mNot, mAndV, mOrV, mNotV, mCl, mCons, mNil, mCall, mDrop, mDrI, mDrNe, mDrIx, mDrLen, mDrSet, mDrPop, drL, isDr0, toS, fName, R.lift, bind_ok, bind_err, bind_bad, eAdd, eSub, eMul, eDiv, eMod, ePow, eNeg, eLt, eLe, eGt, eGe, eEqI, eNeI, eEqS, eEqB, eNeB, eIdxL, eIdxT, eBool, eAbs, Bool.false_eq_true, dList, dTup, if_true, if_false, if_pos, List.map_cons, List.map_nil, List.length_cons, List.length_nil, List.replicate, List.cons_append, List.nil_append, List.getElem?_cons_zero, List.getElem?_cons_succ, List.set_cons_zero, List.set_cons_succ, Nat.reduceAdd, Nat.reduceSub, Nat.reduceLeDiff, Nat.reduceLT, Nat.reduceMul, Int.reduceToNat, Int.reduceEq, Int.reduceAdd, Int.reduceSub, Int.reduceNeg, Bool.not_true, Bool.not_false, decide_true, decide_false, reduceIte, Nat.reduceEqDiff, ite_true, ite_false, mIf, mLst, mSlice, mPart, mNoPart, mItS, mItL, mItT, asSeq, asList, asTup, mFor, mPar, mPass, mBrk, mCnt, mRetN, e1, e2, e3, hw, c6, c40, at0, at1]
      · refine ⟨0 - g, s3, ?_, by omega, by omega, k3⟩
        simp only [m_law_number, mb_law_number, runF, mSeq, seqS, mAsg, mBin, mUn, mVar, mC, mRet, mNext, mIfS, mTest, mTruth, mAnd, mOr, mNot, mAndV, mOrV, mNotV, mCl, mCons, mNil, mCall, mDrop, mDrI, mDrNe, mDrIx, mDrLen, mDrSet, mDrPop, drL, isDr0, toS, fName, R.lift, bind_ok, bind_err, bind_bad, eAdd, eSub, eMul, eDiv, eMod, ePow, eNeg, eLt, eLe, eGt, eGe, eEqI, eNeI, eEqS, eEqB, eNeB, eIdxL, eIdxT, eBool, eAbs, Bool.false_eq_true, dList, dTup, if_true, if_false, if_pos, List.map_cons, List.map_nil, List.length_cons, List.length_nil, List.replicate, List.cons_append, List.nil_append, List.getElem?_cons_zero, List.getElem?_cons_succ, List.set_cons_zero, List.set_cons_succ, Nat.reduceAdd, Nat.reduceSub, Nat.reduceLeDiff, Nat.reduceLT, Nat.reduceMul, Int.reduceToNat, Int.reduceEq, Int.reduceAdd, Int.reduceSub, Int.reduceNeg, Bool.not_true, Bool.not_false, decide_true, decide_false, reduceIte, Nat.reduceEqDiff, ite_true, ite_false, mIf, mLst, mSlice, mPart, mNoPart, mItS, mItL, mItT, asSeq, asList, asTup, mFor, mPar, mPass, mBrk, mCnt, mRetN, e1, e2, e3, hw, c6, c40, at0, at1]
    · obtain ⟨g, s2, t, s3, e2, e3, g0, g1, ht, k3⟩ := fin (10 ^ 40) s1 k1 (by decide) (by decide)
      rcases ht with rfl | rfl
      · refine ⟨g, s3, ?_, g0, g1, k3⟩
        simp only [m_law_number, mb_law_number, runF, mSeq, seqS, mAsg, mBin, mUn, mVar, mC, mRet, mNext, mIfS, mTest, mTruth, mAnd, mOr, mNot, mAndV, mOrV, mNotV, mCl, mCons, mNil, mCall, mDrop, mDrI, mDrNe, mDrIx, mDrLen, mDrSet, mDrPop, drL, isDr0, toS, fName, R.lift, bind_ok, bind_err, bind_bad, eAdd, eSub, eMul, eDiv, eMod, ePow, eNeg, eLt, eLe, eGt, eGe, eEqI, eNeI, eEqS, eEqB, eNeB, eIdxL, eIdxT, eBool, eAbs, Bool.false_eq_true, dList, dTup, if_true, if_false, if_pos, List.map_cons, List.map_nil, List.length_cons, List.length_nil, List.replicate, List.cons_append, List.nil_append, List.getElem?_cons_zero, List.getElem?_cons_succ, List.set_cons_zero, List.set_cons_succ, Nat.reduceAdd, Nat.reduceSub, Nat.reduceLeDiff, Nat.reduceLT, Nat.reduceMul, Int.reduceToNat, Int.reduceEq, Int.reduceAdd, Int.reduceSub, Int.reduceNeg, Bool.not_true, Bool.not_false, decide_true, decide_false, reduceIte, Nat.reduceEqDiff, ite_true, ite_false, mIf, mLst, mSlice, mPart, mNoPart, mItS, mItL, mItT, asSeq, asList, asTup, mFor, mPar, mPass, mBrk, mCnt, mRetN, e1, e2, e3, hw, c6, c40, at0, at1]
      · refine ⟨0 - g, s3, ?_, by omega, by omega, k3⟩
        simp only [m_law_number, mb_law_number, runF, mSeq, seqS, mAsg, mBin, mUn, mVar, mC, mRet, mNext, mIfS, mTest, mTruth, mAnd, mOr, mNot, mAndV, mOrV, mNotV, mCl, mCons, mNil, mCall, mDrop, mDrI, mDrNe, mDrIx, mDrLen, mDrSet, mDrPop, drL, isDr0, toS, fName, R.lift, bind_ok, bind_err, bind_bad, eAdd, eSub, eMul, eDiv, eMod, ePow, eNeg, eLt, eLe, eGt, eGe, eEqI, eNeI, eEqS, eEqB, eNeB, eIdxL, eIdxT, eBool, eAbs, Bool.false_eq_true, dList, dTup, if_true, if_false, if_pos, List.map_cons, List.map_nil, List.length_cons, List.length_nil, List.replicate, List.cons_append, List.nil_append, List.getElem?_cons_zero, List.getElem?_cons_succ, List.set_cons_zero, List.set_cons_succ, Nat.reduceAdd, Nat.reduceSub, Nat.reduceLeDiff, Nat.reduceLT, Nat.reduceMul, Int.reduceToNat, Int.reduceEq, Int.reduceAdd, Int.reduceSub, Int.reduceNeg, Bool.not_true, Bool.not_false, decide_true, decide_false, reduceIte, Nat.reduceEqDiff, ite_true, ite_false, mIf, mLst, mSlice, mPart, mNoPart, mItS, mItL, mItT, asSeq, asList, asTup, mFor, mPar, mPass, mBrk, mCnt, mRetN, e1, e2, e3, hw, c6, c40, at0, at1]
theorem great_ok (A : Ad) {b : Int} {s : Dr} (h : Ok b s) (hb : b + 4 ≤ 1000000) : ∃ r s', m_law_great A [.ref A.d] s = .ok (.int r) s' ∧ -(10 ^ 40) < r ∧ r < 10 ^ 40 ∧ Ok (b + 4) s' := by
  have c20 : CPowG 10 20 := by decide
  have c30 : CPowG 10 30 := by decide
  have c31 : CPowG 10 31 := by decide
  have c40 : CPowG 10 40 := by decide
  obtain ⟨w, s1, e1, w0, w1, k1⟩ := take_ok A (n := 8) h (by omega) (by decide) (by decide)
  by_cases hw : w < 4
  · obtain ⟨r, s2, e2, r0, r1, k2⟩ := number_ok A k1 (by omega)
    refine ⟨r, s2, ?_, r0, r1, k2.mono (by omega)⟩
    simp only [m_law_great, mb_law_great, runF, mSeq, seqS, mAsg, mBin, mUn, mVar, mC, mRet, mNext, mIfS, mTest, mTruth, mAnd, mOr, mNot, mAndV, mOrV, mNotV, mCl, mCons, mNil, mCall, mDrop, mDrI, mDrNe, mDrIx, mDrLen, mDrSet, mDrPop, drL, isDr0, toS, fName, R.lift, bind_ok, bind_err, bind_bad, eAdd, eSub, eMul, eDiv, eMod, ePow, eNeg, eLt, eLe, eGt, eGe, eEqI, eNeI, eEqS, eEqB, eNeB, eIdxL, eIdxT, eBool, eAbs, Bool.false_eq_true, dList, dTup, if_true, if_false, if_pos, List.map_cons, List.map_nil, List.length_cons, List.length_nil, List.replicate, List.cons_append, List.nil_append, List.getElem?_cons_zero, List.getElem?_cons_succ, List.set_cons_zero, List.set_cons_succ, Nat.reduceAdd, Nat.reduceSub, Nat.reduceLeDiff, Nat.reduceLT, Nat.reduceMul, Int.reduceToNat, Int.reduceEq, Int.reduceAdd, Int.reduceSub, Int.reduceNeg, Bool.not_true, Bool.not_false, decide_true, decide_false, reduceIte, Nat.reduceEqDiff, ite_true, ite_false, mIf, mLst, mSlice, mPart, mNoPart, mItS, mItL, mItT, asSeq, asList, asTup, mFor, mPar, mPass, mBrk, mCnt, mRetN, e1, e2, hw, c20, c30, c31, c40]
  · by_cases hw2 : w < 6
    · obtain ⟨t, s2, e2, t0, t1, k2⟩ := take_ok A (n := 8) k1 (by omega) (by decide) (by decide)
      obtain ⟨x, ex, hx⟩ := atI_ok (xs := [D.int (10 ^ 40 - 1), .int (1 - 10 ^ 40), .int (10 ^ 30), .int (0 - 10 ^ 30), .int (10 ^ 30 - 1), .int (10 ^ 30 + 1), .int (10 ^ 20), .int 0]) (i := t) t0 (by simpa using t1)
      have hx2 : ∃ r : Int, x = .int r ∧ -(10 ^ 40) < r ∧ r < 10 ^ 40 := by
        simp only [List.mem_cons, List.not_mem_nil, or_false] at hx
        rcases hx with rfl | rfl | rfl | rfl | rfl | rfl | rfl | rfl <;> exact ⟨_, rfl, by decide, by decide⟩
      obtain ⟨r, rfl, r0, r1⟩ := hx2
      refine ⟨r, s2, ?_, r0, r1, k2.mono (by omega)⟩
      simp only [m_law_great, mb_law_great, runF, mSeq, seqS, mAsg, mBin, mUn, mVar, mC, mRet, mNext, mIfS, mTest, mTruth, mAnd, mOr, mNot, mAndV, mOrV, mNotV, mCl, mCons, mNil, mCall, mDrop, mDrI, mDrNe, mDrIx, mDrLen, mDrSet, mDrPop, drL, isDr0, toS, fName, R.lift, bind_ok, bind_err, bind_bad, eAdd, eSub, eMul, eDiv, eMod, ePow, eNeg, eLt, eLe, eGt, eGe, eEqI, eNeI, eEqS, eEqB, eNeB, eIdxL, eIdxT, eBool, eAbs, Bool.false_eq_true, dList, dTup, if_true, if_false, if_pos, List.map_cons, List.map_nil, List.length_cons, List.length_nil, List.replicate, List.cons_append, List.nil_append, List.getElem?_cons_zero, List.getElem?_cons_succ, List.set_cons_zero, List.set_cons_succ, Nat.reduceAdd, Nat.reduceSub, Nat.reduceLeDiff, Nat.reduceLT, Nat.reduceMul, Int.reduceToNat, Int.reduceEq, Int.reduceAdd, Int.reduceSub, Int.reduceNeg, Bool.not_true, Bool.not_false, decide_true, decide_false, reduceIte, Nat.reduceEqDiff, ite_true, ite_false, mIf, mLst, mSlice, mPart, mNoPart, mItS, mItL, mItT, asSeq, asList, asTup, mFor, mPar, mPass, mBrk, mCnt, mRetN, e1, e2, hw, hw2, c20, c30, c31, c40, ex]
    · obtain ⟨t, s2, e2, t0, t1, k2⟩ := take_ok A (n := 2) k1 (by omega) (by decide) (by decide)
      obtain ⟨u, s3, e3, u0, u1, k3⟩ := take_ok A (n := 3) k2 (by omega) (by decide) (by decide)
      obtain ⟨x, ex, hx⟩ := atI_ok (xs := [D.int (10 ^ 20), .int (10 ^ 31), .int (10 ^ 40)]) (i := u) u0 (by simpa using u1)
      have hx2 : ∃ r : Int, x = .int r ∧ 1 ≤ r ∧ r ≤ 10 ^ 40 := by
        simp only [List.mem_cons, List.not_mem_nil, or_false] at hx
        rcases hx with rfl | rfl | rfl <;> exact ⟨_, rfl, by decide, by decide⟩
      obtain ⟨n, rfl, n0, n1⟩ := hx2
      obtain ⟨g, s4, e4, g0, g1, k4⟩ := take_ok A (n := n) k3 (by omega) n0 (by omega)
      have ht : t = 0 ∨ t = 1 := by omega
      have m1 : CMulG 1 g := mulG (by decide) (by decide) (by omega) (by omega)
      have m2 : CMulG (-1) g := mulG (by decide) (by decide) (by omega) (by omega)
      rcases ht with rfl | rfl
      · refine ⟨1 * g, s4, ?_, by omega, by omega, k4.mono (by omega)⟩
        simp only [m_law_great, mb_law_great, runF, mSeq, seqS, mAsg, mBin, mUn, mVar, mC, mRet, mNext, mIfS, mTest, mTruth, mAnd, mOr, mNot, mAndV, mOrV, mNotV, mCl, mCons, mNil, mCall, mDrop, mDrI, mDrNe, mDrIx, mDrLen, mDrSet, mDrPop, drL, isDr0, toS, fName, R.lift, bind_ok, bind_err, bind_bad, eAdd, eSub, eMul, eDiv, eMod, ePow, eNeg, eLt, eLe, eGt, eGe, eEqI, eNeI, eEqS, eEqB, eNeB, eIdxL, eIdxT, eBool, eAbs, Bool.false_eq_true, dList, dTup, if_true, if_false, if_pos, List.map_cons, List.map_nil, List.length_cons, List.length_nil, List.replicate, List.cons_append, List.nil_append, List.getElem?_cons_zero, List.getElem?_cons_succ, List.set_cons_zero, List.set_cons_succ, Nat.reduceAdd, Nat.reduceSub, Nat.reduceLeDiff, Nat.reduceLT, Nat.reduceMul, Int.reduceToNat, Int.reduceEq, Int.reduceAdd, Int.reduceSub, Int.reduceNeg, Bool.not_true, Bool.not_false, decide_true, decide_false, reduceIte, Nat.reduceEqDiff, ite_true, ite_false, mIf, mLst, mSlice, mPart, mNoPart, mItS, mItL, mItT, asSeq, asList, asTup, mFor, mPar, mPass, mBrk, mCnt, mRetN, e1, e2, e3, e4, hw, hw2, c20, c30, c31, c40, ex, at0, at1, m1, m2]
      · refine ⟨-1 * g, s4, ?_, by omega, by omega, k4.mono (by omega)⟩
        simp only [m_law_great, mb_law_great, runF, mSeq, seqS, mAsg, mBin, mUn, mVar, mC, mRet, mNext, mIfS, mTest, mTruth, mAnd, mOr, mNot, mAndV, mOrV, mNotV, mCl, mCons, mNil, mCall, mDrop, mDrI, mDrNe, mDrIx, mDrLen, mDrSet, mDrPop, drL, isDr0, toS, fName, R.lift, bind_ok, bind_err, bind_bad, eAdd, eSub, eMul, eDiv, eMod, ePow, eNeg, eLt, eLe, eGt, eGe, eEqI, eNeI, eEqS, eEqB, eNeB, eIdxL, eIdxT, eBool, eAbs, Bool.false_eq_true, dList, dTup, if_true, if_false, if_pos, List.map_cons, List.map_nil, List.length_cons, List.length_nil, List.replicate, List.cons_append, List.nil_append, List.getElem?_cons_zero, List.getElem?_cons_succ, List.set_cons_zero, List.set_cons_succ, Nat.reduceAdd, Nat.reduceSub, Nat.reduceLeDiff, Nat.reduceLT, Nat.reduceMul, Int.reduceToNat, Int.reduceEq, Int.reduceAdd, Int.reduceSub, Int.reduceNeg, Bool.not_true, Bool.not_false, decide_true, decide_false, reduceIte, Nat.reduceEqDiff, ite_true, ite_false, mIf, mLst, mSlice, mPart, mNoPart, mItS, mItL, mItT, asSeq, asList, asTup, mFor, mPar, mPass, mBrk, mCnt, mRetN, e1, e2, e3, e4, hw, hw2, c20, c30, c31, c40, ex, at0, at1, m1, m2]
theorem same_int (A : Ad) (x : Int) (s : Dr) : m_law_same A [.int x, .int x] s = .ok (.bl true) s := by
  have t1 : dIsT (.int x) [.ty "list", .ty "tuple"] = some (.bl false) := rfl
  have t2 : dIsT (.int x) [.ty "bool", .ty "int"] = some (.bl true) := rfl
  have t3 : dIsI [.int x, .ty "int"] = some (.bl true) := rfl
  have t4 : dIsI [.int x, .ty "bool"] = some (.bl false) := rfl
  simp only [m_law_same, mN_law_same, mb_law_same, mIsT, dTruth, runF, mSeq, seqS, mAsg, mBin, mUn, mVar, mC, mRet, mNext, mIfS, mTest, mTruth, mAnd, mOr, mNot, mAndV, mOrV, mNotV, mCl, mCons, mNil, mCall, mDrop, mDrI, mDrNe, mDrIx, mDrLen, mDrSet, mDrPop, drL, isDr0, toS, fName, R.lift, bind_ok, bind_err, bind_bad, eAdd, eSub, eMul, eDiv, eMod, ePow, eNeg, eLt, eLe, eGt, eGe, eEqI, eNeI, eEqS, eEqB, eNeB, eIdxL, eIdxT, eBool, eAbs, Bool.false_eq_true, dList, dTup, if_true, if_false, if_pos, List.map_cons, List.map_nil, List.length_cons, List.length_nil, List.replicate, List.cons_append, List.nil_append, List.getElem?_cons_zero, List.getElem?_cons_succ, List.set_cons_zero, List.set_cons_succ, Nat.reduceAdd, Nat.reduceSub, Nat.reduceLeDiff, Nat.reduceLT, Nat.reduceMul, Int.reduceToNat, Int.reduceEq, Int.reduceAdd, Int.reduceSub, Int.reduceNeg, Bool.not_true, Bool.not_false, decide_true, decide_false, reduceIte, Nat.reduceEqDiff, ite_true, ite_false, mIf, mLst, mSlice, mPart, mNoPart, mItS, mItL, mItT, asSeq, asList, asTup, mFor, mPar, mPass, mBrk, mCnt, mRetN, t1, t2, t3, t4]
theorem same_str (A : Ad) (x : Str) (s : Dr) : m_law_same A [.str x, .str x] s = .ok (.bl true) s := by
  have t1 : dIsT (.str x) [.ty "list", .ty "tuple"] = some (.bl false) := rfl
  have t2 : dIsT (.str x) [.ty "bool", .ty "int"] = some (.bl false) := rfl
  have t4 : dIsI [.str x, .ty "bool"] = some (.bl false) := rfl
  have t5 : dIs (.bl false) (.bl false) = some (.bl true) := rfl
  simp only [m_law_same, mN_law_same, mb_law_same, mIsT, dTruth, runF, mSeq, seqS, mAsg, mBin, mUn, mVar, mC, mRet, mNext, mIfS, mTest, mTruth, mAnd, mOr, mNot, mAndV, mOrV, mNotV, mCl, mCons, mNil, mCall, mDrop, mDrI, mDrNe, mDrIx, mDrLen, mDrSet, mDrPop, drL, isDr0, toS, fName, R.lift, bind_ok, bind_err, bind_bad, eAdd, eSub, eMul, eDiv, eMod, ePow, eNeg, eLt, eLe, eGt, eGe, eEqI, eNeI, eEqS, eEqB, eNeB, eIdxL, eIdxT, eBool, eAbs, Bool.false_eq_true, dList, dTup, if_true, if_false, if_pos, List.map_cons, List.map_nil, List.length_cons, List.length_nil, List.replicate, List.cons_append, List.nil_append, List.getElem?_cons_zero, List.getElem?_cons_succ, List.set_cons_zero, List.set_cons_succ, Nat.reduceAdd, Nat.reduceSub, Nat.reduceLeDiff, Nat.reduceLT, Nat.reduceMul, Int.reduceToNat, Int.reduceEq, Int.reduceAdd, Int.reduceSub, Int.reduceNeg, Bool.not_true, Bool.not_false, decide_true, decide_false, reduceIte, Nat.reduceEqDiff, ite_true, ite_false, mIf, mLst, mSlice, mPart, mNoPart, mItS, mItL, mItT, asSeq, asList, asTup, mFor, mPar, mPass, mBrk, mCnt, mRetN, t1, t2, t4, t5]
theorem strLen (m : Nat) : (Str.ofString (toString (m : Int))).length ≤ 60 ↔ m < 10 ^ 60 := by
  have e1 : (Str.ofString (toString (m : Int))).length = (Nat.toDigits 10 m).length := by
    have := congrArg List.length (PySem.W.KIN.signs_num m)
    rw [List.length_map] at this
    rw [← this]
    rfl
  have e2 := Nat.length_repr_le_iff (n := m) (k := 60) (by decide)
  rw [← String.length_toList, Nat.toList_repr] at e2
  rw [e1]
  exact e2
end S

namespace S
open PySem PySem.Spec PyProof.Rows L2 RZ Mr
/-! ### loops and comprehensions, plainly -/
theorem forL_ok {O : Wo} {f : D → Ev → Option Ev} {mb : MS O} (N : Nat) (I : Nat → Ev → O.S → Prop) (Pd : D → Prop) (st : ∀ i d ρ s, i < N → Pd d → I i ρ s → ∃ ρ1 ρ2 s2, f d ρ = some ρ1 ∧ mb ρ1 s = .nx ρ2 s2 ∧ I (i + 1) ρ2 s2) :
    ∀ (ds : List D) (i : Nat) (ρ : Ev) (s : O.S), i + ds.length ≤ N → (∀ d ∈ ds, Pd d) → I i ρ s → ∃ ρ' s', forL O.S f mb ds ρ s = .nx ρ' s' ∧ I (i + ds.length) ρ' s'
  | [], i, ρ, s, _, _, h => ⟨ρ, s, by simp only [forL], h⟩
  | d :: ds, i, ρ, s, hl, hp, h => by
    rw [List.length_cons] at hl
    obtain ⟨ρ1, ρ2, s2, e1, e2, h2⟩ := st i d ρ s (by omega) (hp d List.mem_cons_self) h
    obtain ⟨ρ', s', e3, h3⟩ := forL_ok N I Pd st ds (i + 1) ρ2 s2 (by omega) (fun x hx => hp x (List.mem_cons_of_mem _ hx)) h2
    refine ⟨ρ', s', ?_, ?_⟩
    · simp only [forL, e1, e2, e3]
    · have : i + (d :: ds).length = i + 1 + ds.length := by simp; omega
      rw [this]
      exact h3
/-- a loop that folds a state and leaves the source alone -/
theorem forL_fold {O : Wo} {f : D → Ev → Option Ev} {mb : MS O} {σ : Type} {s : O.S} (enc : σ → Ev) (step : σ → D → σ) (inv : σ → Prop) : ∀ (ds : List D) (st : σ),
    (∀ st, ∀ d ∈ ds, inv st → ∃ ρ1, f d (enc st) = some ρ1 ∧ mb ρ1 s = .nx (enc (step st d)) s ∧ inv (step st d)) → inv st → forL O.S f mb ds (enc st) s = .nx (enc (ds.foldl step st)) s ∧ inv (ds.foldl step st)
  | [], st, _, hi => ⟨rfl, hi⟩
  | d :: ds, st, h, hi => by
    obtain ⟨ρ1, e1, e2, h2⟩ := h st d List.mem_cons_self hi
    obtain ⟨e3, h3⟩ := forL_fold enc step inv ds (step st d) (fun st' x hx hi' => h st' x (List.mem_cons_of_mem _ hx) hi') h2
    refine ⟨?_, h3⟩
    simp only [forL, e1, e2, List.foldl_cons]
    exact e3
/-- each item gives one, the source is left alone -/
theorem lcL_map {O : Wo} {f : D → Ev → Option Ev} {mt : MT O} {me : ME O} {ρ : Ev} {s : O.S} (g : D → D) : ∀ (ds acc : List D), (∀ d ∈ ds, ∃ ρ1, f d ρ = some ρ1 ∧ mt ρ1 s = .ok true s ∧ me ρ1 s = .ok (g d) s) → acc.length + ds.length ≤ 100000 →
    lcL O.S f mt me ρ ds acc s = .ok (acc ++ ds.map g) s
  | [], acc, _, _ => by simp [lcL]
  | d :: ds, acc, h, hl => by
    rw [List.length_cons] at hl
    obtain ⟨ρ1, e1, e2, e3⟩ := h d List.mem_cons_self
    have e4 := lcL_map (O := O) (f := f) (mt := mt) (me := me) (ρ := ρ) (s := s) g ds (acc ++ [g d]) (fun x hx => h x (List.mem_cons_of_mem _ hx)) (by simp; omega)
    simp only [lcL, e1, e2, e3]
    rw [if_pos (by omega), e4]
    simp
/-- some items give one -/
theorem lcL_filter {O : Wo} {f : D → Ev → Option Ev} {mt : MT O} {me : ME O} {ρ : Ev} {s : O.S} (p : D → Bool) (g : D → D) : ∀ (ds acc : List D), (∀ d ∈ ds, ∃ ρ1, f d ρ = some ρ1 ∧ mt ρ1 s = .ok (p d) s ∧ (p d = true → me ρ1 s = .ok (g d) s)) → acc.length + ds.length ≤ 100000 →
    lcL O.S f mt me ρ ds acc s = .ok (acc ++ (ds.filter p).map g) s
  | [], acc, _, _ => by simp [lcL]
  | d :: ds, acc, h, hl => by
    rw [List.length_cons] at hl
    obtain ⟨ρ1, e1, e2, e3⟩ := h d List.mem_cons_self
    cases hp : p d with
    | true =>
      have e4 := lcL_filter (O := O) (f := f) (mt := mt) (me := me) (ρ := ρ) (s := s) p g ds (acc ++ [g d]) (fun x hx => h x (List.mem_cons_of_mem _ hx)) (by simp; omega)
      rw [hp] at e2
      simp only [lcL, e1, e2, e3 hp]
      rw [if_pos (by omega), e4, List.filter_cons_of_pos hp]
      simp
    | false =>
      have e4 := lcL_filter (O := O) (f := f) (mt := mt) (me := me) (ρ := ρ) (s := s) p g ds acc (fun x hx => h x (List.mem_cons_of_mem _ hx)) (by omega)
      rw [hp] at e2
      simp only [lcL, e1, e2]
      rw [e4, List.filter_cons_of_neg (by simp [hp])]
/-- draws in a comprehension: a bound on the source, a fact of each item -/
theorem lcL_draw {A : Ad} {f : D → Ev → Option Ev} {mt : MT (O A)} {me : ME (O A)} {ρ : Ev} (P : D → Prop) (c : Int) : ∀ (ds acc : List D) (b : Int) (s : Dr), (∀ (d : D) (b' : Int) (s' : Dr), d ∈ ds → Ok b' s' → b' + c ≤ b + c * ds.length → ∃ ρ1 y s2, f d ρ = some ρ1 ∧ mt ρ1 s' = .ok true s' ∧ me ρ1 s' = .ok y s2 ∧ P y ∧ Ok (b' + c) s2) →
    acc.length + ds.length ≤ 100000 → 0 ≤ c → Ok b s → (∀ d ∈ acc, P d) → ∃ ys s', lcL (O A).S f mt me ρ ds acc s = .ok ys s' ∧ ys.length = acc.length + ds.length ∧ (∀ d ∈ ys, P d) ∧ Ok (b + c * ds.length) s'
  | [], acc, b, s, _, _, _, ok, ha => ⟨acc, s, by simp [lcL], by simp, ha, ok.mono (by simp)⟩
  | d :: ds, acc, b, s, h, hl, hc, ok, ha => by
    rw [List.length_cons] at hl
    have hn : (0 : Int) ≤ c * (ds.length : Int) := Int.mul_nonneg hc (by omega)
    have hm : c * ((d :: ds).length : Int) = c * (ds.length : Int) + c := by
      rw [List.length_cons, Int.natCast_add, Int.mul_add]; simp
    obtain ⟨ρ1, y, s2, e1, e2, e3, py, ok2⟩ := h d b s List.mem_cons_self ok (by rw [hm]; omega)
    obtain ⟨ys, s', e4, l4, p4, ok4⟩ := lcL_draw (A := A) (f := f) (mt := mt) (me := me) (ρ := ρ) P c ds (acc ++ [y]) (b + c) s2 (fun x b' s' hx k hb => h x b' s' (List.mem_cons_of_mem _ hx) k (by rw [hm]; omega)) (by simp; omega) hc ok2
      (fun x hx => by rcases List.mem_append.mp hx with q | q; exact ha x q; rw [List.mem_singleton] at q; rw [q]; exact py)
    refine ⟨ys, s', ?_, ?_, p4, ok4.mono (by rw [hm]; omega)⟩
    · simp only [lcL, e1, e2, e3]
      rw [if_pos (by omega), e4]
    · rw [l4]; simp; omega
/-! ### _law_same of a thing with itself -/
def plD : Nat → D → Bool
  | _, .non => true
  | _, .bl _ => true
  | _, .int _ => true
  | _, .str _ => true
  | n + 1, .lst xs => decide (xs.length ≤ 100000) && xs.all (plD n)
  | n + 1, .tup xs => decide (xs.length ≤ 100000) && xs.all (plD n)
  | _, _ => false
theorem toBools_true (n : Nat) : toBools (List.replicate n (.bl true)) = some (List.replicate n true) := by
  induction n with
  | zero => rfl
  | succ n ih => simp only [List.replicate_succ, toBools, ih]; rfl
theorem dAll_true (xs : List D) (h : ∀ d ∈ xs, d = .bl true) : dAll [.lst xs] = some (.bl true) := by
  have e : xs = List.replicate xs.length (.bl true) := List.eq_replicate_iff.mpr ⟨rfl, h⟩
  rw [e]
  simp only [dAll, toBools_true, Option.map_some]
  simp
theorem zipD_self (xs : List D) : zipD xs xs = xs.map fun d => .tup [d, d] := by
  unfold zipD
  induction xs with
  | nil => rfl
  | cons x xs ih => simp [List.zip_cons_cons] at ih ⊢; exact ih
theorem same_seq (A : Ad) (n : Nat) (xs : List D) (d : D) (hd : d = .lst xs ∨ d = .tup xs) (hl : xs.length ≤ 100000) (ih : ∀ x ∈ xs, ∀ s, mN_law_same A n [x, x] s = .ok (.bl true) s) (s : Dr) : mN_law_same A (n + 1) [d, d] s = .ok (.bl true) s := by
  have lc : ∀ r2 r3 : Sl, lc_law_same_0 A (mN_law_same A n) [.sh d, .sh d, r2, r3] s = .ok (xs.map fun _ => .bl true) s := by
    intro r2 r3
    have z1 : dZip [d, d] = some (xs.map fun d => .tup [d, d]) := by rcases hd with rfl | rfl <;> simp only [dZip, zipD_self]
    have w1 : wipeE [.sh d, .sh d, r2, r3] [2, 3] = [.sh d, .sh d, .no, .no] := rfl
    simp only [lc_law_same_0, mLc, mItA, runF, mSeq, seqS, mAsg, mBin, mUn, mVar, mC, mRet, mNext, mIfS, mTest, mTruth, mAnd, mOr, mNot, mAndV, mOrV, mNotV, mCl, mCons, mNil, mCall, mDrop, mDrI, mDrNe, mDrIx, mDrLen, mDrSet, mDrPop, drL, isDr0, toS, fName, R.lift, bind_ok, bind_err, bind_bad, eAdd, eSub, eMul, eDiv, eMod, ePow, eNeg, eLt, eLe, eGt, eGe, eEqI, eNeI, eEqS, eEqB, eNeB, eIdxL, eIdxT, eBool, eAbs, Bool.false_eq_true, dList, dTup, if_true, if_false, if_pos, List.map_cons, List.map_nil, List.length_cons, List.length_nil, List.replicate, List.cons_append, List.nil_append, List.getElem?_cons_zero, List.getElem?_cons_succ, List.set_cons_zero, List.set_cons_succ, Nat.reduceAdd, Nat.reduceSub, Nat.reduceLeDiff, Nat.reduceLT, Nat.reduceMul, Int.reduceToNat, Int.reduceEq, Int.reduceAdd, Int.reduceSub, Int.reduceNeg, Bool.not_true, Bool.not_false, decide_true, decide_false, reduceIte, Nat.reduceEqDiff, ite_true, ite_false, mIf, mLst, mSlice, mPart, mNoPart, mItS, mItL, mItT, asSeq, asList, asTup, mFor, mPar, mPass, mBrk, mCnt, mRetN, z1, w1]
    refine (lcL_map (O := O A) (fun _ => .bl true) (xs.map fun d => D.tup [d, d]) [] ?_ (by simpa using hl)).trans ?_
    · intro y hy
      rw [List.mem_map] at hy
      obtain ⟨x, hx, rfl⟩ := hy
      refine ⟨_, rfl, rfl, ?_⟩
      have f2 : ∀ (a b : D) (ρ : Ev), fTup 2 (fCons (fName 2) (fCons (fName 3) fNil)) (.tup [a, b]) ρ = some ((ρ.set 2 (.sh a)).set 3 (.sh b)) := fun _ _ _ => rfl
      simp only [runF, mSeq, seqS, mAsg, mBin, mUn, mVar, mC, mRet, mNext, mIfS, mTest, mTruth, mAnd, mOr, mNot, mAndV, mOrV, mNotV, mCl, mCons, mNil, mCall, mDrop, mDrI, mDrNe, mDrIx, mDrLen, mDrSet, mDrPop, drL, isDr0, toS, fName, R.lift, bind_ok, bind_err, bind_bad, eAdd, eSub, eMul, eDiv, eMod, ePow, eNeg, eLt, eLe, eGt, eGe, eEqI, eNeI, eEqS, eEqB, eNeB, eIdxL, eIdxT, eBool, eAbs, Bool.false_eq_true, dList, dTup, if_true, if_false, if_pos, List.map_cons, List.map_nil, List.length_cons, List.length_nil, List.replicate, List.cons_append, List.nil_append, List.getElem?_cons_zero, List.getElem?_cons_succ, List.set_cons_zero, List.set_cons_succ, Nat.reduceAdd, Nat.reduceSub, Nat.reduceLeDiff, Nat.reduceLT, Nat.reduceMul, Int.reduceToNat, Int.reduceEq, Int.reduceAdd, Int.reduceSub, Int.reduceNeg, Bool.not_true, Bool.not_false, decide_true, decide_false, reduceIte, Nat.reduceEqDiff, ite_true, ite_false, mIf, mLst, mSlice, mPart, mNoPart, mItS, mItL, mItT, asSeq, asList, asTup, mFor, mPar, mPass, mBrk, mCnt, mRetN, ih x hx s]
    · simp
  have al : dAll [.lst (xs.map fun _ => D.bl true)] = some (.bl true) := dAll_true _ (fun d h => by simp at h; exact h.2.symm)
  have len : dLen [d] = some (.int xs.length) := by rcases hd with rfl | rfl <;> rfl
  have t1 : dIsT d [.ty "list", .ty "tuple"] = some (.bl true) := by rcases hd with rfl | rfl <;> rfl
  have t2 : ∃ b, dIsI [d, .ty "list"] = some (.bl b) := by rcases hd with rfl | rfl <;> exact ⟨_, rfl⟩
  have t3 : ∃ b, dIsI [d, .ty "tuple"] = some (.bl b) := by rcases hd with rfl | rfl <;> exact ⟨_, rfl⟩
  obtain ⟨b2, t2⟩ := t2
  obtain ⟨b3, t3⟩ := t3
  rw [mN_law_same]
  simp only [mb_law_same, mIsT, dTruth, mLst, runF, mSeq, seqS, mAsg, mBin, mUn, mVar, mC, mRet, mNext, mIfS, mTest, mTruth, mAnd, mOr, mNot, mAndV, mOrV, mNotV, mCl, mCons, mNil, mCall, mDrop, mDrI, mDrNe, mDrIx, mDrLen, mDrSet, mDrPop, drL, isDr0, toS, fName, R.lift, bind_ok, bind_err, bind_bad, eAdd, eSub, eMul, eDiv, eMod, ePow, eNeg, eLt, eLe, eGt, eGe, eEqI, eNeI, eEqS, eEqB, eNeB, eIdxL, eIdxT, eBool, eAbs, Bool.false_eq_true, dList, dTup, if_true, if_false, if_pos, List.map_cons, List.map_nil, List.length_cons, List.length_nil, List.replicate, List.cons_append, List.nil_append, List.getElem?_cons_zero, List.getElem?_cons_succ, List.set_cons_zero, List.set_cons_succ, Nat.reduceAdd, Nat.reduceSub, Nat.reduceLeDiff, Nat.reduceLT, Nat.reduceMul, Int.reduceToNat, Int.reduceEq, Int.reduceAdd, Int.reduceSub, Int.reduceNeg, Bool.not_true, Bool.not_false, decide_true, decide_false, reduceIte, Nat.reduceEqDiff, ite_true, ite_false, mIf, mLst, mSlice, mPart, mNoPart, mItS, mItL, mItT, asSeq, asList, asTup, mFor, mPar, mPass, mBrk, mCnt, mRetN, t1, t2, t3, len, lc, al]
theorem same_refl (A : Ad) : ∀ (n : Nat) (d : D), plD n d = true → ∀ (m : Nat), n < m → ∀ s, mN_law_same A m [d, d] s = .ok (.bl true) s
  | n, d, h, 0, hm, s => by omega
  | n, d, h, m + 1, hm, s => by
    have t5 : dIs (.bl false) (.bl false) = some (.bl true) := rfl
    cases d with
    | non =>
      have t1 : dIsT .non [.ty "list", .ty "tuple"] = some (.bl false) := rfl
      have t2 : dIsT .non [.ty "bool", .ty "int"] = some (.bl false) := rfl
      have t4 : dIsI [.non, .ty "bool"] = some (.bl false) := rfl
      have t6 : dEq .non .non = some (.bl true) := rfl
      rw [mN_law_same]
      simp only [mb_law_same, mIsT, dTruth, runF, mSeq, seqS, mAsg, mBin, mUn, mVar, mC, mRet, mNext, mIfS, mTest, mTruth, mAnd, mOr, mNot, mAndV, mOrV, mNotV, mCl, mCons, mNil, mCall, mDrop, mDrI, mDrNe, mDrIx, mDrLen, mDrSet, mDrPop, drL, isDr0, toS, fName, R.lift, bind_ok, bind_err, bind_bad, eAdd, eSub, eMul, eDiv, eMod, ePow, eNeg, eLt, eLe, eGt, eGe, eEqI, eNeI, eEqS, eEqB, eNeB, eIdxL, eIdxT, eBool, eAbs, Bool.false_eq_true, dList, dTup, if_true, if_false, if_pos, List.map_cons, List.map_nil, List.length_cons, List.length_nil, List.replicate, List.cons_append, List.nil_append, List.getElem?_cons_zero, List.getElem?_cons_succ, List.set_cons_zero, List.set_cons_succ, Nat.reduceAdd, Nat.reduceSub, Nat.reduceLeDiff, Nat.reduceLT, Nat.reduceMul, Int.reduceToNat, Int.reduceEq, Int.reduceAdd, Int.reduceSub, Int.reduceNeg, Bool.not_true, Bool.not_false, decide_true, decide_false, reduceIte, Nat.reduceEqDiff, ite_true, ite_false, mIf, mLst, mSlice, mPart, mNoPart, mItS, mItL, mItT, asSeq, asList, asTup, mFor, mPar, mPass, mBrk, mCnt, mRetN, t1, t2, t4, t5, t6]
    | bl b =>
      have t1 : dIsT (.bl b) [.ty "list", .ty "tuple"] = some (.bl false) := rfl
      have t2 : dIsT (.bl b) [.ty "bool", .ty "int"] = some (.bl true) := rfl
      have t3 : dIsI [.bl b, .ty "int"] = some (.bl true) := rfl
      have t4 : dIsI [.bl b, .ty "bool"] = some (.bl true) := rfl
      rw [mN_law_same]
      simp only [mb_law_same, mIsT, dTruth, runF, mSeq, seqS, mAsg, mBin, mUn, mVar, mC, mRet, mNext, mIfS, mTest, mTruth, mAnd, mOr, mNot, mAndV, mOrV, mNotV, mCl, mCons, mNil, mCall, mDrop, mDrI, mDrNe, mDrIx, mDrLen, mDrSet, mDrPop, drL, isDr0, toS, fName, R.lift, bind_ok, bind_err, bind_bad, eAdd, eSub, eMul, eDiv, eMod, ePow, eNeg, eLt, eLe, eGt, eGe, eEqI, eNeI, eEqS, eEqB, eNeB, eIdxL, eIdxT, eBool, eAbs, Bool.false_eq_true, dList, dTup, if_true, if_false, if_pos, List.map_cons, List.map_nil, List.length_cons, List.length_nil, List.replicate, List.cons_append, List.nil_append, List.getElem?_cons_zero, List.getElem?_cons_succ, List.set_cons_zero, List.set_cons_succ, Nat.reduceAdd, Nat.reduceSub, Nat.reduceLeDiff, Nat.reduceLT, Nat.reduceMul, Int.reduceToNat, Int.reduceEq, Int.reduceAdd, Int.reduceSub, Int.reduceNeg, Bool.not_true, Bool.not_false, decide_true, decide_false, reduceIte, Nat.reduceEqDiff, ite_true, ite_false, mIf, mLst, mSlice, mPart, mNoPart, mItS, mItL, mItT, asSeq, asList, asTup, mFor, mPar, mPass, mBrk, mCnt, mRetN, t1, t2, t3, t4]
    | int i =>
      have t1 : dIsT (.int i) [.ty "list", .ty "tuple"] = some (.bl false) := rfl
      have t2 : dIsT (.int i) [.ty "bool", .ty "int"] = some (.bl true) := rfl
      have t3 : dIsI [.int i, .ty "int"] = some (.bl true) := rfl
      have t4 : dIsI [.int i, .ty "bool"] = some (.bl false) := rfl
      rw [mN_law_same]
      simp only [mb_law_same, mIsT, dTruth, runF, mSeq, seqS, mAsg, mBin, mUn, mVar, mC, mRet, mNext, mIfS, mTest, mTruth, mAnd, mOr, mNot, mAndV, mOrV, mNotV, mCl, mCons, mNil, mCall, mDrop, mDrI, mDrNe, mDrIx, mDrLen, mDrSet, mDrPop, drL, isDr0, toS, fName, R.lift, bind_ok, bind_err, bind_bad, eAdd, eSub, eMul, eDiv, eMod, ePow, eNeg, eLt, eLe, eGt, eGe, eEqI, eNeI, eEqS, eEqB, eNeB, eIdxL, eIdxT, eBool, eAbs, Bool.false_eq_true, dList, dTup, if_true, if_false, if_pos, List.map_cons, List.map_nil, List.length_cons, List.length_nil, List.replicate, List.cons_append, List.nil_append, List.getElem?_cons_zero, List.getElem?_cons_succ, List.set_cons_zero, List.set_cons_succ, Nat.reduceAdd, Nat.reduceSub, Nat.reduceLeDiff, Nat.reduceLT, Nat.reduceMul, Int.reduceToNat, Int.reduceEq, Int.reduceAdd, Int.reduceSub, Int.reduceNeg, Bool.not_true, Bool.not_false, decide_true, decide_false, reduceIte, Nat.reduceEqDiff, ite_true, ite_false, mIf, mLst, mSlice, mPart, mNoPart, mItS, mItL, mItT, asSeq, asList, asTup, mFor, mPar, mPass, mBrk, mCnt, mRetN, t1, t2, t3, t4]
    | str x =>
      have t1 : dIsT (.str x) [.ty "list", .ty "tuple"] = some (.bl false) := rfl
      have t2 : dIsT (.str x) [.ty "bool", .ty "int"] = some (.bl false) := rfl
      have t4 : dIsI [.str x, .ty "bool"] = some (.bl false) := rfl
      rw [mN_law_same]
      simp only [mb_law_same, mIsT, dTruth, runF, mSeq, seqS, mAsg, mBin, mUn, mVar, mC, mRet, mNext, mIfS, mTest, mTruth, mAnd, mOr, mNot, mAndV, mOrV, mNotV, mCl, mCons, mNil, mCall, mDrop, mDrI, mDrNe, mDrIx, mDrLen, mDrSet, mDrPop, drL, isDr0, toS, fName, R.lift, bind_ok, bind_err, bind_bad, eAdd, eSub, eMul, eDiv, eMod, ePow, eNeg, eLt, eLe, eGt, eGe, eEqI, eNeI, eEqS, eEqB, eNeB, eIdxL, eIdxT, eBool, eAbs, Bool.false_eq_true, dList, dTup, if_true, if_false, if_pos, List.map_cons, List.map_nil, List.length_cons, List.length_nil, List.replicate, List.cons_append, List.nil_append, List.getElem?_cons_zero, List.getElem?_cons_succ, List.set_cons_zero, List.set_cons_succ, Nat.reduceAdd, Nat.reduceSub, Nat.reduceLeDiff, Nat.reduceLT, Nat.reduceMul, Int.reduceToNat, Int.reduceEq, Int.reduceAdd, Int.reduceSub, Int.reduceNeg, Bool.not_true, Bool.not_false, decide_true, decide_false, reduceIte, Nat.reduceEqDiff, ite_true, ite_false, mIf, mLst, mSlice, mPart, mNoPart, mItS, mItL, mItT, asSeq, asList, asTup, mFor, mPar, mPass, mBrk, mCnt, mRetN, t1, t2, t4, t5]
    | lst xs =>
      cases n with
      | zero => cases h
      | succ n =>
        simp only [plD, Bool.and_eq_true, decide_eq_true_eq, List.all_eq_true] at h
        exact same_seq A m xs _ (.inl rfl) h.1 (fun x hx s => same_refl A n x (h.2 x hx) m (by omega) s) s
    | tup xs =>
      cases n with
      | zero => cases h
      | succ n =>
        simp only [plD, Bool.and_eq_true, decide_eq_true_eq, List.all_eq_true] at h
        exact same_seq A m xs _ (.inr rfl) h.1 (fun x hx s => same_refl A n x (h.2 x hx) m (by omega) s) s
    | ref a => cases h2 : n <;> rw [h2] at h <;> cases h
    | ty a => cases h2 : n <;> rw [h2] at h <;> cases h
    | ins C a => cases h2 : n <;> rw [h2] at h <;> cases h
    | dct a => cases h2 : n <;> rw [h2] at h <;> cases h
theorem same_ok (A : Ad) {d : D} (h : plD 3 d = true) (s : Dr) : m_law_same A [d, d] s = .ok (.bl true) s := same_refl A 3 d h 4 (by decide) s
/-! ### a statement that runs through -/
def Nx {O : Wo} (P : Ev → O.S → Prop) (r : RS O.S) : Prop := ∃ ρ s, r = .nx ρ s ∧ P ρ s
theorem Nx.mono {O : Wo} {P Q : Ev → O.S → Prop} {r : RS O.S} (h : Nx P r) (f : ∀ ρ s, P ρ s → Q ρ s) : Nx Q r := by
  obtain ⟨ρ, s, e, p⟩ := h
  exact ⟨ρ, s, e, f ρ s p⟩
theorem nx_seq {O : Wo} {a b : MS O} {ρ : Ev} {s : O.S} {Q : Ev → O.S → Prop} (P : Ev → O.S → Prop) (h1 : Nx P (a ρ s)) (h2 : ∀ ρ' s', P ρ' s' → Nx Q (b ρ' s')) : Nx Q (mSeq O a b ρ s) := by
  obtain ⟨ρ', s', e, p⟩ := h1
  unfold mSeq seqS
  rw [e]
  exact h2 ρ' s' p
theorem nx_if {O : Wo} {c : MT O} {a b : MS O} {ρ : Ev} {s s1 : O.S} {k : Bool} {Q : Ev → O.S → Prop} (hc : c ρ s = .ok k s1) (h1 : k = true → Nx Q (a ρ s1)) (h2 : k = false → Nx Q (b ρ s1)) : Nx Q (mIfS O c a b ρ s) := by
  unfold mIfS
  rw [hc]
  simp only [toS]
  cases k with
  | true => rw [if_pos rfl]; exact h1 rfl
  | false => rw [if_neg (by decide)]; exact h2 rfl
theorem nx_next {O : Wo} {ρ : Ev} {s : O.S} {Q : Ev → O.S → Prop} (h : Q ρ s) : Nx Q (mNext O ρ s) := ⟨ρ, s, rfl, h⟩
theorem nx_of {O : Wo} {r : RS O.S} {ρ : Ev} {s : O.S} {Q : Ev → O.S → Prop} (e : r = .nx ρ s) (h : Q ρ s) : Nx Q r := ⟨ρ, s, e, h⟩
/-- a loop over n items, each of which runs through -/
theorem forL_nx {O : Wo} {f : D → Ev → Option Ev} {mb : MS O} (N : Nat) (I : Nat → Ev → O.S → Prop) (st : ∀ i d ρ s, i < N → I i ρ s → ∃ ρ1, f d ρ = some ρ1 ∧ Nx (I (i + 1)) (mb ρ1 s)) (ds : List D) (hl : ds.length = N) (ρ : Ev) (s : O.S) (h : I 0 ρ s) : Nx (I N) (forL O.S f mb ds ρ s) := by
  obtain ⟨ρ', s', e, h'⟩ := forL_ok (O := O) (f := f) (mb := mb) N I (fun _ => True) (fun i d ρ s hi _ q => by
    obtain ⟨ρ1, e1, ρ2, s2, e2, q2⟩ := st i d ρ s hi q
    exact ⟨ρ1, ρ2, s2, e1, e2, q2⟩) ds 0 ρ s (by omega) (fun _ _ => trivial) h
  exact ⟨ρ', s', e, by rw [Nat.zero_add, hl] at h'; exact h'⟩
/-! ### ints -/
theorem ints_of {Q : Int → Prop} : ∀ {ys : List D}, (∀ d ∈ ys, ∃ i : Int, d = .int i ∧ Q i) → ∃ xs : List Int, ys = xs.map D.int ∧ ∀ x ∈ xs, Q x
  | [], _ => ⟨[], rfl, fun x hx => absurd hx List.not_mem_nil⟩
  | y :: ys, h => by
    obtain ⟨i, rfl, hi⟩ := h y List.mem_cons_self
    obtain ⟨xs, rfl, hx⟩ := ints_of (ys := ys) fun d hd => h d (List.mem_cons_of_mem _ hd)
    exact ⟨i :: xs, rfl, fun x q => by rcases List.mem_cons.mp q with rfl | q; exact hi; exact hx x q⟩
theorem cut_tail (x : D) (xs : List D) : cutD (x :: xs) (some 1) none = xs := by
  have h1 : HT.sIx (x :: xs).length 0 (some 1) = 1 := by
    have := HT.sIx_nat (x :: xs).length 0 1
    rw [show ((1 : Nat) : Int) = 1 from rfl] at this
    rw [this, List.length_cons]
    omega
  unfold Mr.cutD
  rw [h1, HT.sIx_none]
  simp
theorem cut_take (xs : List D) (n : Nat) : cutD xs none (some (n : Int)) = xs.take n := by
  unfold Mr.cutD
  rw [HT.sIx_none, HT.sIx_nat]
  simp only [List.drop_zero, Nat.sub_zero]
  rw [List.take_eq_take_iff]
  omega
/-! ### equality of data without truths -/
def pqD : Nat → D → Bool
  | _, .non => true
  | _, .int _ => true
  | _, .str x => PyData.strOk x
  | n + 1, .lst xs => xs.all (pqD n)
  | n + 1, .tup xs => xs.all (pqD n)
  | _, _ => false
theorem toPs_pq {n : Nat} (ih : ∀ d, pqD n d = true → ∃ p, toP d = some p ∧ p.canLay0 = true ∧ p.depth ≤ n) : ∀ xs : List D, xs.all (pqD n) = true → ∃ ps, toPs xs = some ps ∧ PyData.canLayAll0 ps = true ∧ PyData.depthAll ps ≤ n
  | [], _ => ⟨[], by simp only [toPs], by simp only [PyData.canLayAll0], by simp [PyData.depthAll]⟩
  | x :: xs, h => by
    rw [List.all_cons, Bool.and_eq_true] at h
    obtain ⟨p, e1, c1, d1⟩ := ih x h.1
    obtain ⟨ps, e2, c2, d2⟩ := toPs_pq ih xs h.2
    refine ⟨p :: ps, by simp only [toPs, e1, e2], by simp only [PyData.canLayAll0, c1, c2, Bool.and_self], ?_⟩
    simp only [PyData.depthAll]
    omega
theorem toP_pq : ∀ (n : Nat) (d : D), pqD n d = true → ∃ p, toP d = some p ∧ p.canLay0 = true ∧ p.depth ≤ n
  | n, .non, _ => ⟨.none, by simp only [toP], by simp only [PyData.canLay0], by simp [PyData.depth]⟩
  | n, .int i, _ => ⟨.int i, by simp only [toP], by simp only [PyData.canLay0], by simp [PyData.depth]⟩
  | n, .str x, h => ⟨.str x, by simp only [toP], by simp only [PyData.canLay0]; cases n <;> simpa only [pqD] using h, by simp [PyData.depth]⟩
  | n + 1, .lst xs, h => by
    simp only [pqD] at h
    obtain ⟨ps, e, c, d⟩ := toPs_pq (toP_pq n) xs h
    exact ⟨.list ps, by simp only [toP, e, Option.map_some], by simp only [PyData.canLay0, c], by simp only [PyData.depth]; omega⟩
  | n + 1, .tup xs, h => by
    simp only [pqD] at h
    obtain ⟨ps, e, c, d⟩ := toPs_pq (toP_pq n) xs h
    exact ⟨.tuple ps, by simp only [toP, e, Option.map_some], by simp only [PyData.canLay0, c], by simp only [PyData.depth]; omega⟩
  | 0, .lst xs, h => by simp [pqD] at h
  | 0, .tup xs, h => by simp [pqD] at h
  | n, .bl b, h => by cases n <;> simp [pqD] at h
  | n, .ref b, h => by cases n <;> simp [pqD] at h
  | n, .ty b, h => by cases n <;> simp [pqD] at h
  | n, .ins b c, h => by cases n <;> simp [pqD] at h
  | n, .dct b, h => by cases n <;> simp [pqD] at h
theorem eqvAll_pq {n m : Nat} (ih : ∀ a b p q, pqD n a = true → pqD m b = true → toP a = some p → toP b = some q → (PyData.eqv p q = true ↔ a = b)) :
    ∀ (xs ys : List D) (ps qs : List PyData), xs.all (pqD n) = true → ys.all (pqD m) = true → toPs xs = some ps → toPs ys = some qs → (PyData.eqvAll ps qs = true ↔ xs = ys)
  | [], [], ps, qs, _, _, e1, e2 => by simp only [toPs, Option.some.injEq] at e1 e2; subst e1 e2; simp [PyData.eqvAll]
  | [], y :: ys, ps, qs, h1, h2, e1, e2 => by
    rw [List.all_cons, Bool.and_eq_true] at h2
    obtain ⟨p, f1, _, _⟩ := toP_pq m y h2.1
    obtain ⟨pp, f2, _, _⟩ := toPs_pq (toP_pq m) ys h2.2
    simp only [toPs, f1, f2, Option.some.injEq] at e1 e2
    subst e1 e2
    simp [PyData.eqvAll]
  | x :: xs, [], ps, qs, h1, h2, e1, e2 => by
    rw [List.all_cons, Bool.and_eq_true] at h1
    obtain ⟨p, f1, _, _⟩ := toP_pq n x h1.1
    obtain ⟨pp, f2, _, _⟩ := toPs_pq (toP_pq n) xs h1.2
    simp only [toPs, f1, f2, Option.some.injEq] at e1 e2
    subst e1 e2
    simp [PyData.eqvAll]
  | x :: xs, y :: ys, ps, qs, h1, h2, e1, e2 => by
    rw [List.all_cons, Bool.and_eq_true] at h1 h2
    obtain ⟨p, f1, _, _⟩ := toP_pq n x h1.1
    obtain ⟨pp, f2, _, _⟩ := toPs_pq (toP_pq n) xs h1.2
    obtain ⟨q, g1, _, _⟩ := toP_pq m y h2.1
    obtain ⟨qq, g2, _, _⟩ := toPs_pq (toP_pq m) ys h2.2
    simp only [toPs, f1, f2, g1, g2, Option.some.injEq] at e1 e2
    subst e1 e2
    have i1 := ih x y p q h1.1 h2.1 f1 g1
    have i2 := eqvAll_pq ih xs ys pp qq h1.2 h2.2 f2 g2
    simp only [PyData.eqvAll, Bool.and_eq_true, i1, i2, List.cons.injEq]
theorem eqv_pq : ∀ (n m : Nat) (a b : D) (p q : PyData), pqD n a = true → pqD m b = true → toP a = some p → toP b = some q → (PyData.eqv p q = true ↔ a = b) := by
  intro n
  induction n with
  | zero =>
    intro m a b p q h1 h2 e1 e2
    cases a <;> first | (simp [pqD] at h1; done) | skip
    all_goals (cases b <;> first | (cases m <;> simp [pqD] at h2; done) | skip)
    all_goals first | (simp only [toP, Option.some.injEq] at e1 e2; subst e1 e2; simp [PyData.eqv]; done) | skip
    all_goals (simp only [toP, Option.some.injEq, Option.map_eq_some_iff] at e1 e2; subst e1; obtain ⟨ps, _, rfl⟩ := e2; simp [PyData.eqv])
  | succ n ih =>
    intro m a b p q h1 h2 e1 e2
    cases a <;> first | (simp [pqD] at h1; done) | skip
    all_goals (cases b <;> first | (cases m <;> simp [pqD] at h2; done) | skip)
    all_goals first | (simp only [toP, Option.some.injEq] at e1 e2; subst e1 e2; simp [PyData.eqv]; done) | skip
    all_goals first | (simp only [toP, Option.some.injEq, Option.map_eq_some_iff] at e1 e2; subst e1; obtain ⟨ps, _, rfl⟩ := e2; simp [PyData.eqv]; done) | skip
    all_goals first | (simp only [toP, Option.some.injEq, Option.map_eq_some_iff] at e1 e2; subst e2; obtain ⟨ps, _, rfl⟩ := e1; simp [PyData.eqv]; done) | skip
    all_goals (simp only [toP, Option.map_eq_some_iff] at e1 e2; obtain ⟨ps, e1, rfl⟩ := e1; obtain ⟨qs, e2, rfl⟩ := e2)
    all_goals first | (simp only [PyData.eqv]; simp; done) | skip
    all_goals (cases m with
      | zero => simp [pqD] at h2
      | succ m =>
        simp only [pqD] at h1 h2
        have := eqvAll_pq (n := n) (m := m) (fun a b p q => ih m a b p q) _ _ ps qs h1 h2 e1 e2
        simp only [PyData.eqv, this, D.lst.injEq, D.tup.injEq])
theorem eq_pq {n m : Nat} {a b : D} (ha : pqD n a = true) (hb : pqD m b = true) (hn : n ≤ 60) (hm : m ≤ 60) : ∃ r, dEqB a b = some r ∧ (r = true ↔ a = b) := by
  obtain ⟨p, e1, c1, d1⟩ := toP_pq n a ha
  obtain ⟨q, e2, c2, d2⟩ := toP_pq m b hb
  have key := eqv_pq n m a b p q ha hb e1 e2
  have s1 : SeqAt.shaped p = true := by unfold SeqAt.shaped; rw [c1, Bool.true_and]; exact decide_eq_true (by omega)
  have s2 : SeqAt.shaped q = true := by unfold SeqAt.shaped; rw [c2, Bool.true_and]; exact decide_eq_true (by omega)
  unfold dEqB
  split <;> first | exact ⟨_, rfl, by simp⟩ | skip
  rw [e1, e2]
  dsimp only
  rw [if_pos ⟨s1, s2⟩]
  exact ⟨_, rfl, key⟩
theorem eq_self {n : Nat} {a : D} (ha : pqD n a = true) (hn : n ≤ 60) : dEq a a = some (.bl true) ∧ dNe a a = some (.bl false) := by
  obtain ⟨r, e, h⟩ := eq_pq ha ha hn hn
  have : r = true := h.mpr rfl
  subst this
  unfold dEq dNe
  rw [e]
  exact ⟨rfl, rfl⟩
theorem pq_ints {n : Nat} (xs : List Int) : (xs.map D.int).all (pqD n) = true := by
  rw [List.all_eq_true]
  intro d hd
  rw [List.mem_map] at hd
  obtain ⟨i, _, rfl⟩ := hd
  cases n <;> rfl
theorem pq_lst {n : Nat} (xs : List Int) : pqD (n + 1) (.lst (xs.map D.int)) = true := by simp only [pqD]; exact pq_ints xs
theorem pq_tup {n : Nat} (xs : List Int) : pqD (n + 1) (.tup (xs.map D.int)) = true := by simp only [pqD]; exact pq_ints xs
end S

namespace S
open PySem PySem.Spec PyProof.Rows L2 RZ Mr
def k_AXES : D := .int 4
def k_ELEMENTS : D := .int 64
def k_LAST_CELL : D := .int 63
/-! product_of -/
def bd_product_of_0 (A : Ad) : MS (O A) :=
  (mAug (O A) 1 dMul (mVar (O A) 2))
def mb_product_of (A : Ad) : MS (O A) :=
  (mSeq (O A) (mAsg (O A) (mC (O A) (.int 1)) (fName 1))
  (mSeq (O A) (mFor (O A) (mItS (O A) (mVar (O A) 0)) (fName 2)
  (bd_product_of_0 A))
  (mRet (O A) (mVar (O A) 1))))
def m_product_of (A : Ad) : List D → Dr → R Dr D := runF (O A) 3 (mb_product_of A)
/-! cells_of -/
def lc_cells_of_0 (A : Ad) : MA (O A) :=
  (mLc2 (O A) (mItS (O A) (mVar (O A) 3)) (fName 6) (mYes (O A)) (mRng1 (O A) (mCons (O A) (mVar (O A) 4) (mNil (O A)))) (fName 7) (mYes (O A)) (mBin (O A) dAdd (mVar (O A) 6) (mBin (O A) dMul (mVar (O A) 7) (mVar (O A) 5))) [6, 7] [7])
def bd_cells_of_1 (A : Ad) : MS (O A) :=
  (mAsg (O A) (mLst (O A) (lc_cells_of_0 A)) (fName 3))
def mb_cells_of (A : Ad) : MS (O A) :=
  (mSeq (O A) (mAsg (O A) (mCl (O A) dList (mCons (O A) (mVar (O A) 0) (mNil (O A)))) (fName 3))
  (mSeq (O A) (mFor (O A) (mItA (O A) dZip (mCons (O A) (mVar (O A) 1) (mCons (O A) (mVar (O A) 2) (mNil (O A))))) (fTup 2 (fCons (fName 4) (fCons (fName 5) fNil)))
  (bd_cells_of_1 A))
  (mRet (O A) (mVar (O A) 3))))
def m_cells_of (A : Ad) : List D → Dr → R Dr D := runF (O A) 8 (mb_cells_of A)
/-! ends_of -/
def lc_ends_of_0 (A : Ad) : MA (O A) :=
  (mLc (O A) (mItA (O A) dZip (mCons (O A) (mVar (O A) 1) (mCons (O A) (mVar (O A) 2) (mNil (O A))))) (fTup 2 (fCons (fName 6) (fCons (fName 7) fNil))) (mYes (O A)) (mBin (O A) dMul (mBin (O A) dSub (mVar (O A) 6) (mC (O A) (.int 1))) (mVar (O A) 7)) [6, 7])
def lc_ends_of_1 (A : Ad) : MA (O A) :=
  (mLc (O A) (mItS (O A) (mVar (O A) 3)) (fName 8) (mTest (O A) (mBin (O A) dLt (mVar (O A) 8) (mC (O A) (.int 0)))) (mVar (O A) 8) [8])
def lc_ends_of_2 (A : Ad) : MA (O A) :=
  (mLc (O A) (mItS (O A) (mVar (O A) 3)) (fName 8) (mTest (O A) (mBin (O A) dGt (mVar (O A) 8) (mC (O A) (.int 0)))) (mVar (O A) 8) [8])
def mb_ends_of (A : Ad) : MS (O A) :=
  (mSeq (O A) (mAsg (O A) (mLst (O A) (lc_ends_of_0 A)) (fName 3))
  (mSeq (O A) (mAsg (O A) (mBin (O A) dAdd (mVar (O A) 0) (mCl (O A) dSum (mCons (O A) (mLst (O A) (lc_ends_of_1 A)) (mNil (O A))))) (fName 4))
  (mSeq (O A) (mAsg (O A) (mBin (O A) dAdd (mVar (O A) 0) (mCl (O A) dSum (mCons (O A) (mLst (O A) (lc_ends_of_2 A)) (mNil (O A))))) (fName 5))
  (mRet (O A) (mCl (O A) dTup (mCons (O A) (mVar (O A) 4) (mCons (O A) (mVar (O A) 5) (mNil (O A)))))))))
def m_ends_of (A : Ad) : List D → Dr → R Dr D := runF (O A) 9 (mb_ends_of A)
/-! view_reason -/
def lc_view_reason_0 (A : Ad) : MA (O A) :=
  (mLc (O A) (mItS (O A) (mVar (O A) 1)) (fName 5) (mYes (O A)) (mBin (O A) dLt (mVar (O A) 5) (mC (O A) (.int 1))) [5])
def mb_view_reason (A : Ad) : MS (O A) :=
  (mSeq (O A) (mIfS (O A) (mOr (O A) (mTest (O A) (mBin (O A) dNe (mCl (O A) dLen (mCons (O A) (mVar (O A) 1) (mNil (O A)))) (mCl (O A) dLen (mCons (O A) (mVar (O A) 2) (mNil (O A)))))) (mTest (O A) (mBin (O A) dGt (mCl (O A) dLen (mCons (O A) (mVar (O A) 1) (mNil (O A)))) (mC (O A) k_AXES))))
  (mRet (O A) (mC (O A) (.str "rank")))
  (mNext (O A)))
  (mSeq (O A) (mIfS (O A) (mTruth (O A) (mCl (O A) dAny (mCons (O A) (mLst (O A) (lc_view_reason_0 A)) (mNil (O A)))))
  (mRet (O A) (mC (O A) (.str "length")))
  (mNext (O A)))
  (mSeq (O A) (mIfS (O A) (mTest (O A) (mBin (O A) dGt (mCall (O A) 1 (m_product_of A) (mCons (O A) (mVar (O A) 1) (mNil (O A)))) (mC (O A) k_ELEMENTS)))
  (mRet (O A) (mC (O A) (.str "size")))
  (mNext (O A)))
  (mSeq (O A) (mAsg (O A) (mCall (O A) 3 (m_ends_of A) (mCons (O A) (mVar (O A) 0) (mCons (O A) (mVar (O A) 1) (mCons (O A) (mVar (O A) 2) (mNil (O A)))))) (fTup 2 (fCons (fName 3) (fCons (fName 4) fNil))))
  (mSeq (O A) (mIfS (O A) (mOr (O A) (mTest (O A) (mBin (O A) dLt (mVar (O A) 3) (mC (O A) (.int 0)))) (mTest (O A) (mBin (O A) dGt (mVar (O A) 4) (mC (O A) k_LAST_CELL))))
  (mRet (O A) (mC (O A) (.str "cell")))
  (mNext (O A)))
  (mRet (O A) (mC (O A) .non)))))))
def m_view_reason (A : Ad) : List D → Dr → R Dr D := runF (O A) 6 (mb_view_reason A)
/-! View_init -/
def lc_View_init_0 (A : Ad) : MA (O A) :=
  (mLc (O A) (mItA (O A) dZip (mCons (O A) (mVar (O A) 2) (mCons (O A) (mVar (O A) 3) (mNil (O A))))) (fTup 2 (fCons (fName 5) (fCons (fName 6) fNil))) (mYes (O A)) (mIf (O A) (mTest (O A) (mBin (O A) dGt (mVar (O A) 5) (mC (O A) (.int 1)))) (mVar (O A) 6) (mC (O A) (.int 0))) [5, 6])
def mb_View_init (A : Ad) : MS (O A) :=
  (mSeq (O A) (mAsg (O A) (mCall (O A) 3 (m_view_reason A) (mCons (O A) (mVar (O A) 1) (mCons (O A) (mVar (O A) 2) (mCons (O A) (mVar (O A) 3) (mNil (O A)))))) (fName 4))
  (mSeq (O A) (mIfS (O A) (mTest (O A) (mBin (O A) dNotIs (mVar (O A) 4) (mC (O A) .non)))
  (mRaise (O A) (A.c .ViewError) ["reason"] (mCons (O A) (mVar (O A) 4) (mNil (O A))))
  (mNext (O A)))
  (mSeq (O A) (mSetF (O A) 0 A.v "offset" (mVar (O A) 1))
  (mSeq (O A) (mSetF (O A) 0 A.v "shape" (mCl (O A) dTupOf (mCons (O A) (mVar (O A) 2) (mNil (O A)))))
  (mSetF (O A) 0 A.v "strides" (mCl (O A) dTupOf (mCons (O A) (mLst (O A) (lc_View_init_0 A)) (mNil (O A)))))))))
def m_View_init (A : Ad) : List D → Dr → R Dr (List (Str × D)) := runI (O A) A.v 6 (mb_View_init A)
/-! View_cells -/
def mb_View_cells (A : Ad) : MS (O A) :=
  (mRet (O A) (mCall (O A) 3 (m_cells_of A) (mCons (O A) (mFld (O A) A.v "offset" (mVar (O A) 0)) (mCons (O A) (mFld (O A) A.v "shape" (mVar (O A) 0)) (mCons (O A) (mFld (O A) A.v "strides" (mVar (O A) 0)) (mNil (O A)))))))
def m_View_cells (A : Ad) : List D → Dr → R Dr D := runF (O A) 1 (mb_View_cells A)
/-! law_parts -/
def bd_law_parts_0 (A : Ad) : MS (O A) :=
  (mSeq (O A) (mAsg (O A) (mBin (O A) dAdd (mC (O A) (.int 1)) (mCall (O A) 2 (m_law_take A) (mCons (O A) (mVar (O A) 0) (mCons (O A) (mCl (O A) dMin2 (mCons (O A) (mVar (O A) 5) (mCons (O A) (mBin (O A) dIdx (mCl (O A) dList (mCons (O A) (mC (O A) (.int 2)) (mCons (O A) (mC (O A) (.int 4)) (mCons (O A) (mC (O A) (.int 8)) (mCons (O A) (mC (O A) (.int 64)) (mNil (O A))))))) (mCall (O A) 2 (m_law_take A) (mCons (O A) (mVar (O A) 0) (mCons (O A) (mC (O A) (.int 4)) (mNil (O A)))))) (mNil (O A))))) (mNil (O A)))))) (fName 9))
  (mSeq (O A) (mAsg (O A) (mC (O A) (.int 0)) (fName 10))
  (mSeq (O A) (mIfS (O A) (mTest (O A) (mBin (O A) dGt (mVar (O A) 9) (mC (O A) (.int 1))))
  (mAsg (O A) (mBin (O A) dDiv (mVar (O A) 6) (mBin (O A) dSub (mVar (O A) 9) (mC (O A) (.int 1)))) (fName 10))
  (mNext (O A)))
  (mSeq (O A) (mAsg (O A) (mBin (O A) dSub (mCall (O A) 2 (m_law_take A) (mCons (O A) (mVar (O A) 0) (mCons (O A) (mBin (O A) dAdd (mBin (O A) dMul (mC (O A) (.int 2)) (mVar (O A) 10)) (mC (O A) (.int 1))) (mNil (O A))))) (mVar (O A) 10)) (fName 11))
  (mSeq (O A) (mAsg (O A) (mBin (O A) dDiv (mVar (O A) 5) (mVar (O A) 9)) (fName 5))
  (mSeq (O A) (mAsg (O A) (mBin (O A) dSub (mVar (O A) 6) (mBin (O A) dMul (mCl (O A) dAbs (mCons (O A) (mVar (O A) 11) (mNil (O A)))) (mBin (O A) dSub (mVar (O A) 9) (mC (O A) (.int 1))))) (fName 6))
  (mSeq (O A) (mIfS (O A) (mTest (O A) (mBin (O A) dLt (mVar (O A) 11) (mC (O A) (.int 0))))
  (mAsg (O A) (mBin (O A) dSub (mVar (O A) 7) (mBin (O A) dMul (mVar (O A) 11) (mBin (O A) dSub (mVar (O A) 9) (mC (O A) (.int 1))))) (fName 7))
  (mNext (O A)))
  (mSeq (O A) (mAppend (O A) 3 (mVar (O A) 9))
  (mAppend (O A) 4 (mVar (O A) 11))))))))))
def mb_law_parts (A : Ad) : MS (O A) :=
  (mSeq (O A) (mOwn (O A) 3 (mDisp (O A) (mNil (O A))))
  (mSeq (O A) (mOwn (O A) 4 (mDisp (O A) (mNil (O A))))
  (mSeq (O A) (mAsg (O A) (mVar (O A) 2) (fName 5))
  (mSeq (O A) (mAsg (O A) (mBin (O A) dSub (mVar (O A) 1) (mC (O A) (.int 1))) (fName 6))
  (mSeq (O A) (mAsg (O A) (mC (O A) (.int 0)) (fName 7))
  (mSeq (O A) (mFor (O A) (mRng1 (O A) (mCons (O A) (mCall (O A) 2 (m_law_take A) (mCons (O A) (mVar (O A) 0) (mCons (O A) (mC (O A) (.int 5)) (mNil (O A))))) (mNil (O A)))) (fName 8)
  (bd_law_parts_0 A))
  (mFrz (O A) 4 (mFrz (O A) 3 (mRet (O A) (mCl (O A) dTup (mCons (O A) (mBin (O A) dAdd (mVar (O A) 7) (mCall (O A) 2 (m_law_take A) (mCons (O A) (mVar (O A) 0) (mCons (O A) (mBin (O A) dAdd (mVar (O A) 6) (mC (O A) (.int 1))) (mNil (O A)))))) (mCons (O A) (mCl (O A) dTupOf (mCons (O A) (mVar (O A) 3) (mNil (O A)))) (mCons (O A) (mCl (O A) dTupOf (mCons (O A) (mVar (O A) 4) (mNil (O A)))) (mNil (O A)))))))))))))))
def m_law_parts (A : Ad) : List D → Dr → R Dr D := runF (O A) 12 (mb_law_parts A)
/-! law_cells -/
def lc_law_cells_0 (A : Ad) : MA (O A) :=
  (mLc (O A) (mRng1 (O A) (mCons (O A) (mVar (O A) 5) (mNil (O A)))) (fName 9) (mYes (O A)) (mBin (O A) dAdd (mVar (O A) 8) (mBin (O A) dMul (mVar (O A) 9) (mVar (O A) 6))) [9])
def bd_law_cells_1 (A : Ad) : MS (O A) :=
  (mExtend (O A) 7 (lc_law_cells_0 A))
def bd_law_cells_2 (A : Ad) : MS (O A) :=
  (mSeq (O A) (mOwn (O A) 7 (mDisp (O A) (mNil (O A))))
  (mSeq (O A) (mFor (O A) (mItS (O A) (mVar (O A) 4)) (fName 8)
  (bd_law_cells_1 A))
  (mFrz (O A) 7 (mAsg (O A) (mVar (O A) 7) (fName 4)))))
def mb_law_cells (A : Ad) : MS (O A) :=
  (mSeq (O A) (mAsg (O A) (mVar (O A) 0) (fTup 3 (fCons (fName 1) (fCons (fName 2) (fCons (fName 3) fNil)))))
  (mSeq (O A) (mAsg (O A) (mCl (O A) dList (mCons (O A) (mVar (O A) 1) (mNil (O A)))) (fName 4))
  (mSeq (O A) (mFor (O A) (mItA (O A) dZip (mCons (O A) (mVar (O A) 2) (mCons (O A) (mVar (O A) 3) (mNil (O A))))) (fTup 2 (fCons (fName 5) (fCons (fName 6) fNil)))
  (bd_law_cells_2 A))
  (mRet (O A) (mVar (O A) 4)))))
def m_law_cells (A : Ad) : List D → Dr → R Dr D := runF (O A) 10 (mb_law_cells A)
/-! law_indices -/
def lc_law_indices_0 (A : Ad) : MA (O A) :=
  (mLc (O A) (mRng1 (O A) (mCons (O A) (mVar (O A) 2) (mNil (O A)))) (fName 5) (mYes (O A)) (mBin (O A) dAdd (mVar (O A) 4) (mCl (O A) dTup (mCons (O A) (mVar (O A) 5) (mNil (O A))))) [5])
def bd_law_indices_1 (A : Ad) : MS (O A) :=
  (mExtend (O A) 3 (lc_law_indices_0 A))
def bd_law_indices_2 (A : Ad) : MS (O A) :=
  (mSeq (O A) (mOwn (O A) 3 (mDisp (O A) (mNil (O A))))
  (mSeq (O A) (mFor (O A) (mItS (O A) (mVar (O A) 1)) (fName 4)
  (bd_law_indices_1 A))
  (mFrz (O A) 3 (mAsg (O A) (mVar (O A) 3) (fName 1)))))
def mb_law_indices (A : Ad) : MS (O A) :=
  (mSeq (O A) (mAsg (O A) (mCl (O A) dList (mCons (O A) (mCl (O A) dTup (mNil (O A))) (mNil (O A)))) (fName 1))
  (mSeq (O A) (mFor (O A) (mItS (O A) (mVar (O A) 0)) (fName 2)
  (bd_law_indices_2 A))
  (mRet (O A) (mVar (O A) 1))))
def m_law_indices (A : Ad) : List D → Dr → R Dr D := runF (O A) 6 (mb_law_indices A)
/-! law_view -/
def mb_law_view (A : Ad) : MS (O A) :=
  (mRet (O A) (mMake (O A) A.v 3 (m_View_init A) (mCons (O A) (mBin (O A) dIdx (mVar (O A) 0) (mC (O A) (.int 0))) (mCons (O A) (mBin (O A) dIdx (mVar (O A) 0) (mC (O A) (.int 1))) (mCons (O A) (mBin (O A) dIdx (mVar (O A) 0) (mC (O A) (.int 2))) (mNil (O A)))))))
def m_law_view (A : Ad) : List D → Dr → R Dr D := runF (O A) 1 (mb_law_view A)
/-! index_of -/
def bd_index_of_0 (A : Ad) : MS (O A) :=
  (mSeq (O A) (mAsg (O A) (mBin (O A) dAdd (mCl (O A) dTup (mCons (O A) (mBin (O A) dMod (mVar (O A) 1) (mVar (O A) 3)) (mNil (O A)))) (mVar (O A) 2)) (fName 2))
  (mAsg (O A) (mBin (O A) dDiv (mVar (O A) 1) (mVar (O A) 3)) (fName 1)))
def mb_index_of (A : Ad) : MS (O A) :=
  (mSeq (O A) (mAsg (O A) (mCl (O A) dTup (mNil (O A))) (fName 2))
  (mSeq (O A) (mFor (O A) (mItS (O A) (mUn (O A) dRevS (mVar (O A) 0))) (fName 3)
  (bd_index_of_0 A))
  (mRet (O A) (mVar (O A) 2))))
def m_index_of (A : Ad) : List D → Dr → R Dr D := runF (O A) 4 (mb_index_of A)
/-! first_elements -/
def bd_first_elements_0 (A : Ad) : MS (O A) :=
  (mSetd (O A) 1 (mVar (O A) 3) (mVar (O A) 2))
def mb_first_elements (A : Ad) : MS (O A) :=
  (mSeq (O A) (mOwnD0 (O A) 1)
  (mSeq (O A) (mFor (O A) (mItA (O A) dEnum (mCons (O A) (mMeth (O A) A.v "cells" 1 (m_View_cells A) (mVar (O A) 0) (mNil (O A))) (mNil (O A)))) (fTup 2 (fCons (fName 2) (fCons (fName 3) fNil)))
  (bd_first_elements_0 A))
  (mFrzD (O A) 1 (mRet (O A) (mVar (O A) 1)))))
def m_first_elements (A : Ad) : List D → Dr → R Dr D := runF (O A) 4 (mb_first_elements A)
/-! overlap -/
def bd_overlap_0 (A : Ad) : MS (O A) :=
  (mIfS (O A) (mTest (O A) (mBin (O A) dInK (mVar (O A) 4) (mVar (O A) 2)))
  (mRet (O A) (mCl (O A) dTup (mCons (O A) (mCall (O A) 2 (m_index_of A) (mCons (O A) (mFld (O A) A.v "shape" (mVar (O A) 0)) (mCons (O A) (mVar (O A) 3) (mNil (O A))))) (mCons (O A) (mCall (O A) 2 (m_index_of A) (mCons (O A) (mFld (O A) A.v "shape" (mVar (O A) 1)) (mCons (O A) (mBin (O A) dGetK (mVar (O A) 2) (mVar (O A) 4)) (mNil (O A))))) (mNil (O A))))))
  (mNext (O A)))
def mb_overlap (A : Ad) : MS (O A) :=
  (mSeq (O A) (mAsg (O A) (mCall (O A) 1 (m_first_elements A) (mCons (O A) (mVar (O A) 1) (mNil (O A)))) (fName 2))
  (mSeq (O A) (mFor (O A) (mItA (O A) dEnum (mCons (O A) (mMeth (O A) A.v "cells" 1 (m_View_cells A) (mVar (O A) 0) (mNil (O A))) (mNil (O A)))) (fTup 2 (fCons (fName 3) (fCons (fName 4) fNil)))
  (bd_overlap_0 A))
  (mRet (O A) (mC (O A) .non))))
def m_overlap (A : Ad) : List D → Dr → R Dr D := runF (O A) 5 (mb_overlap A)
/-! duplicate -/
def bd_duplicate_0 (A : Ad) : MS (O A) :=
  (mSeq (O A) (mIfS (O A) (mTest (O A) (mInO (O A) true 1 (mVar (O A) 3)))
  (mRet (O A) (mCl (O A) dTup (mCons (O A) (mCall (O A) 2 (m_index_of A) (mCons (O A) (mFld (O A) A.v "shape" (mVar (O A) 0)) (mCons (O A) (mGetD (O A) 1 (mVar (O A) 3)) (mNil (O A))))) (mCons (O A) (mCall (O A) 2 (m_index_of A) (mCons (O A) (mFld (O A) A.v "shape" (mVar (O A) 0)) (mCons (O A) (mVar (O A) 2) (mNil (O A))))) (mNil (O A))))))
  (mNext (O A)))
  (mPutD (O A) 1 (mVar (O A) 3) (mVar (O A) 2)))
def mb_duplicate (A : Ad) : MS (O A) :=
  (mSeq (O A) (mOwnD0 (O A) 1)
  (mSeq (O A) (mFor (O A) (mItA (O A) dEnum (mCons (O A) (mMeth (O A) A.v "cells" 1 (m_View_cells A) (mVar (O A) 0) (mNil (O A))) (mNil (O A)))) (fTup 2 (fCons (fName 2) (fCons (fName 3) fNil)))
  (bd_duplicate_0 A))
  (mRet (O A) (mC (O A) .non))))
def m_duplicate (A : Ad) : List D → Dr → R Dr D := runF (O A) 4 (mb_duplicate A)
/-! outside -/
def bd_outside_0 (A : Ad) : MS (O A) :=
  (mIfS (O A) (mTest (O A) (mBin (O A) dNotInK (mVar (O A) 4) (mVar (O A) 2)))
  (mRet (O A) (mCall (O A) 2 (m_index_of A) (mCons (O A) (mFld (O A) A.v "shape" (mVar (O A) 0)) (mCons (O A) (mVar (O A) 3) (mNil (O A))))))
  (mNext (O A)))
def mb_outside (A : Ad) : MS (O A) :=
  (mSeq (O A) (mAsg (O A) (mCall (O A) 1 (m_first_elements A) (mCons (O A) (mVar (O A) 1) (mNil (O A)))) (fName 2))
  (mSeq (O A) (mFor (O A) (mItA (O A) dEnum (mCons (O A) (mMeth (O A) A.v "cells" 1 (m_View_cells A) (mVar (O A) 0) (mNil (O A))) (mNil (O A)))) (fTup 2 (fCons (fName 3) (fCons (fName 4) fNil)))
  (bd_outside_0 A))
  (mRet (O A) (mC (O A) .non))))
def m_outside (A : Ad) : List D → Dr → R Dr D := runF (O A) 5 (mb_outside A)
/-! View_parts -/
def mb_View_parts (A : Ad) : MS (O A) :=
  (mRet (O A) (mCl (O A) dTup (mCons (O A) (mFld (O A) A.v "offset" (mVar (O A) 0)) (mCons (O A) (mFld (O A) A.v "shape" (mVar (O A) 0)) (mCons (O A) (mFld (O A) A.v "strides" (mVar (O A) 0)) (mNil (O A)))))))
def m_View_parts (A : Ad) : List D → Dr → R Dr D := runF (O A) 1 (mb_View_parts A)
/-! View_size -/
def mb_View_size (A : Ad) : MS (O A) :=
  (mRet (O A) (mCall (O A) 1 (m_product_of A) (mCons (O A) (mFld (O A) A.v "shape" (mVar (O A) 0)) (mNil (O A)))))
def m_View_size (A : Ad) : List D → Dr → R Dr D := runF (O A) 1 (mb_View_size A)
/-! View_lowest -/
def mb_View_lowest (A : Ad) : MS (O A) :=
  (mRet (O A) (mBin (O A) dIdx (mCall (O A) 3 (m_ends_of A) (mCons (O A) (mFld (O A) A.v "offset" (mVar (O A) 0)) (mCons (O A) (mFld (O A) A.v "shape" (mVar (O A) 0)) (mCons (O A) (mFld (O A) A.v "strides" (mVar (O A) 0)) (mNil (O A)))))) (mC (O A) (.int 0))))
def m_View_lowest (A : Ad) : List D → Dr → R Dr D := runF (O A) 1 (mb_View_lowest A)
/-! View_highest -/
def mb_View_highest (A : Ad) : MS (O A) :=
  (mRet (O A) (mBin (O A) dIdx (mCall (O A) 3 (m_ends_of A) (mCons (O A) (mFld (O A) A.v "offset" (mVar (O A) 0)) (mCons (O A) (mFld (O A) A.v "shape" (mVar (O A) 0)) (mCons (O A) (mFld (O A) A.v "strides" (mVar (O A) 0)) (mNil (O A)))))) (mC (O A) (.int 1))))
def m_View_highest (A : Ad) : List D → Dr → R Dr D := runF (O A) 1 (mb_View_highest A)
/-! contiguous -/
def bd_contiguous_0 (A : Ad) : MS (O A) :=
  (mSeq (O A) (mAppend (O A) 1 (mVar (O A) 2))
  (mAug (O A) 2 dMul (mVar (O A) 3)))
def mb_contiguous (A : Ad) : MS (O A) :=
  (mSeq (O A) (mOwn (O A) 1 (mDisp (O A) (mNil (O A))))
  (mSeq (O A) (mAsg (O A) (mC (O A) (.int 1)) (fName 2))
  (mSeq (O A) (mFor (O A) (mItA (O A) dRev (mCons (O A) (mVar (O A) 0) (mNil (O A)))) (fName 3)
  (bd_contiguous_0 A))
  (mFrz (O A) 1 (mRet (O A) (mMake (O A) A.v 3 (m_View_init A) (mCons (O A) (mC (O A) (.int 0)) (mCons (O A) (mVar (O A) 0) (mCons (O A) (mUn (O A) dRevS (mVar (O A) 1)) (mNil (O A)))))))))))
def m_contiguous (A : Ad) : List D → Dr → R Dr D := runF (O A) 4 (mb_contiguous A)
/-! law_held -/
def lc_law_held_0 (A : Ad) : MA (O A) :=
  (mLc (O A) (mItA (O A) dZip (mCons (O A) (mFld (O A) A.v "shape" (mVar (O A) 0)) (mCons (O A) (mFld (O A) A.v "strides" (mVar (O A) 0)) (mNil (O A))))) (fTup 2 (fCons (fName 4) (fCons (fName 5) fNil))) (mTest (O A) (mBin (O A) dEq (mVar (O A) 4) (mC (O A) (.int 1)))) (mBin (O A) dNe (mVar (O A) 5) (mC (O A) (.int 0))) [4, 5])
def mb_law_held (A : Ad) : MS (O A) :=
  (mSeq (O A) (mAsg (O A) (mCl (O A) dTup (mCons (O A) (mFld (O A) A.v "offset" (mVar (O A) 0)) (mCons (O A) (mFld (O A) A.v "shape" (mVar (O A) 0)) (mCons (O A) (mFld (O A) A.v "strides" (mVar (O A) 0)) (mNil (O A)))))) (fName 3))
  (mSeq (O A) (mIfS (O A) (mOr (O A) (mNot (O A) (mTruth (O A) (mCall (O A) 2 (m_law_same A) (mCons (O A) (mFld (O A) A.v "shape" (mVar (O A) 0)) (mCons (O A) (mCl (O A) dTupOf (mCons (O A) (mVar (O A) 1) (mNil (O A)))) (mNil (O A))))))) (mTest (O A) (mBin (O A) dNe (mCl (O A) dLen (mCons (O A) (mFld (O A) A.v "strides" (mVar (O A) 0)) (mNil (O A)))) (mCl (O A) dLen (mCons (O A) (mFld (O A) A.v "shape" (mVar (O A) 0)) (mNil (O A)))))))
  (mRet (O A) (mC (O A) (.bl false)))
  (mNext (O A)))
  (mSeq (O A) (mIfS (O A) (mTruth (O A) (mCl (O A) dAny (mCons (O A) (mLst (O A) (lc_law_held_0 A)) (mNil (O A)))))
  (mRet (O A) (mC (O A) (.bl false)))
  (mNext (O A)))
  (mRet (O A) (mAndV (O A) (mCl (O A) dIsI (mCons (O A) (mFld (O A) A.v "strides" (mVar (O A) 0)) (mCons (O A) (mC (O A) (.ty "tuple")) (mNil (O A))))) (mBin (O A) dEq (mCall (O A) 1 (m_law_cells A) (mCons (O A) (mVar (O A) 3) (mNil (O A)))) (mVar (O A) 2)))))))
def m_law_held (A : Ad) : List D → Dr → R Dr D := runF (O A) 6 (mb_law_held A)
/-! axes_of -/
def mb_axes_of (A : Ad) : MS (O A) :=
  (mRet (O A) (mLst (O A) (mZipL (O A) (mCons (O A) (mFld (O A) A.v "shape" (mVar (O A) 0)) (mCons (O A) (mFld (O A) A.v "strides" (mVar (O A) 0)) (mNil (O A)))))))
def m_axes_of (A : Ad) : List D → Dr → R Dr D := runF (O A) 1 (mb_axes_of A)
/-! view_with -/
def lc_view_with_0 (A : Ad) : MA (O A) :=
  (mLc (O A) (mItS (O A) (mVar (O A) 1)) (fTup 2 (fCons (fName 2) (fCons (fName 3) fNil))) (mYes (O A)) (mVar (O A) 3) [2, 3])
def lc_view_with_1 (A : Ad) : MA (O A) :=
  (mLc (O A) (mItS (O A) (mVar (O A) 1)) (fTup 2 (fCons (fName 2) (fCons (fName 3) fNil))) (mYes (O A)) (mVar (O A) 2) [2, 3])
def mb_view_with (A : Ad) : MS (O A) :=
  (mRet (O A) (mMake (O A) A.v 3 (m_View_init A) (mCons (O A) (mVar (O A) 0) (mCons (O A) (mLst (O A) (lc_view_with_1 A)) (mCons (O A) (mLst (O A) (lc_view_with_0 A)) (mNil (O A)))))))
def m_view_with (A : Ad) : List D → Dr → R Dr D := runF (O A) 4 (mb_view_with A)
/-! coalesce -/
def bd_coalesce_0 (A : Ad) : MS (O A) :=
  (mIfS (O A) (mAnd (O A) (mTest (O A) (mBin (O A) dGt (mVar (O A) 2) (mC (O A) (.int 1)))) (mAnd (O A) (mTruthO (O A) 1) (mTest (O A) (mBin (O A) dEq (mBin (O A) dIdx (mIdxO (O A) 1 (mUn (O A) dNeg (mC (O A) (.int 1)))) (mC (O A) (.int 1))) (mBin (O A) dMul (mVar (O A) 2) (mVar (O A) 3))))))
  (mSetI (O A) 1 (mUn (O A) dNeg (mC (O A) (.int 1))) (mCl (O A) dTup (mCons (O A) (mBin (O A) dMul (mBin (O A) dIdx (mIdxO (O A) 1 (mUn (O A) dNeg (mC (O A) (.int 1)))) (mC (O A) (.int 0))) (mVar (O A) 2)) (mCons (O A) (mVar (O A) 3) (mNil (O A))))))
  (mIfS (O A) (mTest (O A) (mBin (O A) dGt (mVar (O A) 2) (mC (O A) (.int 1))))
  (mAppend (O A) 1 (mCl (O A) dTup (mCons (O A) (mVar (O A) 2) (mCons (O A) (mVar (O A) 3) (mNil (O A))))))
  (mNext (O A))))
def mb_coalesce (A : Ad) : MS (O A) :=
  (mSeq (O A) (mOwn (O A) 1 (mDisp (O A) (mNil (O A))))
  (mSeq (O A) (mFor (O A) (mItS (O A) (mCall (O A) 1 (m_axes_of A) (mCons (O A) (mVar (O A) 0) (mNil (O A))))) (fTup 2 (fCons (fName 2) (fCons (fName 3) fNil)))
  (bd_coalesce_0 A))
  (mFrz (O A) 1 (mRet (O A) (mCall (O A) 2 (m_view_with A) (mCons (O A) (mFld (O A) A.v "offset" (mVar (O A) 0)) (mCons (O A) (mVar (O A) 1) (mNil (O A)))))))))
def m_coalesce (A : Ad) : List D → Dr → R Dr D := runF (O A) 4 (mb_coalesce A)
/-! run_of -/
def mb_run_of (A : Ad) : MS (O A) :=
  (mSeq (O A) (mAsg (O A) (mCall (O A) 1 (m_coalesce A) (mCons (O A) (mVar (O A) 0) (mNil (O A)))) (fName 1))
  (mSeq (O A) (mIfS (O A) (mTest (O A) (mBin (O A) dGt (mCl (O A) dLen (mCons (O A) (mFld (O A) A.v "shape" (mVar (O A) 1)) (mNil (O A)))) (mC (O A) (.int 1))))
  (mRet (O A) (mC (O A) .non))
  (mNext (O A)))
  (mSeq (O A) (mAsg (O A) (mBin (O A) dIdx (mBin (O A) dAdd (mCall (O A) 1 (m_axes_of A) (mCons (O A) (mVar (O A) 1) (mNil (O A)))) (mCl (O A) dList (mCons (O A) (mCl (O A) dTup (mCons (O A) (mC (O A) (.int 1)) (mCons (O A) (mC (O A) (.int 0)) (mNil (O A))))) (mNil (O A))))) (mC (O A) (.int 0))) (fTup 2 (fCons (fName 2) (fCons (fName 3) fNil))))
  (mRet (O A) (mCl (O A) dTup (mCons (O A) (mFld (O A) A.v "offset" (mVar (O A) 1)) (mCons (O A) (mVar (O A) 3) (mCons (O A) (mVar (O A) 2) (mNil (O A))))))))))
def m_run_of (A : Ad) : List D → Dr → R Dr D := runF (O A) 4 (mb_run_of A)
end S

namespace S
open PySem PySem.Spec PyProof.Rows L2 RZ Mr
/-! ### plain loops, further -/
theorem lc2L_map {O : Wo} {f f1 : D → Ev → Option Ev} {mt mt1 : MT O} {mi1 : MI O} {me : ME O} {vs1 : List Nat} {ρ : Ev} {s : O.S} (h : D → List D) (g : D → D → D) : ∀ (ds acc : List D),
    (∀ d ∈ ds, ∃ ρ1, f d ρ = some ρ1 ∧ mt ρ1 s = .ok true s ∧ mi1 ρ1 s = .ok (h d) s ∧ ∀ e ∈ h d, ∃ ρ2, f1 e (wipeE ρ1 vs1) = some ρ2 ∧ mt1 ρ2 s = .ok true s ∧ me ρ2 s = .ok (g d e) s) →
    acc.length + (ds.flatMap fun d => (h d).map (g d)).length ≤ 100000 → lc2L O.S f mt mi1 f1 mt1 me vs1 ρ ds acc s = .ok (acc ++ ds.flatMap fun d => (h d).map (g d)) s
  | [], acc, _, _ => by simp [lc2L]
  | d :: ds, acc, hh, hl => by
    rw [List.flatMap_cons, List.length_append, List.length_map] at hl
    obtain ⟨ρ1, e1, e2, e3, e4⟩ := hh d List.mem_cons_self
    have e5 := lcL_map (O := O) (f := f1) (mt := mt1) (me := me) (ρ := wipeE ρ1 vs1) (s := s) (g d) (h d) acc e4 (by omega)
    have e6 := lc2L_map (O := O) (f := f) (f1 := f1) (mt := mt) (mt1 := mt1) (mi1 := mi1) (me := me) (vs1 := vs1) (ρ := ρ) (s := s) h g ds (acc ++ (h d).map (g d)) (fun x hx => hh x (List.mem_cons_of_mem _ hx)) (by rw [List.length_append, List.length_map]; omega)
    simp only [lc2L, e1, e2, e3, e5, e6, List.flatMap_cons, List.append_assoc]
theorem forL_step {S : Type} {f : D → Ev → Option Ev} {mb : Ev → S → RS S} {d : D} {ds : List D} {ρ ρ1 ρ2 : Ev} {s s2 : S} (h1 : f d ρ = some ρ1) (h2 : mb ρ1 s = .nx ρ2 s2) : forL S f mb (d :: ds) ρ s = forL S f mb ds ρ2 s2 := by
  simp only [forL, h1, h2]
/-- a loop that ends at the first item of a kind -/
theorem forL_find {O : Wo} {f : D → Ev → Option Ev} {mb : MS O} {s : O.S} (p : D → Bool) (g : D → D) (I : Ev → Prop) : ∀ (ds : List D) (ρ : Ev), I ρ →
    (∀ d ∈ ds, ∀ ρ, I ρ → ∃ ρ1, f d ρ = some ρ1 ∧ (p d = false → ∃ ρ2, mb ρ1 s = .nx ρ2 s ∧ I ρ2) ∧ (p d = true → mb ρ1 s = .rt (g d) s)) →
    match ds.find? p with
    | none => ∃ ρ2, forL O.S f mb ds ρ s = .nx ρ2 s ∧ I ρ2
    | some d => forL O.S f mb ds ρ s = .rt (g d) s
  | [], ρ, hi, _ => ⟨ρ, rfl, hi⟩
  | d :: ds, ρ, hi, h => by
    obtain ⟨ρ1, e1, e2, e3⟩ := h d List.mem_cons_self ρ hi
    rw [List.find?_cons]
    cases hp : p d with
    | true =>
      simp only [forL, e1, e3 hp]
    | false =>
      obtain ⟨ρ2, e4, hi2⟩ := e2 hp
      have := forL_find (O := O) (f := f) (mb := mb) (s := s) p g I ds ρ2 hi2 (fun x hx => h x (List.mem_cons_of_mem _ hx))
      dsimp only
      split at this
      · obtain ⟨ρ3, e5, hi3⟩ := this
        rename_i en
        rw [en]
        exact ⟨ρ3, by simp only [forL, e1, e4, e5], hi3⟩
      · rename_i d' en
        rw [en]
        simp only [forL, e1, e4, this]
/-! ### iD as data -/
abbrev iD (xs : List Int) : List D := xs.map D.int
theorem rangeD_eq (n : Nat) : rangeD 0 n = iD ((List.range n).map fun (k : Nat) => (k : Int)) := by
  unfold rangeD iD
  rw [List.map_map]
  refine List.map_congr_left fun k _ => ?_
  simp
def rng (l : Int) : List Int := (List.range l.toNat).map fun (k : Nat) => (k : Int)
theorem rng_len (l : Int) : (rng l).length = l.toNat := by simp [rng]
theorem mem_rng {l k : Int} (h : k ∈ rng l) : 0 ≤ k ∧ k < l := by
  unfold rng at h
  rw [List.mem_map] at h
  obtain ⟨n, hn, rfl⟩ := h
  have := List.mem_range.mp hn
  omega
/-! ### axes -/
abbrev Ax := List (Int × Int)
def shp (ax : Ax) : List Int := ax.map Prod.fst
def strd (ax : Ax) : List Int := ax.map Prod.snd
def prodL : List Int → Int
  | [] => 1
  | x :: xs => x * prodL xs
def isSq (d : D) (xs : List Int) : Prop := d = .lst (iD xs) ∨ d = .tup (iD xs)
theorem isSq.as {d : D} {xs : List Int} (h : isSq d xs) : asSeq d = some (iD xs) := by rcases h with rfl | rfl <;> rfl
theorem isSq.len {d : D} {xs : List Int} (h : isSq d xs) : dLen [d] = some (.int xs.length) := by rcases h with rfl | rfl <;> simp [dLen]
/-- two sequences of one kind -/
def sq2 (d e : D) (xs ys : List Int) : Prop := isSq d xs ∧ isSq e ys
def axD (ax : Ax) : List D := ax.map fun a => D.tup [.int a.1, .int a.2]
theorem sq2.zip {d e : D} {ax : Ax} (h : sq2 d e (shp ax) (strd ax)) : dZip [d, e] = some (axD ax) := by
  have key : zipD (iD (shp ax)) (iD (strd ax)) = axD ax := by
    clear h
    unfold zipD iD shp strd axD
    induction ax with
    | nil => rfl
    | cons a ax ih =>
      simp only [List.map_cons, List.zip_cons_cons] at ih ⊢
      rw [ih]
  obtain ⟨h1, h2⟩ := h
  rcases h1 with rfl | rfl <;> rcases h2 with rfl | rfl <;> simp only [dZip, key]
/-! ### cells -/
def cellsF : Ax → List Int → List Int
  | [], cs => cs
  | a :: ax, cs => cellsF ax (cs.flatMap fun c => (rng a.1).map fun k => c + k * a.2)
def cellsL (o : Int) (ax : Ax) : List Int := cellsF ax [o]
theorem flat_len {α β : Type} (cs : List α) (f : α → List β) (n : Nat) (h : ∀ c ∈ cs, (f c).length = n) : (cs.flatMap f).length = cs.length * n := by
  induction cs with
  | nil => simp
  | cons c cs ih =>
    rw [List.flatMap_cons, List.length_append, h c List.mem_cons_self, ih fun x hx => h x (List.mem_cons_of_mem _ hx), List.length_cons, Nat.add_mul]
    omega
/-- bounds of what is computed with -/
structure Bd (ax : Ax) : Prop where
  pos : ∀ a ∈ ax, 1 ≤ a.1
  str : ∀ a ∈ ax, -(10 ^ 60) < a.2 ∧ a.2 < 10 ^ 60
theorem Bd.tail {a : Int × Int} {ax : Ax} (h : Bd (a :: ax)) : Bd ax := ⟨fun b hb => h.pos b (List.mem_cons_of_mem _ hb), fun b hb => h.str b (List.mem_cons_of_mem _ hb)⟩
theorem prod_pos {xs : List Int} (h : ∀ x ∈ xs, 1 ≤ x) : 1 ≤ prodL xs := by
  induction xs with
  | nil => simp [prodL]
  | cons x xs ih =>
    have h1 := h x List.mem_cons_self
    have h2 := ih fun y hy => h y (List.mem_cons_of_mem _ hy)
    have := Int.mul_le_mul h1 h2 (by decide) (by omega)
    simpa [prodL] using this
theorem Bd.shp {ax : Ax} (h : Bd ax) : ∀ x ∈ shp ax, 1 ≤ x := by
  intro x hx
  unfold S.shp at hx
  rw [List.mem_map] at hx
  obtain ⟨a, ha, rfl⟩ := hx
  exact h.pos a ha
theorem mul_bd {k st : Int} (k0 : 0 ≤ k) (k1 : k < 100) (h0 : -(10 ^ 60) < st) (h1 : st < 10 ^ 60) : -(10 ^ 62) < k * st ∧ k * st < 10 ^ 62 := by
  have e60 : (10 : Int) ^ 60 = ((10 ^ 60 : Nat) : Int) := by decide +kernel
  have e62 : (10 : Int) ^ 62 = ((100 * 10 ^ 60 : Nat) : Int) := by decide +kernel
  have a1 : st.natAbs ≤ 10 ^ 60 := by rw [e60] at h0 h1; omega
  have c1 : (k * st).natAbs < 100 * 10 ^ 60 := by
    rw [Int.natAbs_mul]
    exact Nat.lt_of_le_of_lt (Nat.mul_le_mul_left _ a1) (Nat.mul_lt_mul_of_pos_right (by omega) (by decide +kernel))
  rw [e62]
  omega

theorem f2_ok (i j : Nat) (a b : D) (ρ : Ev) : fTup 2 (fCons (fName i) (fCons (fName j) fNil)) (.tup [a, b]) ρ = some ((ρ.set i (.sh a)).set j (.sh b)) := rfl
theorem f3_ok (i j k : Nat) (a b c : D) (ρ : Ev) : fTup 3 (fCons (fName i) (fCons (fName j) (fCons (fName k) fNil))) (.tup [a, b, c]) ρ = some (((ρ.set i (.sh a)).set j (.sh b)).set k (.sh c)) := rfl
theorem rng1_ok {A : Ad} {ma : MA (O A)} {ρ : Ev} {s s' : Dr} {l : Int} (h : ma ρ s = .ok [.int l] s') (h0 : -100000 ≤ l) (h1 : l ≤ 100000) : mRng1 (O A) ma ρ s = .ok (iD (rng l)) s' := by
  unfold mRng1
  rw [h]
  simp only [bind_ok]
  rw [if_pos ⟨h1, h0⟩, rangeD_eq]
  rfl
/-- the lengths stay within the limits -/
theorem cells_step_len (cs : List Int) (a : Int × Int) : (cs.flatMap fun c => (rng a.1).map fun k => c + k * a.2).length = cs.length * a.1.toNat := flat_len _ _ _ fun c _ => by rw [List.length_map, rng_len]
theorem step_bd {cs : List Int} {a : Int × Int} {j : Int} (h1 : a.1 ≤ 64) (h2 : -(10 ^ 60) < a.2 ∧ a.2 < 10 ^ 60) (hc : ∀ c ∈ cs, -(10 ^ 62 * j) < c ∧ c < 10 ^ 62 * j) : ∀ c ∈ cs.flatMap fun c => (rng a.1).map fun k => c + k * a.2, -(10 ^ 62 * (j + 1)) < c ∧ c < 10 ^ 62 * (j + 1) := by
  intro c hc'
  rw [List.mem_flatMap] at hc'
  obtain ⟨c0, h0, h3⟩ := hc'
  rw [List.mem_map] at h3
  obtain ⟨k, hk, rfl⟩ := h3
  have := mem_rng hk
  have m := mul_bd this.1 (show k < 100 by omega) h2.1 h2.2
  have := hc c0 h0
  omega
theorem lc_cells (A : Ad) {x0 x1 x2 x6 x7 : Sl} {s : Dr} {cs : List Int} {a : Int × Int} {j : Int} (hj : j ≤ 1000) (h0 : 1 ≤ a.1) (h1 : a.1 ≤ 64) (h2 : -(10 ^ 60) < a.2 ∧ a.2 < 10 ^ 60) (hc : ∀ c ∈ cs, -(10 ^ 62 * j) < c ∧ c < 10 ^ 62 * j) (hl : cs.length * a.1.toNat ≤ 64) :
    lc_cells_of_0 A [x0, x1, x2, .sh (.lst (iD cs)), .sh (.int a.1), .sh (.int a.2), x6, x7] s = .ok (iD (cs.flatMap fun c => (rng a.1).map fun k => c + k * a.2)) s := by
  simp only [lc_cells_of_0, mLc2, wipeE, runF, mSeq, seqS, mAsg, mBin, mUn, mVar, mC, mRet, mNext, mIfS, mTest, mTruth, mAnd, mOr, mNot, mAndV, mOrV, mNotV, mCl, mCons, mNil, mCall, mDrop, mDrI, mDrNe, mDrIx, mDrLen, mDrSet, mDrPop, drL, isDr0, toS, fName, R.lift, bind_ok, bind_err, bind_bad, eAdd, eSub, eMul, eDiv, eMod, ePow, eNeg, eLt, eLe, eGt, eGe, eEqI, eNeI, eEqS, eEqB, eNeB, eIdxL, eIdxT, eBool, eAbs, Bool.false_eq_true, dList, dTup, if_true, if_false, if_pos, List.map_cons, List.map_nil, List.length_cons, List.length_nil, List.replicate, List.cons_append, List.nil_append, List.getElem?_cons_zero, List.getElem?_cons_succ, List.set_cons_zero, List.set_cons_succ, Nat.reduceAdd, Nat.reduceSub, Nat.reduceLeDiff, Nat.reduceLT, Nat.reduceMul, Int.reduceToNat, Int.reduceEq, Int.reduceAdd, Int.reduceSub, Int.reduceNeg, Bool.not_true, Bool.not_false, decide_true, decide_false, reduceIte, Nat.reduceEqDiff, ite_true, ite_false, mIf, mLst, mSlice, mPart, mNoPart, mItS, mItL, mItT, asSeq, asList, asTup, mFor, mPar, mPass, mBrk, mCnt, mRetN]
  have key := lc2L_map (O := O A) (f := fName 6) (f1 := fName 7) (mt := mYes (O A)) (mt1 := mYes (O A)) (mi1 := mRng1 (O A) (mCons (O A) (mVar (O A) 4) (mNil (O A)))) (me := mBin (O A) dAdd (mVar (O A) 6) (mBin (O A) dMul (mVar (O A) 7) (mVar (O A) 5))) (vs1 := [7]) (ρ := [x0, x1, x2, .sh (.lst (iD cs)), .sh (.int a.1), .sh (.int a.2), .no, .no]) (s := s)
    (fun _ => iD (rng a.1)) (fun d e => match d, e with | .int c, .int k => .int (c + k * a.2) | _, _ => .non) (iD cs) []
    (by
      intro d hd
      rw [List.mem_map] at hd
      obtain ⟨c, hcm, rfl⟩ := hd
      refine ⟨_, rfl, rfl, rng1_ok (by simp only [runF, mSeq, seqS, mAsg, mBin, mUn, mVar, mC, mRet, mNext, mIfS, mTest, mTruth, mAnd, mOr, mNot, mAndV, mOrV, mNotV, mCl, mCons, mNil, mCall, mDrop, mDrI, mDrNe, mDrIx, mDrLen, mDrSet, mDrPop, drL, isDr0, toS, fName, R.lift, bind_ok, bind_err, bind_bad, eAdd, eSub, eMul, eDiv, eMod, ePow, eNeg, eLt, eLe, eGt, eGe, eEqI, eNeI, eEqS, eEqB, eNeB, eIdxL, eIdxT, eBool, eAbs, Bool.false_eq_true, dList, dTup, if_true, if_false, if_pos, List.map_cons, List.map_nil, List.length_cons, List.length_nil, List.replicate, List.cons_append, List.nil_append, List.getElem?_cons_zero, List.getElem?_cons_succ, List.set_cons_zero, List.set_cons_succ, Nat.reduceAdd, Nat.reduceSub, Nat.reduceLeDiff, Nat.reduceLT, Nat.reduceMul, Int.reduceToNat, Int.reduceEq, Int.reduceAdd, Int.reduceSub, Int.reduceNeg, Bool.not_true, Bool.not_false, decide_true, decide_false, reduceIte, Nat.reduceEqDiff, ite_true, ite_false, mIf, mLst, mSlice, mPart, mNoPart, mItS, mItL, mItT, asSeq, asList, asTup, mFor, mPar, mPass, mBrk, mCnt, mRetN]) (by omega) (by omega), fun e he => ?_⟩
      rw [List.mem_map] at he
      obtain ⟨k, hk, rfl⟩ := he
      have hk := mem_rng hk
      have m := mul_bd hk.1 (show k < 100 by omega) h2.1 h2.2
      have c1 : CMulG k a.2 := mulG (by omega) (by omega) (by omega) (by omega)
      refine ⟨_, rfl, rfl, ?_⟩
      simp only [wipeE, runF, mSeq, seqS, mAsg, mBin, mUn, mVar, mC, mRet, mNext, mIfS, mTest, mTruth, mAnd, mOr, mNot, mAndV, mOrV, mNotV, mCl, mCons, mNil, mCall, mDrop, mDrI, mDrNe, mDrIx, mDrLen, mDrSet, mDrPop, drL, isDr0, toS, fName, R.lift, bind_ok, bind_err, bind_bad, eAdd, eSub, eMul, eDiv, eMod, ePow, eNeg, eLt, eLe, eGt, eGe, eEqI, eNeI, eEqS, eEqB, eNeB, eIdxL, eIdxT, eBool, eAbs, Bool.false_eq_true, dList, dTup, if_true, if_false, if_pos, List.map_cons, List.map_nil, List.length_cons, List.length_nil, List.replicate, List.cons_append, List.nil_append, List.getElem?_cons_zero, List.getElem?_cons_succ, List.set_cons_zero, List.set_cons_succ, Nat.reduceAdd, Nat.reduceSub, Nat.reduceLeDiff, Nat.reduceLT, Nat.reduceMul, Int.reduceToNat, Int.reduceEq, Int.reduceAdd, Int.reduceSub, Int.reduceNeg, Bool.not_true, Bool.not_false, decide_true, decide_false, reduceIte, Nat.reduceEqDiff, ite_true, ite_false, mIf, mLst, mSlice, mPart, mNoPart, mItS, mItL, mItT, asSeq, asList, asTup, mFor, mPar, mPass, mBrk, mCnt, mRetN, c1])
    (by
      rw [flat_len _ _ a.1.toNat (fun d _ => by simp [rng_len])]
      simp
      omega)
  rw [key]
  congr 1
  rw [List.nil_append]
  unfold iD
  rw [List.map_flatMap, List.flatMap_map]
  refine congrArg (fun f => cs.flatMap f) ?_
  funext c
  simp only [List.map_map]
  rfl
theorem cells_loop (A : Ad) {x0 x1 x2 : Sl} {s : Dr} : ∀ (ax : Ax) (cs : List Int) (j : Int) (x4 x5 x6 x7 : Sl), Bd ax → 0 ≤ j → j + ax.length ≤ 1000 → (∀ c ∈ cs, -(10 ^ 62 * j) < c ∧ c < 10 ^ 62 * j) → (cs.length : Int) * prodL (shp ax) ≤ 64 → 0 < cs.length →
    ∃ y4 y5 y6 y7, forL (O A).S (fTup 2 (fCons (fName 4) (fCons (fName 5) fNil))) (bd_cells_of_1 A) (axD ax) [x0, x1, x2, .sh (.lst (iD cs)), x4, x5, x6, x7] s = .nx [x0, x1, x2, .sh (.lst (iD (cellsF ax cs))), y4, y5, y6, y7] s
  | [], cs, j, x4, x5, x6, x7, _, _, _, _, _, _ => ⟨x4, x5, x6, x7, rfl⟩
  | a :: ax, cs, j, x4, x5, x6, x7, hb, j0, hj, hc, hp, h0 => by
    have p1 := prod_pos hb.tail.shp
    have a1 := hb.pos a List.mem_cons_self
    have a2 := hb.str a List.mem_cons_self
    have e1 : prodL (shp (a :: ax)) = a.1 * prodL (shp ax) := rfl
    rw [e1, ← Int.mul_assoc] at hp
    have hcs : (1 : Int) ≤ cs.length := by omega
    have hca : (cs.length : Int) * a.1 ≤ 64 := by
      have h1 : (0 : Int) ≤ (cs.length : Int) * a.1 := Int.mul_nonneg (by omega) (by omega)
      have := Int.mul_le_mul_of_nonneg_left p1 h1
      omega
    have ha64 : a.1 ≤ 64 := by
      have := Int.mul_le_mul_of_nonneg_right hcs (show (0 : Int) ≤ a.1 by omega)
      omega
    have hln : cs.length * a.1.toNat ≤ 64 := by
      have : ((cs.length * a.1.toNat : Nat) : Int) = (cs.length : Int) * a.1 := by
        rw [Int.natCast_mul, Int.toNat_of_nonneg (by omega)]
      omega
    have hlen := cells_step_len cs a
    rw [List.length_cons] at hj
    obtain ⟨y4, y5, y6, y7, e⟩ := cells_loop A (x0 := x0) (x1 := x1) (x2 := x2) (s := s) ax (cs.flatMap fun c => (rng a.1).map fun k => c + k * a.2) (j + 1) (.sh (.int a.1)) (.sh (.int a.2)) x6 x7 hb.tail (by omega) (by omega) (step_bd ha64 a2 hc)
      (by
        rw [hlen, Int.natCast_mul, Int.toNat_of_nonneg (by omega)]
        exact hp) (by rw [hlen]; exact Nat.mul_pos h0 (by omega))
    refine ⟨y4, y5, y6, y7, ?_⟩
    have lc := lc_cells A (x0 := x0) (x1 := x1) (x2 := x2) (x6 := x6) (x7 := x7) (s := s) (cs := cs) (a := a) (j := j) (by omega) a1 ha64 a2 hc hln
    show forL (O A).S _ _ (D.tup [.int a.1, .int a.2] :: axD ax) _ s = _
    rw [forL_step (f2_ok _ _ _ _ _) (by simp only [bd_cells_of_1, runF, mSeq, seqS, mAsg, mBin, mUn, mVar, mC, mRet, mNext, mIfS, mTest, mTruth, mAnd, mOr, mNot, mAndV, mOrV, mNotV, mCl, mCons, mNil, mCall, mDrop, mDrI, mDrNe, mDrIx, mDrLen, mDrSet, mDrPop, drL, isDr0, toS, fName, R.lift, bind_ok, bind_err, bind_bad, eAdd, eSub, eMul, eDiv, eMod, ePow, eNeg, eLt, eLe, eGt, eGe, eEqI, eNeI, eEqS, eEqB, eNeB, eIdxL, eIdxT, eBool, eAbs, Bool.false_eq_true, dList, dTup, if_true, if_false, if_pos, List.map_cons, List.map_nil, List.length_cons, List.length_nil, List.replicate, List.cons_append, List.nil_append, List.getElem?_cons_zero, List.getElem?_cons_succ, List.set_cons_zero, List.set_cons_succ, Nat.reduceAdd, Nat.reduceSub, Nat.reduceLeDiff, Nat.reduceLT, Nat.reduceMul, Int.reduceToNat, Int.reduceEq, Int.reduceAdd, Int.reduceSub, Int.reduceNeg, Bool.not_true, Bool.not_false, decide_true, decide_false, reduceIte, Nat.reduceEqDiff, ite_true, ite_false, mIf, mLst, mSlice, mPart, mNoPart, mItS, mItL, mItT, asSeq, asList, asTup, mFor, mPar, mPass, mBrk, mCnt, mRetN, lc]; rfl), e]
    rfl
theorem cells_of_ok (A : Ad) {s : Dr} {o : Int} {ax : Ax} {d e : D} (hd : sq2 d e (shp ax) (strd ax)) (hb : Bd ax) (hp : prodL (shp ax) ≤ 64) (hl : ax.length ≤ 100) (h0 : -(10 ^ 61) < o) (h1 : o < 10 ^ 61) :
    m_cells_of A [.int o, d, e] s = .ok (.lst (iD (cellsL o ax))) s := by
  obtain ⟨y4, y5, y6, y7, e1⟩ := cells_loop A (x0 := .sh (.int o)) (x1 := .sh d) (x2 := .sh e) (s := s) ax [o] 1 .no .no .no .no hb (by decide) (by omega) (by intro c hc; rw [List.mem_singleton] at hc; subst hc; omega) (by simpa using hp) (by simp)
  simp only [iD, List.map_cons, List.map_nil] at e1
  simp only [m_cells_of, mb_cells_of, mItA, runF, mSeq, seqS, mAsg, mBin, mUn, mVar, mC, mRet, mNext, mIfS, mTest, mTruth, mAnd, mOr, mNot, mAndV, mOrV, mNotV, mCl, mCons, mNil, mCall, mDrop, mDrI, mDrNe, mDrIx, mDrLen, mDrSet, mDrPop, drL, isDr0, toS, fName, R.lift, bind_ok, bind_err, bind_bad, eAdd, eSub, eMul, eDiv, eMod, ePow, eNeg, eLt, eLe, eGt, eGe, eEqI, eNeI, eEqS, eEqB, eNeB, eIdxL, eIdxT, eBool, eAbs, Bool.false_eq_true, dList, dTup, if_true, if_false, if_pos, List.map_cons, List.map_nil, List.length_cons, List.length_nil, List.replicate, List.cons_append, List.nil_append, List.getElem?_cons_zero, List.getElem?_cons_succ, List.set_cons_zero, List.set_cons_succ, Nat.reduceAdd, Nat.reduceSub, Nat.reduceLeDiff, Nat.reduceLT, Nat.reduceMul, Int.reduceToNat, Int.reduceEq, Int.reduceAdd, Int.reduceSub, Int.reduceNeg, Bool.not_true, Bool.not_false, decide_true, decide_false, reduceIte, Nat.reduceEqDiff, ite_true, ite_false, mIf, mLst, mSlice, mPart, mNoPart, mItS, mItL, mItT, asSeq, asList, asTup, mFor, mPar, mPass, mBrk, mCnt, mRetN, hd.zip, e1]
  rfl
/-! ### the law's own cells -/
theorem lc_lcells (A : Ad) {x0 x1 x2 x3 x4 x7 x9 : Sl} {s : Dr} {c : Int} {a : Int × Int} {j : Int} (hj : j ≤ 1000) (h0 : 1 ≤ a.1) (h1 : a.1 ≤ 64) (h2 : -(10 ^ 60) < a.2 ∧ a.2 < 10 ^ 60) (hc : -(10 ^ 62 * j) < c ∧ c < 10 ^ 62 * j) :
    lc_law_cells_0 A [x0, x1, x2, x3, x4, .sh (.int a.1), .sh (.int a.2), x7, .sh (.int c), x9] s = .ok (iD ((rng a.1).map fun k => c + k * a.2)) s := by
  have e1 := rng1_ok (A := A) (ma := mCons (O A) (mVar (O A) 5) (mNil (O A))) (ρ := [x0, x1, x2, x3, x4, .sh (.int a.1), .sh (.int a.2), x7, .sh (.int c), x9]) (s := s) (s' := s) (l := a.1) (by simp only [runF, mSeq, seqS, mAsg, mBin, mUn, mVar, mC, mRet, mNext, mIfS, mTest, mTruth, mAnd, mOr, mNot, mAndV, mOrV, mNotV, mCl, mCons, mNil, mCall, mDrop, mDrI, mDrNe, mDrIx, mDrLen, mDrSet, mDrPop, drL, isDr0, toS, fName, R.lift, bind_ok, bind_err, bind_bad, eAdd, eSub, eMul, eDiv, eMod, ePow, eNeg, eLt, eLe, eGt, eGe, eEqI, eNeI, eEqS, eEqB, eNeB, eIdxL, eIdxT, eBool, eAbs, Bool.false_eq_true, dList, dTup, if_true, if_false, if_pos, List.map_cons, List.map_nil, List.length_cons, List.length_nil, List.replicate, List.cons_append, List.nil_append, List.getElem?_cons_zero, List.getElem?_cons_succ, List.set_cons_zero, List.set_cons_succ, Nat.reduceAdd, Nat.reduceSub, Nat.reduceLeDiff, Nat.reduceLT, Nat.reduceMul, Int.reduceToNat, Int.reduceEq, Int.reduceAdd, Int.reduceSub, Int.reduceNeg, Bool.not_true, Bool.not_false, decide_true, decide_false, reduceIte, Nat.reduceEqDiff, ite_true, ite_false, mIf, mLst, mSlice, mPart, mNoPart, mItS, mItL, mItT, asSeq, asList, asTup, mFor, mPar, mPass, mBrk, mCnt, mRetN]) (by omega) (by omega)
  simp only [lc_law_cells_0, mLc, wipeE, e1, runF, mSeq, seqS, mAsg, mBin, mUn, mVar, mC, mRet, mNext, mIfS, mTest, mTruth, mAnd, mOr, mNot, mAndV, mOrV, mNotV, mCl, mCons, mNil, mCall, mDrop, mDrI, mDrNe, mDrIx, mDrLen, mDrSet, mDrPop, drL, isDr0, toS, fName, R.lift, bind_ok, bind_err, bind_bad, eAdd, eSub, eMul, eDiv, eMod, ePow, eNeg, eLt, eLe, eGt, eGe, eEqI, eNeI, eEqS, eEqB, eNeB, eIdxL, eIdxT, eBool, eAbs, Bool.false_eq_true, dList, dTup, if_true, if_false, if_pos, List.map_cons, List.map_nil, List.length_cons, List.length_nil, List.replicate, List.cons_append, List.nil_append, List.getElem?_cons_zero, List.getElem?_cons_succ, List.set_cons_zero, List.set_cons_succ, Nat.reduceAdd, Nat.reduceSub, Nat.reduceLeDiff, Nat.reduceLT, Nat.reduceMul, Int.reduceToNat, Int.reduceEq, Int.reduceAdd, Int.reduceSub, Int.reduceNeg, Bool.not_true, Bool.not_false, decide_true, decide_false, reduceIte, Nat.reduceEqDiff, ite_true, ite_false, mIf, mLst, mSlice, mPart, mNoPart, mItS, mItL, mItT, asSeq, asList, asTup, mFor, mPar, mPass, mBrk, mCnt, mRetN]
  rw [lcL_map (O := O A) (fun d => match d with | .int k => .int (c + k * a.2) | _ => .non) (iD (rng a.1)) []
    (by
      intro e he
      rw [List.mem_map] at he
      obtain ⟨k, hk, rfl⟩ := he
      have hk := mem_rng hk
      have m := mul_bd hk.1 (show k < 100 by omega) h2.1 h2.2
      have c1 : CMulG k a.2 := mulG (by omega) (by omega) (by omega) (by omega)
      refine ⟨_, rfl, rfl, ?_⟩
      simp only [runF, mSeq, seqS, mAsg, mBin, mUn, mVar, mC, mRet, mNext, mIfS, mTest, mTruth, mAnd, mOr, mNot, mAndV, mOrV, mNotV, mCl, mCons, mNil, mCall, mDrop, mDrI, mDrNe, mDrIx, mDrLen, mDrSet, mDrPop, drL, isDr0, toS, fName, R.lift, bind_ok, bind_err, bind_bad, eAdd, eSub, eMul, eDiv, eMod, ePow, eNeg, eLt, eLe, eGt, eGe, eEqI, eNeI, eEqS, eEqB, eNeB, eIdxL, eIdxT, eBool, eAbs, Bool.false_eq_true, dList, dTup, if_true, if_false, if_pos, List.map_cons, List.map_nil, List.length_cons, List.length_nil, List.replicate, List.cons_append, List.nil_append, List.getElem?_cons_zero, List.getElem?_cons_succ, List.set_cons_zero, List.set_cons_succ, Nat.reduceAdd, Nat.reduceSub, Nat.reduceLeDiff, Nat.reduceLT, Nat.reduceMul, Int.reduceToNat, Int.reduceEq, Int.reduceAdd, Int.reduceSub, Int.reduceNeg, Bool.not_true, Bool.not_false, decide_true, decide_false, reduceIte, Nat.reduceEqDiff, ite_true, ite_false, mIf, mLst, mSlice, mPart, mNoPart, mItS, mItL, mItT, asSeq, asList, asTup, mFor, mPar, mPass, mBrk, mCnt, mRetN, c1])
    (by simp [rng_len]; omega)]
  congr 1
  simp only [List.nil_append, iD, List.map_map]
  rfl
theorem lcells_in (A : Ad) {x0 x1 x2 x3 x4 : Sl} {s : Dr} {a : Int × Int} {j : Int} (hj : j ≤ 1000) (h0 : 1 ≤ a.1) (h1 : a.1 ≤ 64) (h2 : -(10 ^ 60) < a.2 ∧ a.2 < 10 ^ 60) : ∀ (cs acc : List Int) (x8 x9 : Sl), (∀ c ∈ cs, -(10 ^ 62 * j) < c ∧ c < 10 ^ 62 * j) → acc.length + cs.length * a.1.toNat ≤ 1000 →
    ∃ y8 y9, forL (O A).S (fName 8) (bd_law_cells_1 A) (iD cs) [x0, x1, x2, x3, x4, .sh (.int a.1), .sh (.int a.2), .own (iD acc), x8, x9] s = .nx [x0, x1, x2, x3, x4, .sh (.int a.1), .sh (.int a.2), .own (iD (acc ++ cs.flatMap fun c => (rng a.1).map fun k => c + k * a.2)), y8, y9] s
  | [], acc, x8, x9, _, _ => ⟨x8, x9, by simp [forL, iD]⟩
  | c :: cs, acc, x8, x9, hc, hl => by
    rw [List.length_cons, Nat.add_mul] at hl
    obtain ⟨y8, y9, e⟩ := lcells_in A (x0 := x0) (x1 := x1) (x2 := x2) (x3 := x3) (x4 := x4) (s := s) hj h0 h1 h2 cs (acc ++ (rng a.1).map fun k => c + k * a.2) (.sh (.int c)) x9 (fun x hx => hc x (List.mem_cons_of_mem _ hx)) (by rw [List.length_append, List.length_map, rng_len]; omega)
    have lc := lc_lcells A (x0 := x0) (x1 := x1) (x2 := x2) (x3 := x3) (x4 := x4) (x7 := .own (iD acc)) (x9 := x9) (s := s) hj h0 h1 h2 (hc c List.mem_cons_self)
    have hz : (iD acc).length + (iD ((rng a.1).map fun k => c + k * a.2)).length ≤ 100000 := by simp [rng_len]; omega
    refine ⟨y8, y9, ?_⟩
    show forL (O A).S _ _ (D.int c :: iD cs) _ s = _
    rw [forL_step rfl (by simp only [bd_law_cells_1, mExtend, runF, mSeq, seqS, mAsg, mBin, mUn, mVar, mC, mRet, mNext, mIfS, mTest, mTruth, mAnd, mOr, mNot, mAndV, mOrV, mNotV, mCl, mCons, mNil, mCall, mDrop, mDrI, mDrNe, mDrIx, mDrLen, mDrSet, mDrPop, drL, isDr0, toS, fName, R.lift, bind_ok, bind_err, bind_bad, eAdd, eSub, eMul, eDiv, eMod, ePow, eNeg, eLt, eLe, eGt, eGe, eEqI, eNeI, eEqS, eEqB, eNeB, eIdxL, eIdxT, eBool, eAbs, Bool.false_eq_true, dList, dTup, if_true, if_false, if_pos, List.map_cons, List.map_nil, List.length_cons, List.length_nil, List.replicate, List.cons_append, List.nil_append, List.getElem?_cons_zero, List.getElem?_cons_succ, List.set_cons_zero, List.set_cons_succ, Nat.reduceAdd, Nat.reduceSub, Nat.reduceLeDiff, Nat.reduceLT, Nat.reduceMul, Int.reduceToNat, Int.reduceEq, Int.reduceAdd, Int.reduceSub, Int.reduceNeg, Bool.not_true, Bool.not_false, decide_true, decide_false, reduceIte, Nat.reduceEqDiff, ite_true, ite_false, mIf, mLst, mSlice, mPart, mNoPart, mItS, mItL, mItT, asSeq, asList, asTup, mFor, mPar, mPass, mBrk, mCnt, mRetN, lc]; rw [if_pos hz]), ← List.map_append, e]
    simp
theorem lcells_loop (A : Ad) {x0 x1 x2 x3 : Sl} {s : Dr} : ∀ (ax : Ax) (cs : List Int) (j : Int) (x5 x6 x7 x8 x9 : Sl), Bd ax → 0 ≤ j → j + ax.length ≤ 1000 → (∀ c ∈ cs, -(10 ^ 62 * j) < c ∧ c < 10 ^ 62 * j) → (cs.length : Int) * prodL (shp ax) ≤ 64 → 0 < cs.length →
    ∃ y5 y6 y7 y8 y9, forL (O A).S (fTup 2 (fCons (fName 5) (fCons (fName 6) fNil))) (bd_law_cells_2 A) (axD ax) [x0, x1, x2, x3, .sh (.lst (iD cs)), x5, x6, x7, x8, x9] s = .nx [x0, x1, x2, x3, .sh (.lst (iD (cellsF ax cs))), y5, y6, y7, y8, y9] s
  | [], cs, j, x5, x6, x7, x8, x9, _, _, _, _, _, _ => ⟨x5, x6, x7, x8, x9, rfl⟩
  | a :: ax, cs, j, x5, x6, x7, x8, x9, hb, j0, hj, hc, hp, h0 => by
    have p1 := prod_pos hb.tail.shp
    have a1 := hb.pos a List.mem_cons_self
    have a2 := hb.str a List.mem_cons_self
    have e1 : prodL (shp (a :: ax)) = a.1 * prodL (shp ax) := rfl
    rw [e1, ← Int.mul_assoc] at hp
    have hcs : (1 : Int) ≤ cs.length := by omega
    have hca : (cs.length : Int) * a.1 ≤ 64 := by
      have h1 : (0 : Int) ≤ (cs.length : Int) * a.1 := Int.mul_nonneg (by omega) (by omega)
      have := Int.mul_le_mul_of_nonneg_left p1 h1
      omega
    have ha64 : a.1 ≤ 64 := by
      have := Int.mul_le_mul_of_nonneg_right hcs (show (0 : Int) ≤ a.1 by omega)
      omega
    have hln : cs.length * a.1.toNat ≤ 64 := by
      have : ((cs.length * a.1.toNat : Nat) : Int) = (cs.length : Int) * a.1 := by
        rw [Int.natCast_mul, Int.toNat_of_nonneg (by omega)]
      omega
    have hlen := cells_step_len cs a
    rw [List.length_cons] at hj
    obtain ⟨z8, z9, e2⟩ := lcells_in A (x0 := x0) (x1 := x1) (x2 := x2) (x3 := x3) (x4 := .sh (.lst (iD cs))) (s := s) (j := j) (by omega) a1 ha64 a2 cs [] x8 x9 hc (by simp; omega)
    rw [List.nil_append] at e2
    obtain ⟨y5, y6, y7, y8, y9, e⟩ := lcells_loop A (x0 := x0) (x1 := x1) (x2 := x2) (x3 := x3) (s := s) ax (cs.flatMap fun c => (rng a.1).map fun k => c + k * a.2) (j + 1) (.sh (.int a.1)) (.sh (.int a.2)) (.sh (.lst (iD (cs.flatMap fun c => (rng a.1).map fun k => c + k * a.2)))) z8 z9 hb.tail (by omega) (by omega) (step_bd ha64 a2 hc)
      (by
        rw [hlen, Int.natCast_mul, Int.toNat_of_nonneg (by omega)]
        exact hp) (by rw [hlen]; exact Nat.mul_pos h0 (by omega))
    refine ⟨y5, y6, y7, y8, y9, ?_⟩
    show forL (O A).S _ _ (D.tup [.int a.1, .int a.2] :: axD ax) _ s = _
    simp only [iD, List.map_nil] at e2
    rw [forL_step (f2_ok _ _ _ _ _) (by simp only [bd_law_cells_2, mOwn, mDisp, listMax, mFrz, frzE, iD, runF, mSeq, seqS, mAsg, mBin, mUn, mVar, mC, mRet, mNext, mIfS, mTest, mTruth, mAnd, mOr, mNot, mAndV, mOrV, mNotV, mCl, mCons, mNil, mCall, mDrop, mDrI, mDrNe, mDrIx, mDrLen, mDrSet, mDrPop, drL, isDr0, toS, fName, R.lift, bind_ok, bind_err, bind_bad, eAdd, eSub, eMul, eDiv, eMod, ePow, eNeg, eLt, eLe, eGt, eGe, eEqI, eNeI, eEqS, eEqB, eNeB, eIdxL, eIdxT, eBool, eAbs, Bool.false_eq_true, dList, dTup, if_true, if_false, if_pos, List.map_cons, List.map_nil, List.length_cons, List.length_nil, List.replicate, List.cons_append, List.nil_append, List.getElem?_cons_zero, List.getElem?_cons_succ, List.set_cons_zero, List.set_cons_succ, Nat.reduceAdd, Nat.reduceSub, Nat.reduceLeDiff, Nat.reduceLT, Nat.reduceMul, Int.reduceToNat, Int.reduceEq, Int.reduceAdd, Int.reduceSub, Int.reduceNeg, Bool.not_true, Bool.not_false, decide_true, decide_false, reduceIte, Nat.reduceEqDiff, ite_true, ite_false, mIf, mLst, mSlice, mPart, mNoPart, mItS, mItL, mItT, asSeq, asList, asTup, mFor, mPar, mPass, mBrk, mCnt, mRetN, e2]; rfl), e]
    rfl
/-- parts as data -/
def ptD (o : Int) (ax : Ax) : D := .tup [.int o, .tup (iD (shp ax)), .tup (iD (strd ax))]
theorem law_cells_ok (A : Ad) {s : Dr} {o : Int} {ax : Ax} (hb : Bd ax) (hp : prodL (shp ax) ≤ 64) (hl : ax.length ≤ 100) (h0 : -(10 ^ 61) < o) (h1 : o < 10 ^ 61) : m_law_cells A [ptD o ax] s = .ok (.lst (iD (cellsL o ax))) s := by
  obtain ⟨y5, y6, y7, y8, y9, e1⟩ := lcells_loop A (x0 := .sh (ptD o ax)) (x1 := .sh (.int o)) (x2 := .sh (.tup (iD (shp ax)))) (x3 := .sh (.tup (iD (strd ax)))) (s := s) ax [o] 1 .no .no .no .no .no hb (by decide) (by omega) (by intro c hc; rw [List.mem_singleton] at hc; subst hc; omega) (by simpa using hp) (by simp)
  simp only [ptD, iD, List.map_cons, List.map_nil] at e1
  have z := sq2.zip (d := .tup (iD (shp ax))) (e := .tup (iD (strd ax))) (ax := ax) ⟨.inr rfl, .inr rfl⟩
  simp only [iD] at z
  simp only [m_law_cells, mb_law_cells, mItA, ptD, f3_ok, iD, runF, mSeq, seqS, mAsg, mBin, mUn, mVar, mC, mRet, mNext, mIfS, mTest, mTruth, mAnd, mOr, mNot, mAndV, mOrV, mNotV, mCl, mCons, mNil, mCall, mDrop, mDrI, mDrNe, mDrIx, mDrLen, mDrSet, mDrPop, drL, isDr0, toS, fName, R.lift, bind_ok, bind_err, bind_bad, eAdd, eSub, eMul, eDiv, eMod, ePow, eNeg, eLt, eLe, eGt, eGe, eEqI, eNeI, eEqS, eEqB, eNeB, eIdxL, eIdxT, eBool, eAbs, Bool.false_eq_true, dList, dTup, if_true, if_false, if_pos, List.map_cons, List.map_nil, List.length_cons, List.length_nil, List.replicate, List.cons_append, List.nil_append, List.getElem?_cons_zero, List.getElem?_cons_succ, List.set_cons_zero, List.set_cons_succ, Nat.reduceAdd, Nat.reduceSub, Nat.reduceLeDiff, Nat.reduceLT, Nat.reduceMul, Int.reduceToNat, Int.reduceEq, Int.reduceAdd, Int.reduceSub, Int.reduceNeg, Bool.not_true, Bool.not_false, decide_true, decide_false, reduceIte, Nat.reduceEqDiff, ite_true, ite_false, mIf, mLst, mSlice, mPart, mNoPart, mItS, mItL, mItT, asSeq, asList, asTup, mFor, mPar, mPass, mBrk, mCnt, mRetN, z, e1]
  rfl
/-! ### indices -/
abbrev tD (i : List Int) : D := .tup (iD i)
def indsF : List Int → List (List Int) → List (List Int)
  | [], is => is
  | l :: sh, is => indsF sh (is.flatMap fun i => (rng l).map fun k => i ++ [k])
def indsL (sh : List Int) : List (List Int) := indsF sh [[]]
theorem inds_step_len (is : List (List Int)) (l : Int) : (is.flatMap fun i => (rng l).map fun k => i ++ [k]).length = is.length * l.toNat := flat_len _ _ _ fun c _ => by rw [List.length_map, rng_len]
theorem lc_linds (A : Ad) {x0 x1 x3 x5 : Sl} {s : Dr} {i : List Int} {l : Int} (h0 : 1 ≤ l) (h1 : l ≤ 64) (hi : i.length ≤ 1000) :
    lc_law_indices_0 A [x0, x1, .sh (.int l), x3, .sh (tD i), x5] s = .ok (((rng l).map fun k => i ++ [k]).map tD) s := by
  have e1 := rng1_ok (A := A) (ma := mCons (O A) (mVar (O A) 2) (mNil (O A))) (ρ := [x0, x1, .sh (.int l), x3, .sh (tD i), x5]) (s := s) (s' := s) (l := l) (by simp only [runF, mSeq, seqS, mAsg, mBin, mUn, mVar, mC, mRet, mNext, mIfS, mTest, mTruth, mAnd, mOr, mNot, mAndV, mOrV, mNotV, mCl, mCons, mNil, mCall, mDrop, mDrI, mDrNe, mDrIx, mDrLen, mDrSet, mDrPop, drL, isDr0, toS, fName, R.lift, bind_ok, bind_err, bind_bad, eAdd, eSub, eMul, eDiv, eMod, ePow, eNeg, eLt, eLe, eGt, eGe, eEqI, eNeI, eEqS, eEqB, eNeB, eIdxL, eIdxT, eBool, eAbs, Bool.false_eq_true, dList, dTup, if_true, if_false, if_pos, List.map_cons, List.map_nil, List.length_cons, List.length_nil, List.replicate, List.cons_append, List.nil_append, List.getElem?_cons_zero, List.getElem?_cons_succ, List.set_cons_zero, List.set_cons_succ, Nat.reduceAdd, Nat.reduceSub, Nat.reduceLeDiff, Nat.reduceLT, Nat.reduceMul, Int.reduceToNat, Int.reduceEq, Int.reduceAdd, Int.reduceSub, Int.reduceNeg, Bool.not_true, Bool.not_false, decide_true, decide_false, reduceIte, Nat.reduceEqDiff, ite_true, ite_false, mIf, mLst, mSlice, mPart, mNoPart, mItS, mItL, mItT, asSeq, asList, asTup, mFor, mPar, mPass, mBrk, mCnt, mRetN]) (by omega) (by omega)
  simp only [lc_law_indices_0, mLc, wipeE, e1, runF, mSeq, seqS, mAsg, mBin, mUn, mVar, mC, mRet, mNext, mIfS, mTest, mTruth, mAnd, mOr, mNot, mAndV, mOrV, mNotV, mCl, mCons, mNil, mCall, mDrop, mDrI, mDrNe, mDrIx, mDrLen, mDrSet, mDrPop, drL, isDr0, toS, fName, R.lift, bind_ok, bind_err, bind_bad, eAdd, eSub, eMul, eDiv, eMod, ePow, eNeg, eLt, eLe, eGt, eGe, eEqI, eNeI, eEqS, eEqB, eNeB, eIdxL, eIdxT, eBool, eAbs, Bool.false_eq_true, dList, dTup, if_true, if_false, if_pos, List.map_cons, List.map_nil, List.length_cons, List.length_nil, List.replicate, List.cons_append, List.nil_append, List.getElem?_cons_zero, List.getElem?_cons_succ, List.set_cons_zero, List.set_cons_succ, Nat.reduceAdd, Nat.reduceSub, Nat.reduceLeDiff, Nat.reduceLT, Nat.reduceMul, Int.reduceToNat, Int.reduceEq, Int.reduceAdd, Int.reduceSub, Int.reduceNeg, Bool.not_true, Bool.not_false, decide_true, decide_false, reduceIte, Nat.reduceEqDiff, ite_true, ite_false, mIf, mLst, mSlice, mPart, mNoPart, mItS, mItL, mItT, asSeq, asList, asTup, mFor, mPar, mPass, mBrk, mCnt, mRetN]
  rw [lcL_map (O := O A) (fun d => match d with | .int k => tD (i ++ [k]) | _ => .non) (iD (rng l)) []
    (by
      intro e he
      rw [List.mem_map] at he
      obtain ⟨k, hk, rfl⟩ := he
      refine ⟨_, rfl, rfl, ?_⟩
      have ha : dAdd (tD i) (.tup [.int k]) = some (tD (i ++ [k])) := by
        simp only [dAdd, tD, iD, List.length_map, List.length_cons, List.length_nil]
        rw [if_pos (by omega), List.map_append]
        rfl
      simp only [runF, mSeq, seqS, mAsg, mBin, mUn, mVar, mC, mRet, mNext, mIfS, mTest, mTruth, mAnd, mOr, mNot, mAndV, mOrV, mNotV, mCl, mCons, mNil, mCall, mDrop, mDrI, mDrNe, mDrIx, mDrLen, mDrSet, mDrPop, drL, isDr0, toS, fName, R.lift, bind_ok, bind_err, bind_bad, eAdd, eSub, eMul, eDiv, eMod, ePow, eNeg, eLt, eLe, eGt, eGe, eEqI, eNeI, eEqS, eEqB, eNeB, eIdxL, eIdxT, eBool, eAbs, Bool.false_eq_true, dList, dTup, if_true, if_false, if_pos, List.map_cons, List.map_nil, List.length_cons, List.length_nil, List.replicate, List.cons_append, List.nil_append, List.getElem?_cons_zero, List.getElem?_cons_succ, List.set_cons_zero, List.set_cons_succ, Nat.reduceAdd, Nat.reduceSub, Nat.reduceLeDiff, Nat.reduceLT, Nat.reduceMul, Int.reduceToNat, Int.reduceEq, Int.reduceAdd, Int.reduceSub, Int.reduceNeg, Bool.not_true, Bool.not_false, decide_true, decide_false, reduceIte, Nat.reduceEqDiff, ite_true, ite_false, mIf, mLst, mSlice, mPart, mNoPart, mItS, mItL, mItT, asSeq, asList, asTup, mFor, mPar, mPass, mBrk, mCnt, mRetN, ha])
    (by simp [rng_len]; omega)]
  congr 1
  simp only [List.nil_append, iD, List.map_map]
  rfl
theorem linds_in (A : Ad) {x0 x1 : Sl} {s : Dr} {l : Int} (h0 : 1 ≤ l) (h1 : l ≤ 64) : ∀ (is acc : List (List Int)) (x4 x5 : Sl), (∀ i ∈ is, i.length ≤ 1000) → acc.length + is.length * l.toNat ≤ 1000 →
    ∃ y4 y5, forL (O A).S (fName 4) (bd_law_indices_1 A) (is.map tD) [x0, x1, .sh (.int l), .own (acc.map tD), x4, x5] s = .nx [x0, x1, .sh (.int l), .own ((acc ++ is.flatMap fun i => (rng l).map fun k => i ++ [k]).map tD), y4, y5] s
  | [], acc, x4, x5, _, _ => ⟨x4, x5, by simp [forL]⟩
  | i :: is, acc, x4, x5, hc, hl => by
    rw [List.length_cons, Nat.add_mul] at hl
    obtain ⟨y4, y5, e⟩ := linds_in A (x0 := x0) (x1 := x1) (s := s) h0 h1 is (acc ++ (rng l).map fun k => i ++ [k]) (.sh (tD i)) x5 (fun x hx => hc x (List.mem_cons_of_mem _ hx)) (by rw [List.length_append, List.length_map, rng_len]; omega)
    have lc := lc_linds A (x0 := x0) (x1 := x1) (x3 := .own (acc.map tD)) (x5 := x5) (s := s) h0 h1 (hc i List.mem_cons_self)
    have hz : (acc.map tD).length + (((rng l).map fun k => i ++ [k]).map tD).length ≤ 100000 := by simp [rng_len]; omega
    refine ⟨y4, y5, ?_⟩
    show forL (O A).S _ _ (tD i :: is.map tD) _ s = _
    rw [forL_step rfl (by simp only [bd_law_indices_1, mExtend, runF, mSeq, seqS, mAsg, mBin, mUn, mVar, mC, mRet, mNext, mIfS, mTest, mTruth, mAnd, mOr, mNot, mAndV, mOrV, mNotV, mCl, mCons, mNil, mCall, mDrop, mDrI, mDrNe, mDrIx, mDrLen, mDrSet, mDrPop, drL, isDr0, toS, fName, R.lift, bind_ok, bind_err, bind_bad, eAdd, eSub, eMul, eDiv, eMod, ePow, eNeg, eLt, eLe, eGt, eGe, eEqI, eNeI, eEqS, eEqB, eNeB, eIdxL, eIdxT, eBool, eAbs, Bool.false_eq_true, dList, dTup, if_true, if_false, if_pos, List.map_cons, List.map_nil, List.length_cons, List.length_nil, List.replicate, List.cons_append, List.nil_append, List.getElem?_cons_zero, List.getElem?_cons_succ, List.set_cons_zero, List.set_cons_succ, Nat.reduceAdd, Nat.reduceSub, Nat.reduceLeDiff, Nat.reduceLT, Nat.reduceMul, Int.reduceToNat, Int.reduceEq, Int.reduceAdd, Int.reduceSub, Int.reduceNeg, Bool.not_true, Bool.not_false, decide_true, decide_false, reduceIte, Nat.reduceEqDiff, ite_true, ite_false, mIf, mLst, mSlice, mPart, mNoPart, mItS, mItL, mItT, asSeq, asList, asTup, mFor, mPar, mPass, mBrk, mCnt, mRetN, lc]; rw [if_pos hz]), ← List.map_append, e]
    simp
theorem linds_loop (A : Ad) {x0 : Sl} {s : Dr} : ∀ (sh : List Int) (is : List (List Int)) (n : Nat) (x2 x3 x4 x5 : Sl), (∀ l ∈ sh, 1 ≤ l) → (∀ i ∈ is, i.length ≤ n) → n + sh.length ≤ 1000 → (is.length : Int) * prodL sh ≤ 64 → 0 < is.length →
    ∃ y2 y3 y4 y5, forL (O A).S (fName 2) (bd_law_indices_2 A) (iD sh) [x0, .sh (.lst (is.map tD)), x2, x3, x4, x5] s = .nx [x0, .sh (.lst ((indsF sh is).map tD)), y2, y3, y4, y5] s
  | [], is, n, x2, x3, x4, x5, _, _, _, _, _ => ⟨x2, x3, x4, x5, rfl⟩
  | l :: sh, is, n, x2, x3, x4, x5, hb, hi, hn, hp, h0 => by
    have p1 := prod_pos (xs := sh) fun x hx => hb x (List.mem_cons_of_mem _ hx)
    have a1 := hb l List.mem_cons_self
    have e1 : prodL (l :: sh) = l * prodL sh := rfl
    rw [e1, ← Int.mul_assoc] at hp
    have hcs : (1 : Int) ≤ is.length := by omega
    have hca : (is.length : Int) * l ≤ 64 := by
      have h1 : (0 : Int) ≤ (is.length : Int) * l := Int.mul_nonneg (by omega) (by omega)
      have := Int.mul_le_mul_of_nonneg_left p1 h1
      omega
    have ha64 : l ≤ 64 := by
      have := Int.mul_le_mul_of_nonneg_right hcs (show (0 : Int) ≤ l by omega)
      omega
    have hln : is.length * l.toNat ≤ 64 := by
      have : ((is.length * l.toNat : Nat) : Int) = (is.length : Int) * l := by
        rw [Int.natCast_mul, Int.toNat_of_nonneg (by omega)]
      omega
    have hlen := inds_step_len is l
    rw [List.length_cons] at hn
    obtain ⟨z4, z5, e2⟩ := linds_in A (x0 := x0) (x1 := .sh (.lst (is.map tD))) (s := s) a1 ha64 is [] x4 x5 (fun i h => by have := hi i h; omega) (by simp; omega)
    rw [List.nil_append] at e2
    obtain ⟨y2, y3, y4, y5, e⟩ := linds_loop A (x0 := x0) (s := s) sh (is.flatMap fun i => (rng l).map fun k => i ++ [k]) (n + 1) (.sh (.int l)) (.sh (.lst ((is.flatMap fun i => (rng l).map fun k => i ++ [k]).map tD))) z4 z5 (fun x hx => hb x (List.mem_cons_of_mem _ hx))
      (by
        intro i hm
        rw [List.mem_flatMap] at hm
        obtain ⟨i0, h3, h4⟩ := hm
        rw [List.mem_map] at h4
        obtain ⟨k, _, rfl⟩ := h4
        have := hi i0 h3
        simp
        omega) (by omega)
      (by
        rw [hlen, Int.natCast_mul, Int.toNat_of_nonneg (by omega)]
        exact hp) (by rw [hlen]; exact Nat.mul_pos h0 (by omega))
    refine ⟨y2, y3, y4, y5, ?_⟩
    show forL (O A).S _ _ (D.int l :: iD sh) _ s = _
    simp only [List.map_nil] at e2
    rw [forL_step rfl (by simp only [bd_law_indices_2, mOwn, mDisp, listMax, mFrz, frzE, runF, mSeq, seqS, mAsg, mBin, mUn, mVar, mC, mRet, mNext, mIfS, mTest, mTruth, mAnd, mOr, mNot, mAndV, mOrV, mNotV, mCl, mCons, mNil, mCall, mDrop, mDrI, mDrNe, mDrIx, mDrLen, mDrSet, mDrPop, drL, isDr0, toS, fName, R.lift, bind_ok, bind_err, bind_bad, eAdd, eSub, eMul, eDiv, eMod, ePow, eNeg, eLt, eLe, eGt, eGe, eEqI, eNeI, eEqS, eEqB, eNeB, eIdxL, eIdxT, eBool, eAbs, Bool.false_eq_true, dList, dTup, if_true, if_false, if_pos, List.map_cons, List.map_nil, List.length_cons, List.length_nil, List.replicate, List.cons_append, List.nil_append, List.getElem?_cons_zero, List.getElem?_cons_succ, List.set_cons_zero, List.set_cons_succ, Nat.reduceAdd, Nat.reduceSub, Nat.reduceLeDiff, Nat.reduceLT, Nat.reduceMul, Int.reduceToNat, Int.reduceEq, Int.reduceAdd, Int.reduceSub, Int.reduceNeg, Bool.not_true, Bool.not_false, decide_true, decide_false, reduceIte, Nat.reduceEqDiff, ite_true, ite_false, mIf, mLst, mSlice, mPart, mNoPart, mItS, mItL, mItT, asSeq, asList, asTup, mFor, mPar, mPass, mBrk, mCnt, mRetN, e2]; rfl), e]
    rfl
theorem law_indices_ok (A : Ad) {s : Dr} {sh : List Int} {d : D} (hd : isSq d sh) (hb : ∀ l ∈ sh, 1 ≤ l) (hp : prodL sh ≤ 64) (hl : sh.length ≤ 100) : m_law_indices A [d] s = .ok (.lst ((indsL sh).map tD)) s := by
  obtain ⟨y2, y3, y4, y5, e⟩ := linds_loop A (x0 := .sh d) (s := s) sh [[]] 0 .no .no .no .no hb (by simp) (by omega) (by simpa using hp) (by simp)
  have as := hd.as
  simp only [asSeq] at as
  simp only [tD, iD, List.map_cons, List.map_nil] at e as
  simp only [m_law_indices, mb_law_indices, runF, mSeq, seqS, mAsg, mBin, mUn, mVar, mC, mRet, mNext, mIfS, mTest, mTruth, mAnd, mOr, mNot, mAndV, mOrV, mNotV, mCl, mCons, mNil, mCall, mDrop, mDrI, mDrNe, mDrIx, mDrLen, mDrSet, mDrPop, drL, isDr0, toS, fName, R.lift, bind_ok, bind_err, bind_bad, eAdd, eSub, eMul, eDiv, eMod, ePow, eNeg, eLt, eLe, eGt, eGe, eEqI, eNeI, eEqS, eEqB, eNeB, eIdxL, eIdxT, eBool, eAbs, Bool.false_eq_true, dList, dTup, if_true, if_false, if_pos, List.map_cons, List.map_nil, List.length_cons, List.length_nil, List.replicate, List.cons_append, List.nil_append, List.getElem?_cons_zero, List.getElem?_cons_succ, List.set_cons_zero, List.set_cons_succ, Nat.reduceAdd, Nat.reduceSub, Nat.reduceLeDiff, Nat.reduceLT, Nat.reduceMul, Int.reduceToNat, Int.reduceEq, Int.reduceAdd, Int.reduceSub, Int.reduceNeg, Bool.not_true, Bool.not_false, decide_true, decide_false, reduceIte, Nat.reduceEqDiff, ite_true, ite_false, mIf, mLst, mSlice, mPart, mNoPart, mItS, mItL, mItT, asSeq, asList, asTup, mFor, mPar, mPass, mBrk, mCnt, mRetN, as, e]
  rfl
/-! ### the ends of a view -/
def neg0 (x : Int) : Int := if x < 0 then x else 0
def pos0 (x : Int) : Int := if 0 < x then x else 0
def lowS : Ax → Int
  | [] => 0
  | a :: ax => neg0 ((a.1 - 1) * a.2) + lowS ax
def highS : Ax → Int
  | [] => 0
  | a :: ax => pos0 ((a.1 - 1) * a.2) + highS ax
theorem lowS_le : ∀ ax : Ax, lowS ax ≤ 0
  | [] => by simp [lowS]
  | a :: ax => by have := lowS_le ax; unfold lowS neg0; split <;> omega
theorem highS_ge : ∀ ax : Ax, 0 ≤ highS ax
  | [] => by simp [highS]
  | a :: ax => by have := highS_ge ax; unfold highS pos0; split <;> omega
/-- a view within some cells -/
structure Vw (cells most o : Int) (ax : Ax) : Prop where
  len : ax.length ≤ 4
  pos : ∀ a ∈ ax, 1 ≤ a.1
  one : ∀ a ∈ ax, a.1 = 1 → a.2 = 0
  prd : prodL (shp ax) ≤ most
  low : 0 ≤ o + lowS ax
  high : o + highS ax ≤ cells - 1
theorem reach_bd : ∀ {ax : Ax} {a : Int × Int}, a ∈ ax → lowS ax ≤ (a.1 - 1) * a.2 ∧ (a.1 - 1) * a.2 ≤ highS ax
  | b :: ax, a, h => by
    have h1 := lowS_le ax
    have h2 := highS_ge ax
    rcases List.mem_cons.mp h with rfl | h
    · unfold lowS highS neg0 pos0
      constructor <;> (split <;> omega)
    · have := reach_bd h
      unfold lowS highS neg0 pos0
      constructor <;> (split <;> omega)
theorem Vw.str {cells most o : Int} {ax : Ax} (h : Vw cells most o ax) (hc : cells ≤ 64) : ∀ a ∈ ax, -64 < a.2 ∧ a.2 < 64 := by
  intro a ha
  have p := h.pos a ha
  by_cases h1 : a.1 = 1
  · rw [h.one a ha h1]; decide
  · have r := reach_bd ha
    have l := h.low
    have hh := h.high
    have m1 : (1 : Int) ≤ a.1 - 1 := by omega
    by_cases h2 : 0 ≤ a.2
    · have := Int.mul_le_mul_of_nonneg_right m1 h2
      have := lowS_le ax
      omega
    · have := Int.mul_le_mul_of_nonneg_right m1 (show (0 : Int) ≤ -a.2 by omega)
      rw [Int.mul_neg, Int.mul_neg] at this
      have := highS_ge ax
      omega
theorem Vw.bd {cells most o : Int} {ax : Ax} (h : Vw cells most o ax) (hc : cells ≤ 64) : Bd ax := ⟨h.pos, fun a ha => by have := h.str hc a ha; omega⟩
theorem Vw.off {cells most o : Int} {ax : Ax} (h : Vw cells most o ax) (hc : cells ≤ 64) : 0 ≤ o ∧ o < 64 := by
  have l := h.low
  have hh := h.high
  have := lowS_le ax
  have := highS_ge ax
  omega
theorem toInts_iD : ∀ xs : List Int, toInts (iD xs) = some xs
  | [] => rfl
  | x :: xs => by
    have := toInts_iD xs
    unfold iD at this ⊢
    simp only [List.map_cons, toInts, this]
    rfl
theorem sum_low : ∀ ax : Ax, ((ax.map fun a => (a.1 - 1) * a.2).filter fun r => decide (r < 0)).sum = lowS ax
  | [] => rfl
  | a :: ax => by
    have := sum_low ax
    rw [List.map_cons, List.filter_cons]
    unfold lowS neg0
    split
    · rename_i h
      rw [if_pos (by simpa using h), List.sum_cons, this]
    · rename_i h
      rw [if_neg (by simpa using h), this]
      omega
theorem sum_high : ∀ ax : Ax, ((ax.map fun a => (a.1 - 1) * a.2).filter fun r => decide (0 < r)).sum = highS ax
  | [] => rfl
  | a :: ax => by
    have := sum_high ax
    rw [List.map_cons, List.filter_cons]
    unfold highS pos0
    split
    · rename_i h
      rw [if_pos (by simpa using h), List.sum_cons, this]
    · rename_i h
      rw [if_neg (by simpa using h), this]
      omega
/-- numbers that may be computed with -/
structure Wd (ax : Ax) : Prop where
  len : ∀ a ∈ ax, -(10 ^ 60) < a.1 ∧ a.1 < 10 ^ 60
  str : ∀ a ∈ ax, -(10 ^ 60) < a.2 ∧ a.2 < 10 ^ 60
  few : ax.length ≤ 100
theorem ends_of_ok (A : Ad) {s : Dr} {o : Int} {ax : Ax} {d e : D} (hd : sq2 d e (shp ax) (strd ax)) (hw : Wd ax) : m_ends_of A [.int o, d, e] s = .ok (.tup [.int (o + lowS ax), .int (o + highS ax)]) s := by
  have r0 : ∀ x3 x4 x5 x6 x7 x8 : Sl, lc_ends_of_0 A [.sh (.int o), .sh d, .sh e, x3, x4, x5, x6, x7, x8] s = .ok (iD (ax.map fun a => (a.1 - 1) * a.2)) s := by
    intro x3 x4 x5 x6 x7 x8
    simp only [lc_ends_of_0, mLc, wipeE, mItA, runF, mSeq, seqS, mAsg, mBin, mUn, mVar, mC, mRet, mNext, mIfS, mTest, mTruth, mAnd, mOr, mNot, mAndV, mOrV, mNotV, mCl, mCons, mNil, mCall, mDrop, mDrI, mDrNe, mDrIx, mDrLen, mDrSet, mDrPop, drL, isDr0, toS, fName, R.lift, bind_ok, bind_err, bind_bad, eAdd, eSub, eMul, eDiv, eMod, ePow, eNeg, eLt, eLe, eGt, eGe, eEqI, eNeI, eEqS, eEqB, eNeB, eIdxL, eIdxT, eBool, eAbs, Bool.false_eq_true, dList, dTup, if_true, if_false, if_pos, List.map_cons, List.map_nil, List.length_cons, List.length_nil, List.replicate, List.cons_append, List.nil_append, List.getElem?_cons_zero, List.getElem?_cons_succ, List.set_cons_zero, List.set_cons_succ, Nat.reduceAdd, Nat.reduceSub, Nat.reduceLeDiff, Nat.reduceLT, Nat.reduceMul, Int.reduceToNat, Int.reduceEq, Int.reduceAdd, Int.reduceSub, Int.reduceNeg, Bool.not_true, Bool.not_false, decide_true, decide_false, reduceIte, Nat.reduceEqDiff, ite_true, ite_false, mIf, mLst, mSlice, mPart, mNoPart, mItS, mItL, mItT, asSeq, asList, asTup, mFor, mPar, mPass, mBrk, mCnt, mRetN, hd.zip]
    rw [lcL_map (O := O A) (fun d => match d with | .tup [.int l, .int st] => .int ((l - 1) * st) | _ => .non) (axD ax) []
      (by
        intro y hy
        unfold axD at hy
        rw [List.mem_map] at hy
        obtain ⟨a, ha, rfl⟩ := hy
        have h1 := hw.len a ha
        have h2 := hw.str a ha
        have c1 : CMulG (a.1 - 1) a.2 := mulG (by omega) (by omega) (by omega) (by omega)
        refine ⟨_, f2_ok _ _ _ _ _, rfl, ?_⟩
        simp only [runF, mSeq, seqS, mAsg, mBin, mUn, mVar, mC, mRet, mNext, mIfS, mTest, mTruth, mAnd, mOr, mNot, mAndV, mOrV, mNotV, mCl, mCons, mNil, mCall, mDrop, mDrI, mDrNe, mDrIx, mDrLen, mDrSet, mDrPop, drL, isDr0, toS, fName, R.lift, bind_ok, bind_err, bind_bad, eAdd, eSub, eMul, eDiv, eMod, ePow, eNeg, eLt, eLe, eGt, eGe, eEqI, eNeI, eEqS, eEqB, eNeB, eIdxL, eIdxT, eBool, eAbs, Bool.false_eq_true, dList, dTup, if_true, if_false, if_pos, List.map_cons, List.map_nil, List.length_cons, List.length_nil, List.replicate, List.cons_append, List.nil_append, List.getElem?_cons_zero, List.getElem?_cons_succ, List.set_cons_zero, List.set_cons_succ, Nat.reduceAdd, Nat.reduceSub, Nat.reduceLeDiff, Nat.reduceLT, Nat.reduceMul, Int.reduceToNat, Int.reduceEq, Int.reduceAdd, Int.reduceSub, Int.reduceNeg, Bool.not_true, Bool.not_false, decide_true, decide_false, reduceIte, Nat.reduceEqDiff, ite_true, ite_false, mIf, mLst, mSlice, mPart, mNoPart, mItS, mItL, mItT, asSeq, asList, asTup, mFor, mPar, mPass, mBrk, mCnt, mRetN, c1])
      (by have := hw.few; simp [axD]; omega)]
    congr 1
    simp only [List.nil_append, iD, axD, List.map_map]
    rfl
  have r1 : ∀ (rs : List Int) (x0 x1 x2 x4 x5 x6 x7 x8 : Sl), rs.length ≤ 1000 → lc_ends_of_1 A [x0, x1, x2, .sh (.lst (iD rs)), x4, x5, x6, x7, x8] s = .ok (iD (rs.filter fun r => decide (r < 0))) s := by
    intro rs x0 x1 x2 x4 x5 x6 x7 x8 hl
    simp only [lc_ends_of_1, mLc, wipeE, runF, mSeq, seqS, mAsg, mBin, mUn, mVar, mC, mRet, mNext, mIfS, mTest, mTruth, mAnd, mOr, mNot, mAndV, mOrV, mNotV, mCl, mCons, mNil, mCall, mDrop, mDrI, mDrNe, mDrIx, mDrLen, mDrSet, mDrPop, drL, isDr0, toS, fName, R.lift, bind_ok, bind_err, bind_bad, eAdd, eSub, eMul, eDiv, eMod, ePow, eNeg, eLt, eLe, eGt, eGe, eEqI, eNeI, eEqS, eEqB, eNeB, eIdxL, eIdxT, eBool, eAbs, Bool.false_eq_true, dList, dTup, if_true, if_false, if_pos, List.map_cons, List.map_nil, List.length_cons, List.length_nil, List.replicate, List.cons_append, List.nil_append, List.getElem?_cons_zero, List.getElem?_cons_succ, List.set_cons_zero, List.set_cons_succ, Nat.reduceAdd, Nat.reduceSub, Nat.reduceLeDiff, Nat.reduceLT, Nat.reduceMul, Int.reduceToNat, Int.reduceEq, Int.reduceAdd, Int.reduceSub, Int.reduceNeg, Bool.not_true, Bool.not_false, decide_true, decide_false, reduceIte, Nat.reduceEqDiff, ite_true, ite_false, mIf, mLst, mSlice, mPart, mNoPart, mItS, mItL, mItT, asSeq, asList, asTup, mFor, mPar, mPass, mBrk, mCnt, mRetN]
    rw [lcL_filter (O := O A) (fun d => match d with | .int r => decide (r < 0) | _ => false) (fun d => d) (iD rs) []
      (by
        intro y hy
        rw [List.mem_map] at hy
        obtain ⟨r, hr, rfl⟩ := hy
        exact ⟨_, rfl, by simp only [runF, mSeq, seqS, mAsg, mBin, mUn, mVar, mC, mRet, mNext, mIfS, mTest, mTruth, mAnd, mOr, mNot, mAndV, mOrV, mNotV, mCl, mCons, mNil, mCall, mDrop, mDrI, mDrNe, mDrIx, mDrLen, mDrSet, mDrPop, drL, isDr0, toS, fName, R.lift, bind_ok, bind_err, bind_bad, eAdd, eSub, eMul, eDiv, eMod, ePow, eNeg, eLt, eLe, eGt, eGe, eEqI, eNeI, eEqS, eEqB, eNeB, eIdxL, eIdxT, eBool, eAbs, Bool.false_eq_true, dList, dTup, if_true, if_false, if_pos, List.map_cons, List.map_nil, List.length_cons, List.length_nil, List.replicate, List.cons_append, List.nil_append, List.getElem?_cons_zero, List.getElem?_cons_succ, List.set_cons_zero, List.set_cons_succ, Nat.reduceAdd, Nat.reduceSub, Nat.reduceLeDiff, Nat.reduceLT, Nat.reduceMul, Int.reduceToNat, Int.reduceEq, Int.reduceAdd, Int.reduceSub, Int.reduceNeg, Bool.not_true, Bool.not_false, decide_true, decide_false, reduceIte, Nat.reduceEqDiff, ite_true, ite_false, mIf, mLst, mSlice, mPart, mNoPart, mItS, mItL, mItT, asSeq, asList, asTup, mFor, mPar, mPass, mBrk, mCnt, mRetN], fun _ => by simp only [runF, mSeq, seqS, mAsg, mBin, mUn, mVar, mC, mRet, mNext, mIfS, mTest, mTruth, mAnd, mOr, mNot, mAndV, mOrV, mNotV, mCl, mCons, mNil, mCall, mDrop, mDrI, mDrNe, mDrIx, mDrLen, mDrSet, mDrPop, drL, isDr0, toS, fName, R.lift, bind_ok, bind_err, bind_bad, eAdd, eSub, eMul, eDiv, eMod, ePow, eNeg, eLt, eLe, eGt, eGe, eEqI, eNeI, eEqS, eEqB, eNeB, eIdxL, eIdxT, eBool, eAbs, Bool.false_eq_true, dList, dTup, if_true, if_false, if_pos, List.map_cons, List.map_nil, List.length_cons, List.length_nil, List.replicate, List.cons_append, List.nil_append, List.getElem?_cons_zero, List.getElem?_cons_succ, List.set_cons_zero, List.set_cons_succ, Nat.reduceAdd, Nat.reduceSub, Nat.reduceLeDiff, Nat.reduceLT, Nat.reduceMul, Int.reduceToNat, Int.reduceEq, Int.reduceAdd, Int.reduceSub, Int.reduceNeg, Bool.not_true, Bool.not_false, decide_true, decide_false, reduceIte, Nat.reduceEqDiff, ite_true, ite_false, mIf, mLst, mSlice, mPart, mNoPart, mItS, mItL, mItT, asSeq, asList, asTup, mFor, mPar, mPass, mBrk, mCnt, mRetN]⟩)
      (by simp; omega)]
    congr 1
    simp only [List.nil_append, iD, List.map_id', List.filter_map]
    rfl
  have r2 : ∀ (rs : List Int) (x0 x1 x2 x4 x5 x6 x7 x8 : Sl), rs.length ≤ 1000 → lc_ends_of_2 A [x0, x1, x2, .sh (.lst (iD rs)), x4, x5, x6, x7, x8] s = .ok (iD (rs.filter fun r => decide (0 < r))) s := by
    intro rs x0 x1 x2 x4 x5 x6 x7 x8 hl
    simp only [lc_ends_of_2, mLc, wipeE, runF, mSeq, seqS, mAsg, mBin, mUn, mVar, mC, mRet, mNext, mIfS, mTest, mTruth, mAnd, mOr, mNot, mAndV, mOrV, mNotV, mCl, mCons, mNil, mCall, mDrop, mDrI, mDrNe, mDrIx, mDrLen, mDrSet, mDrPop, drL, isDr0, toS, fName, R.lift, bind_ok, bind_err, bind_bad, eAdd, eSub, eMul, eDiv, eMod, ePow, eNeg, eLt, eLe, eGt, eGe, eEqI, eNeI, eEqS, eEqB, eNeB, eIdxL, eIdxT, eBool, eAbs, Bool.false_eq_true, dList, dTup, if_true, if_false, if_pos, List.map_cons, List.map_nil, List.length_cons, List.length_nil, List.replicate, List.cons_append, List.nil_append, List.getElem?_cons_zero, List.getElem?_cons_succ, List.set_cons_zero, List.set_cons_succ, Nat.reduceAdd, Nat.reduceSub, Nat.reduceLeDiff, Nat.reduceLT, Nat.reduceMul, Int.reduceToNat, Int.reduceEq, Int.reduceAdd, Int.reduceSub, Int.reduceNeg, Bool.not_true, Bool.not_false, decide_true, decide_false, reduceIte, Nat.reduceEqDiff, ite_true, ite_false, mIf, mLst, mSlice, mPart, mNoPart, mItS, mItL, mItT, asSeq, asList, asTup, mFor, mPar, mPass, mBrk, mCnt, mRetN]
    rw [lcL_filter (O := O A) (fun d => match d with | .int r => decide (0 < r) | _ => false) (fun d => d) (iD rs) []
      (by
        intro y hy
        rw [List.mem_map] at hy
        obtain ⟨r, hr, rfl⟩ := hy
        exact ⟨_, rfl, by simp only [runF, mSeq, seqS, mAsg, mBin, mUn, mVar, mC, mRet, mNext, mIfS, mTest, mTruth, mAnd, mOr, mNot, mAndV, mOrV, mNotV, mCl, mCons, mNil, mCall, mDrop, mDrI, mDrNe, mDrIx, mDrLen, mDrSet, mDrPop, drL, isDr0, toS, fName, R.lift, bind_ok, bind_err, bind_bad, eAdd, eSub, eMul, eDiv, eMod, ePow, eNeg, eLt, eLe, eGt, eGe, eEqI, eNeI, eEqS, eEqB, eNeB, eIdxL, eIdxT, eBool, eAbs, Bool.false_eq_true, dList, dTup, if_true, if_false, if_pos, List.map_cons, List.map_nil, List.length_cons, List.length_nil, List.replicate, List.cons_append, List.nil_append, List.getElem?_cons_zero, List.getElem?_cons_succ, List.set_cons_zero, List.set_cons_succ, Nat.reduceAdd, Nat.reduceSub, Nat.reduceLeDiff, Nat.reduceLT, Nat.reduceMul, Int.reduceToNat, Int.reduceEq, Int.reduceAdd, Int.reduceSub, Int.reduceNeg, Bool.not_true, Bool.not_false, decide_true, decide_false, reduceIte, Nat.reduceEqDiff, ite_true, ite_false, mIf, mLst, mSlice, mPart, mNoPart, mItS, mItL, mItT, asSeq, asList, asTup, mFor, mPar, mPass, mBrk, mCnt, mRetN], fun _ => by simp only [runF, mSeq, seqS, mAsg, mBin, mUn, mVar, mC, mRet, mNext, mIfS, mTest, mTruth, mAnd, mOr, mNot, mAndV, mOrV, mNotV, mCl, mCons, mNil, mCall, mDrop, mDrI, mDrNe, mDrIx, mDrLen, mDrSet, mDrPop, drL, isDr0, toS, fName, R.lift, bind_ok, bind_err, bind_bad, eAdd, eSub, eMul, eDiv, eMod, ePow, eNeg, eLt, eLe, eGt, eGe, eEqI, eNeI, eEqS, eEqB, eNeB, eIdxL, eIdxT, eBool, eAbs, Bool.false_eq_true, dList, dTup, if_true, if_false, if_pos, List.map_cons, List.map_nil, List.length_cons, List.length_nil, List.replicate, List.cons_append, List.nil_append, List.getElem?_cons_zero, List.getElem?_cons_succ, List.set_cons_zero, List.set_cons_succ, Nat.reduceAdd, Nat.reduceSub, Nat.reduceLeDiff, Nat.reduceLT, Nat.reduceMul, Int.reduceToNat, Int.reduceEq, Int.reduceAdd, Int.reduceSub, Int.reduceNeg, Bool.not_true, Bool.not_false, decide_true, decide_false, reduceIte, Nat.reduceEqDiff, ite_true, ite_false, mIf, mLst, mSlice, mPart, mNoPart, mItS, mItL, mItT, asSeq, asList, asTup, mFor, mPar, mPass, mBrk, mCnt, mRetN]⟩)
      (by simp; omega)]
    congr 1
    simp only [List.nil_append, iD, List.map_id', List.filter_map]
    rfl
  have l1 : (ax.map fun a => (a.1 - 1) * a.2).length ≤ 1000 := by have := hw.few; simp; omega
  have s1 : dSum [.lst (iD ((ax.map fun a => (a.1 - 1) * a.2).filter fun r => decide (r < 0)))] = some (.int (lowS ax)) := by
    simp only [dSum, toInts_iD, Option.map_some, sum_low]
  have s2 : dSum [.lst (iD ((ax.map fun a => (a.1 - 1) * a.2).filter fun r => decide (0 < r)))] = some (.int (highS ax)) := by
    simp only [dSum, toInts_iD, Option.map_some, sum_high]
  simp only [m_ends_of, mb_ends_of, runF, mSeq, seqS, mAsg, mBin, mUn, mVar, mC, mRet, mNext, mIfS, mTest, mTruth, mAnd, mOr, mNot, mAndV, mOrV, mNotV, mCl, mCons, mNil, mCall, mDrop, mDrI, mDrNe, mDrIx, mDrLen, mDrSet, mDrPop, drL, isDr0, toS, fName, R.lift, bind_ok, bind_err, bind_bad, eAdd, eSub, eMul, eDiv, eMod, ePow, eNeg, eLt, eLe, eGt, eGe, eEqI, eNeI, eEqS, eEqB, eNeB, eIdxL, eIdxT, eBool, eAbs, Bool.false_eq_true, dList, dTup, if_true, if_false, if_pos, List.map_cons, List.map_nil, List.length_cons, List.length_nil, List.replicate, List.cons_append, List.nil_append, List.getElem?_cons_zero, List.getElem?_cons_succ, List.set_cons_zero, List.set_cons_succ, Nat.reduceAdd, Nat.reduceSub, Nat.reduceLeDiff, Nat.reduceLT, Nat.reduceMul, Int.reduceToNat, Int.reduceEq, Int.reduceAdd, Int.reduceSub, Int.reduceNeg, Bool.not_true, Bool.not_false, decide_true, decide_false, reduceIte, Nat.reduceEqDiff, ite_true, ite_false, mIf, mLst, mSlice, mPart, mNoPart, mItS, mItL, mItT, asSeq, asList, asTup, mFor, mPar, mPass, mBrk, mCnt, mRetN, r0, r1 _ _ _ _ _ _ _ _ _ l1, r2 _ _ _ _ _ _ _ _ _ l1, s1, s2]
theorem product_loop (A : Ad) {x0 : Sl} {s : Dr} : ∀ (xs : List Int) (p : Int) (x2 : Sl), (∀ x ∈ xs, 1 ≤ x) → 1 ≤ p → p * prodL xs ≤ 10 ^ 190 → ∃ y2, forL (O A).S (fName 2) (bd_product_of_0 A) (iD xs) [x0, .sh (.int p), x2] s = .nx [x0, .sh (.int (p * prodL xs)), y2] s
  | [], p, x2, _, _, _ => ⟨x2, by simp [forL, iD, prodL]⟩
  | x :: xs, p, x2, h, hp, hb => by
    have p1 := prod_pos (xs := xs) fun y hy => h y (List.mem_cons_of_mem _ hy)
    have x1 := h x List.mem_cons_self
    have e1 : prodL (x :: xs) = x * prodL xs := rfl
    rw [e1, ← Int.mul_assoc] at hb ⊢
    have px : 1 ≤ p * x := by have := Int.mul_le_mul hp x1 (by decide) (by omega); simpa using this
    have pb : p * x ≤ 10 ^ 190 := by
      have := Int.mul_le_mul_of_nonneg_left p1 (show (0 : Int) ≤ p * x by omega)
      omega
    have pp : p ≤ 10 ^ 190 := by have := Int.mul_le_mul_of_nonneg_left x1 (show (0 : Int) ≤ p by omega); omega
    have xx : x ≤ 10 ^ 190 := by have := Int.mul_le_mul_of_nonneg_right hp (show (0 : Int) ≤ x by omega); omega
    obtain ⟨y2, e⟩ := product_loop A (x0 := x0) (s := s) xs (p * x) (.sh (.int x)) (fun y hy => h y (List.mem_cons_of_mem _ hy)) px hb
    have c1 : CMulG p x := mulG (by omega) (by omega) (by omega) (by omega)
    refine ⟨y2, ?_⟩
    show forL (O A).S _ _ (D.int x :: iD xs) _ s = _
    rw [forL_step rfl (by simp only [bd_product_of_0, mAug, runF, mSeq, seqS, mAsg, mBin, mUn, mVar, mC, mRet, mNext, mIfS, mTest, mTruth, mAnd, mOr, mNot, mAndV, mOrV, mNotV, mCl, mCons, mNil, mCall, mDrop, mDrI, mDrNe, mDrIx, mDrLen, mDrSet, mDrPop, drL, isDr0, toS, fName, R.lift, bind_ok, bind_err, bind_bad, eAdd, eSub, eMul, eDiv, eMod, ePow, eNeg, eLt, eLe, eGt, eGe, eEqI, eNeI, eEqS, eEqB, eNeB, eIdxL, eIdxT, eBool, eAbs, Bool.false_eq_true, dList, dTup, if_true, if_false, if_pos, List.map_cons, List.map_nil, List.length_cons, List.length_nil, List.replicate, List.cons_append, List.nil_append, List.getElem?_cons_zero, List.getElem?_cons_succ, List.set_cons_zero, List.set_cons_succ, Nat.reduceAdd, Nat.reduceSub, Nat.reduceLeDiff, Nat.reduceLT, Nat.reduceMul, Int.reduceToNat, Int.reduceEq, Int.reduceAdd, Int.reduceSub, Int.reduceNeg, Bool.not_true, Bool.not_false, decide_true, decide_false, reduceIte, Nat.reduceEqDiff, ite_true, ite_false, mIf, mLst, mSlice, mPart, mNoPart, mItS, mItL, mItT, asSeq, asList, asTup, mFor, mPar, mPass, mBrk, mCnt, mRetN, c1]; rfl), e]
theorem product_of_ok (A : Ad) {s : Dr} {xs : List Int} {d : D} (hd : isSq d xs) (h : ∀ x ∈ xs, 1 ≤ x) (hb : prodL xs ≤ 10 ^ 190) : m_product_of A [d] s = .ok (.int (prodL xs)) s := by
  obtain ⟨y2, e⟩ := product_loop A (x0 := .sh d) (s := s) xs 1 .no h (by decide) (by rw [Int.one_mul]; exact hb)
  have as := hd.as
  simp only [asSeq] at as
  rw [Int.one_mul] at e
  simp only [m_product_of, mb_product_of, runF, mSeq, seqS, mAsg, mBin, mUn, mVar, mC, mRet, mNext, mIfS, mTest, mTruth, mAnd, mOr, mNot, mAndV, mOrV, mNotV, mCl, mCons, mNil, mCall, mDrop, mDrI, mDrNe, mDrIx, mDrLen, mDrSet, mDrPop, drL, isDr0, toS, fName, R.lift, bind_ok, bind_err, bind_bad, eAdd, eSub, eMul, eDiv, eMod, ePow, eNeg, eLt, eLe, eGt, eGe, eEqI, eNeI, eEqS, eEqB, eNeB, eIdxL, eIdxT, eBool, eAbs, Bool.false_eq_true, dList, dTup, if_true, if_false, if_pos, List.map_cons, List.map_nil, List.length_cons, List.length_nil, List.replicate, List.cons_append, List.nil_append, List.getElem?_cons_zero, List.getElem?_cons_succ, List.set_cons_zero, List.set_cons_succ, Nat.reduceAdd, Nat.reduceSub, Nat.reduceLeDiff, Nat.reduceLT, Nat.reduceMul, Int.reduceToNat, Int.reduceEq, Int.reduceAdd, Int.reduceSub, Int.reduceNeg, Bool.not_true, Bool.not_false, decide_true, decide_false, reduceIte, Nat.reduceEqDiff, ite_true, ite_false, mIf, mLst, mSlice, mPart, mNoPart, mItS, mItL, mItT, asSeq, asList, asTup, mFor, mPar, mPass, mBrk, mCnt, mRetN, as, e]
end S

namespace S
open PySem PySem.Spec PyProof.Rows L2 RZ Mr
/-! ### a view is made -/
theorem toBools_map {α : Type} (f : α → Bool) : ∀ xs : List α, toBools (xs.map fun x => D.bl (f x)) = some (xs.map f)
  | [] => rfl
  | x :: xs => by simp only [List.map_cons, toBools, toBools_map f xs, Option.map_some]
theorem any_none {xs : List Int} (h : ∀ x ∈ xs, 1 ≤ x) : dAny [.lst (xs.map fun x => D.bl (decide (x < 1)))] = some (.bl false) := by
  simp only [dAny, toBools_map, Option.map_some]
  congr 2
  rw [List.any_map, List.any_eq_false]
  intro x hx
  have := h x hx
  simp
  omega
theorem sq2.one {d e : D} {xs ys : List Int} (h : sq2 d e xs ys) : isSq d xs ∧ isSq e ys := h
theorem lc_reason (A : Ad) {s : Dr} {xs : List Int} {d : D} (hd : isSq d xs) (hl : xs.length ≤ 1000) {x0 x2 x3 x4 x5 : Sl} : lc_view_reason_0 A [x0, .sh d, x2, x3, x4, x5] s = .ok (xs.map fun x => D.bl (decide (x < 1))) s := by
  have as := hd.as
  simp only [asSeq] at as
  simp only [lc_view_reason_0, mLc, wipeE, runF, mSeq, seqS, mAsg, mBin, mUn, mVar, mC, mRet, mNext, mIfS, mTest, mTruth, mAnd, mOr, mNot, mAndV, mOrV, mNotV, mCl, mCons, mNil, mCall, mDrop, mDrI, mDrNe, mDrIx, mDrLen, mDrSet, mDrPop, drL, isDr0, toS, fName, R.lift, bind_ok, bind_err, bind_bad, eAdd, eSub, eMul, eDiv, eMod, ePow, eNeg, eLt, eLe, eGt, eGe, eEqI, eNeI, eEqS, eEqB, eNeB, eIdxL, eIdxT, eBool, eAbs, Bool.false_eq_true, dList, dTup, if_true, if_false, if_pos, List.map_cons, List.map_nil, List.length_cons, List.length_nil, List.replicate, List.cons_append, List.nil_append, List.getElem?_cons_zero, List.getElem?_cons_succ, List.set_cons_zero, List.set_cons_succ, Nat.reduceAdd, Nat.reduceSub, Nat.reduceLeDiff, Nat.reduceLT, Nat.reduceMul, Int.reduceToNat, Int.reduceEq, Int.reduceAdd, Int.reduceSub, Int.reduceNeg, Bool.not_true, Bool.not_false, decide_true, decide_false, reduceIte, Nat.reduceEqDiff, ite_true, ite_false, mIf, mLst, mSlice, mPart, mNoPart, mItS, mItL, mItT, asSeq, asList, asTup, mFor, mPar, mPass, mBrk, mCnt, mRetN, as]
  rw [lcL_map (O := O A) (fun d => match d with | .int x => .bl (decide (x < 1)) | _ => .non) (iD xs) []
    (by
      intro y hy
      rw [List.mem_map] at hy
      obtain ⟨x, hx, rfl⟩ := hy
      exact ⟨_, rfl, rfl, by simp only [runF, mSeq, seqS, mAsg, mBin, mUn, mVar, mC, mRet, mNext, mIfS, mTest, mTruth, mAnd, mOr, mNot, mAndV, mOrV, mNotV, mCl, mCons, mNil, mCall, mDrop, mDrI, mDrNe, mDrIx, mDrLen, mDrSet, mDrPop, drL, isDr0, toS, fName, R.lift, bind_ok, bind_err, bind_bad, eAdd, eSub, eMul, eDiv, eMod, ePow, eNeg, eLt, eLe, eGt, eGe, eEqI, eNeI, eEqS, eEqB, eNeB, eIdxL, eIdxT, eBool, eAbs, Bool.false_eq_true, dList, dTup, if_true, if_false, if_pos, List.map_cons, List.map_nil, List.length_cons, List.length_nil, List.replicate, List.cons_append, List.nil_append, List.getElem?_cons_zero, List.getElem?_cons_succ, List.set_cons_zero, List.set_cons_succ, Nat.reduceAdd, Nat.reduceSub, Nat.reduceLeDiff, Nat.reduceLT, Nat.reduceMul, Int.reduceToNat, Int.reduceEq, Int.reduceAdd, Int.reduceSub, Int.reduceNeg, Bool.not_true, Bool.not_false, decide_true, decide_false, reduceIte, Nat.reduceEqDiff, ite_true, ite_false, mIf, mLst, mSlice, mPart, mNoPart, mItS, mItL, mItT, asSeq, asList, asTup, mFor, mPar, mPass, mBrk, mCnt, mRetN]⟩)
    (by simp; omega)]
  congr 1
  simp only [List.nil_append, iD, List.map_map]
  rfl
/-- parts of which a view is made; the stride of an axis of length 1 may be any -/
structure Vw0 (o : Int) (ax : Ax) : Prop where
  len : ax.length ≤ 4
  pos : ∀ a ∈ ax, 1 ≤ a.1
  prd : prodL (shp ax) ≤ 64
  low : 0 ≤ o + lowS ax
  high : o + highS ax ≤ 63
  str : ∀ a ∈ ax, -(10 ^ 60) < a.2 ∧ a.2 < 10 ^ 60
theorem Vw.v0 {c m o : Int} {ax : Ax} (h : Vw c m o ax) (hc : c ≤ 64) (hm : m ≤ 64) : Vw0 o ax := ⟨h.len, h.pos, by have := h.prd; omega, h.low, by have := h.high; omega, (h.bd hc).str⟩
theorem Vw0.bd {o : Int} {ax : Ax} (h : Vw0 o ax) : Bd ax := ⟨h.pos, h.str⟩
theorem Vw0.off {o : Int} {ax : Ax} (h : Vw0 o ax) : 0 ≤ o ∧ o < 64 := by
  have l := h.low
  have hh := h.high
  have := lowS_le ax
  have := highS_ge ax
  omega
theorem view_reason_ok (A : Ad) {s : Dr} {o : Int} {ax : Ax} {d e : D} (hd : sq2 d e (shp ax) (strd ax)) (hv : Vw0 o ax) : m_view_reason A [.int o, d, e] s = .ok .non s := by
  have l1 := hd.one.1.len
  have l2 := hd.one.2.len
  have el : (shp ax).length = ax.length := by simp [shp]
  have el2 : (strd ax).length = ax.length := by simp [strd]
  rw [el] at l1
  rw [el2] at l2
  have h4 : ¬ (4 : Int) < (ax.length : Int) := by have := hv.len; omega
  have lc := @lc_reason A s (shp ax) d hd.one.1 (by rw [el]; have := hv.len; omega)
  have pos : ∀ x ∈ shp ax, 1 ≤ x := hv.bd.shp
  have an := any_none pos
  have pr := product_of_ok A (s := s) hd.one.1 pos (by have := hv.prd; omega)
  have hp : ¬ (64 : Int) < prodL (shp ax) := by have := hv.prd; omega
  have ends := ends_of_ok A (s := s) (o := o) hd ⟨fun a ha => by
    have h1 := hv.pos a ha
    have : a.1 ≤ prodL (shp ax) := le_prod pos (List.mem_map_of_mem ha)
    have := hv.prd
    omega, hv.str, by have := hv.len; omega⟩
  have hlo : ¬ o + lowS ax < 0 := by have := hv.low; omega
  have hhi : ¬ (63 : Int) < o + highS ax := by have := hv.high; omega
  simp only [m_view_reason, mb_view_reason, f2_ok, k_AXES, k_ELEMENTS, k_LAST_CELL, dTruth, runF, mSeq, seqS, mAsg, mBin, mUn, mVar, mC, mRet, mNext, mIfS, mTest, mTruth, mAnd, mOr, mNot, mAndV, mOrV, mNotV, mCl, mCons, mNil, mCall, mDrop, mDrI, mDrNe, mDrIx, mDrLen, mDrSet, mDrPop, drL, isDr0, toS, fName, R.lift, bind_ok, bind_err, bind_bad, eAdd, eSub, eMul, eDiv, eMod, ePow, eNeg, eLt, eLe, eGt, eGe, eEqI, eNeI, eEqS, eEqB, eNeB, eIdxL, eIdxT, eBool, eAbs, Bool.false_eq_true, dList, dTup, if_true, if_false, if_pos, List.map_cons, List.map_nil, List.length_cons, List.length_nil, List.replicate, List.cons_append, List.nil_append, List.getElem?_cons_zero, List.getElem?_cons_succ, List.set_cons_zero, List.set_cons_succ, Nat.reduceAdd, Nat.reduceSub, Nat.reduceLeDiff, Nat.reduceLT, Nat.reduceMul, Int.reduceToNat, Int.reduceEq, Int.reduceAdd, Int.reduceSub, Int.reduceNeg, Bool.not_true, Bool.not_false, decide_true, decide_false, reduceIte, Nat.reduceEqDiff, ite_true, ite_false, mIf, mLst, mSlice, mPart, mNoPart, mItS, mItL, mItT, asSeq, asList, asTup, mFor, mPar, mPass, mBrk, mCnt, mRetN, l1, l2, h4, lc, an, pr, hp, ends, hlo, hhi]
where
  le_prod {xs : List Int} (h : ∀ x ∈ xs, 1 ≤ x) {y : Int} (hy : y ∈ xs) : y ≤ prodL xs := by
    induction xs with
    | nil => exact absurd hy List.not_mem_nil
    | cons x xs ih =>
      have p := prod_pos (xs := xs) fun z hz => h z (List.mem_cons_of_mem _ hz)
      have x1 := h x List.mem_cons_self
      unfold prodL
      rcases List.mem_cons.mp hy with rfl | hy
      · have := Int.mul_le_mul_of_nonneg_left p (show (0 : Int) ≤ y by omega)
        omega
      · have i := ih (fun z hz => h z (List.mem_cons_of_mem _ hz)) hy
        have := Int.mul_le_mul_of_nonneg_right x1 (show (0 : Int) ≤ prodL xs by omega)
        omega
def vFs (o : Int) (ax : Ax) : List (Str × D) := [("offset", .int o), ("shape", .tup (iD (shp ax))), ("strides", .tup (iD (strd ax)))]
def vD (A : Ad) (o : Int) (ax : Ax) : D := .ins A.v (vFs o ax)
theorem put2 (a b : D) : putD "shape" b [(("offset" : Str), a)] = [(("offset" : Str), a), (("shape" : Str), b)] := by
  have h : ¬ (("offset" : Str) = "shape") := by decide +kernel
  simp only [putD, if_neg h]
theorem put3 (a b c : D) : putD "strides" c [(("offset" : Str), a), (("shape" : Str), b)] = [(("offset" : Str), a), (("shape" : Str), b), (("strides" : Str), c)] := by
  have h : ¬ (("offset" : Str) = "strides") := by decide +kernel
  have h2 : ¬ (("shape" : Str) = "strides") := by decide +kernel
  simp only [putD, if_neg h, if_neg h2]
theorem tupOf_sq {d : D} {xs : List Int} (h : isSq d xs) : dTupOf [d] = some (.tup (iD xs)) := by rcases h with rfl | rfl <;> rfl
/-- the strides as they are kept -/
def nrm (ax : Ax) : Ax := ax.map fun a => if 1 < a.1 then a else (a.1, 0)
theorem nrm_shp (ax : Ax) : shp (nrm ax) = shp ax := by
  unfold shp nrm
  rw [List.map_map]
  refine List.map_congr_left fun a _ => ?_
  simp only [Function.comp]
  split <;> rfl
theorem nrm_id {ax : Ax} (h : ∀ a ∈ ax, 1 ≤ a.1) (h1 : ∀ a ∈ ax, a.1 = 1 → a.2 = 0) : nrm ax = ax := by
  unfold nrm
  conv => rhs; rw [← List.map_id ax]
  refine List.map_congr_left fun a ha => ?_
  split
  · rfl
  · have := h a ha
    have e : a.1 = 1 := by omega
    have e2 := h1 a ha e
    obtain ⟨x, y⟩ := a
    simp only at e e2
    subst e2
    rfl
theorem init0_ok (A : Ad) {s : Dr} {o : Int} {ax : Ax} {d e : D} (hd : sq2 d e (shp ax) (strd ax)) (hv : Vw0 o ax) : m_View_init A [.int o, d, e] s = .ok (vFs o (nrm ax)) s := by
  have vr := view_reason_ok A (s := s) hd hv
  have nn : dNotIs .non .non = some (.bl false) := rfl
  have t1 := tupOf_sq hd.one.1
  have lc : ∀ x0 x1 x4 x5 x6 : Sl, lc_View_init_0 A [x0, x1, .sh d, .sh e, x4, x5, x6] s = .ok (iD (strd (nrm ax))) s := by
    intro x0 x1 x4 x5 x6
    simp only [lc_View_init_0, mLc, wipeE, mItA, runF, mSeq, seqS, mAsg, mBin, mUn, mVar, mC, mRet, mNext, mIfS, mTest, mTruth, mAnd, mOr, mNot, mAndV, mOrV, mNotV, mCl, mCons, mNil, mCall, mDrop, mDrI, mDrNe, mDrIx, mDrLen, mDrSet, mDrPop, drL, isDr0, toS, fName, R.lift, bind_ok, bind_err, bind_bad, eAdd, eSub, eMul, eDiv, eMod, ePow, eNeg, eLt, eLe, eGt, eGe, eEqI, eNeI, eEqS, eEqB, eNeB, eIdxL, eIdxT, eBool, eAbs, Bool.false_eq_true, dList, dTup, if_true, if_false, if_pos, List.map_cons, List.map_nil, List.length_cons, List.length_nil, List.replicate, List.cons_append, List.nil_append, List.getElem?_cons_zero, List.getElem?_cons_succ, List.set_cons_zero, List.set_cons_succ, Nat.reduceAdd, Nat.reduceSub, Nat.reduceLeDiff, Nat.reduceLT, Nat.reduceMul, Int.reduceToNat, Int.reduceEq, Int.reduceAdd, Int.reduceSub, Int.reduceNeg, Bool.not_true, Bool.not_false, decide_true, decide_false, reduceIte, Nat.reduceEqDiff, ite_true, ite_false, mIf, mLst, mSlice, mPart, mNoPart, mItS, mItL, mItT, asSeq, asList, asTup, mFor, mPar, mPass, mBrk, mCnt, mRetN, hd.zip]
    rw [lcL_map (O := O A) (fun d => match d with | .tup [.int l, .int b] => .int (if 1 < l then b else 0) | _ => .non) (axD ax) []
      (by
        intro y hy
        unfold axD at hy
        rw [List.mem_map] at hy
        obtain ⟨a, ha, rfl⟩ := hy
        refine ⟨_, f2_ok _ _ _ _ _, rfl, ?_⟩
        by_cases h1 : 1 < a.1
        · simp only [runF, mSeq, seqS, mAsg, mBin, mUn, mVar, mC, mRet, mNext, mIfS, mTest, mTruth, mAnd, mOr, mNot, mAndV, mOrV, mNotV, mCl, mCons, mNil, mCall, mDrop, mDrI, mDrNe, mDrIx, mDrLen, mDrSet, mDrPop, drL, isDr0, toS, fName, R.lift, bind_ok, bind_err, bind_bad, eAdd, eSub, eMul, eDiv, eMod, ePow, eNeg, eLt, eLe, eGt, eGe, eEqI, eNeI, eEqS, eEqB, eNeB, eIdxL, eIdxT, eBool, eAbs, Bool.false_eq_true, dList, dTup, if_true, if_false, if_pos, List.map_cons, List.map_nil, List.length_cons, List.length_nil, List.replicate, List.cons_append, List.nil_append, List.getElem?_cons_zero, List.getElem?_cons_succ, List.set_cons_zero, List.set_cons_succ, Nat.reduceAdd, Nat.reduceSub, Nat.reduceLeDiff, Nat.reduceLT, Nat.reduceMul, Int.reduceToNat, Int.reduceEq, Int.reduceAdd, Int.reduceSub, Int.reduceNeg, Bool.not_true, Bool.not_false, decide_true, decide_false, reduceIte, Nat.reduceEqDiff, ite_true, ite_false, mIf, mLst, mSlice, mPart, mNoPart, mItS, mItL, mItT, asSeq, asList, asTup, mFor, mPar, mPass, mBrk, mCnt, mRetN, h1]
        · simp only [runF, mSeq, seqS, mAsg, mBin, mUn, mVar, mC, mRet, mNext, mIfS, mTest, mTruth, mAnd, mOr, mNot, mAndV, mOrV, mNotV, mCl, mCons, mNil, mCall, mDrop, mDrI, mDrNe, mDrIx, mDrLen, mDrSet, mDrPop, drL, isDr0, toS, fName, R.lift, bind_ok, bind_err, bind_bad, eAdd, eSub, eMul, eDiv, eMod, ePow, eNeg, eLt, eLe, eGt, eGe, eEqI, eNeI, eEqS, eEqB, eNeB, eIdxL, eIdxT, eBool, eAbs, Bool.false_eq_true, dList, dTup, if_true, if_false, if_pos, List.map_cons, List.map_nil, List.length_cons, List.length_nil, List.replicate, List.cons_append, List.nil_append, List.getElem?_cons_zero, List.getElem?_cons_succ, List.set_cons_zero, List.set_cons_succ, Nat.reduceAdd, Nat.reduceSub, Nat.reduceLeDiff, Nat.reduceLT, Nat.reduceMul, Int.reduceToNat, Int.reduceEq, Int.reduceAdd, Int.reduceSub, Int.reduceNeg, Bool.not_true, Bool.not_false, decide_true, decide_false, reduceIte, Nat.reduceEqDiff, ite_true, ite_false, mIf, mLst, mSlice, mPart, mNoPart, mItS, mItL, mItT, asSeq, asList, asTup, mFor, mPar, mPass, mBrk, mCnt, mRetN, h1])
      (by have := hv.len; simp [axD]; omega)]
    congr 1
    simp only [List.nil_append, iD, axD, strd, nrm, List.map_map]
    refine List.map_congr_left fun a _ => ?_
    simp only [Function.comp]
    split <;> rfl
  have t2 : dTupOf [.lst (iD (strd (nrm ax)))] = some (.tup (iD (strd (nrm ax)))) := rfl
  have p1 : putD "offset" (.int o) [] = [(("offset" : Str), D.int o)] := rfl
  simp only [m_View_init, runI, mb_View_init, mSetF, runF, mSeq, seqS, mAsg, mBin, mUn, mVar, mC, mRet, mNext, mIfS, mTest, mTruth, mAnd, mOr, mNot, mAndV, mOrV, mNotV, mCl, mCons, mNil, mCall, mDrop, mDrI, mDrNe, mDrIx, mDrLen, mDrSet, mDrPop, drL, isDr0, toS, fName, R.lift, bind_ok, bind_err, bind_bad, eAdd, eSub, eMul, eDiv, eMod, ePow, eNeg, eLt, eLe, eGt, eGe, eEqI, eNeI, eEqS, eEqB, eNeB, eIdxL, eIdxT, eBool, eAbs, Bool.false_eq_true, dList, dTup, if_true, if_false, if_pos, List.map_cons, List.map_nil, List.length_cons, List.length_nil, List.replicate, List.cons_append, List.nil_append, List.getElem?_cons_zero, List.getElem?_cons_succ, List.set_cons_zero, List.set_cons_succ, Nat.reduceAdd, Nat.reduceSub, Nat.reduceLeDiff, Nat.reduceLT, Nat.reduceMul, Int.reduceToNat, Int.reduceEq, Int.reduceAdd, Int.reduceSub, Int.reduceNeg, Bool.not_true, Bool.not_false, decide_true, decide_false, reduceIte, Nat.reduceEqDiff, ite_true, ite_false, mIf, mLst, mSlice, mPart, mNoPart, mItS, mItL, mItT, asSeq, asList, asTup, mFor, mPar, mPass, mBrk, mCnt, mRetN, vr, nn, t1, t2, lc, p1, put2, put3, and_self]
  unfold vFs
  rw [nrm_shp]
theorem init_ok (A : Ad) {s : Dr} {o : Int} {ax : Ax} {d e : D} (hd : sq2 d e (shp ax) (strd ax)) (hv : Vw 64 64 o ax) : m_View_init A [.int o, d, e] s = .ok (vFs o ax) s := by
  have := init0_ok A (s := s) hd (hv.v0 (by decide) (by decide))
  rw [nrm_id hv.pos hv.one] at this
  exact this
theorem fld_ok (A : Ad) {m : ME (O A)} {ρ : Ev} {s s' : Dr} {o : Int} {ax : Ax} (h : m ρ s = .ok (vD A o ax) s') : mFld (O A) A.v "offset" m ρ s = .ok (.int o) s' ∧ mFld (O A) A.v "shape" m ρ s = .ok (.tup (iD (shp ax))) s' ∧ mFld (O A) A.v "strides" m ρ s = .ok (.tup (iD (strd ax))) s' := by
  have l1 : List.lookup ("offset" : Str) (vFs o ax) = some (.int o) := by simp [vFs, List.lookup]
  have l2 : List.lookup ("shape" : Str) (vFs o ax) = some (.tup (iD (shp ax))) := by
    have h : (("shape" : Str) == "offset") = false := by decide +kernel
    simp [vFs, List.lookup, h]
  have l3 : List.lookup ("strides" : Str) (vFs o ax) = some (.tup (iD (strd ax))) := by
    have h : (("strides" : Str) == "offset") = false := by decide +kernel
    have h2 : (("strides" : Str) == "shape") = false := by decide +kernel
    simp [vFs, List.lookup, h, h2]
  unfold mFld
  rw [h]
  simp only [bind_ok, vD, if_true, l1, l2, l3, R.lift, and_self]
theorem meth_ok (A : Ad) {x : Str} {n : Nat} {f : List D → Dr → R Dr D} {m : ME (O A)} {ρ : Ev} {s s' : Dr} {o : Int} {ax : Ax} (h : m ρ s = .ok (vD A o ax) s') (hx : (List.lookup x (vFs o ax)).isNone = true) : mMeth (O A) A.v x 1 f m (mNil (O A)) ρ s = f [vD A o ax] s' := by
  unfold mMeth
  rw [h]
  simp only [bind_ok, vD, hx, and_self, if_true, mNil, List.length_nil]
theorem no_cells (o : Int) (ax : Ax) : (List.lookup ("cells" : Str) (vFs o ax)).isNone = true := by
  have h1 : (("cells" : Str) == "offset") = false := by decide +kernel
  have h2 : (("cells" : Str) == "shape") = false := by decide +kernel
  have h3 : (("cells" : Str) == "strides") = false := by decide +kernel
  simp [vFs, List.lookup, h1, h2, h3]
theorem view_cells_ok (A : Ad) {s : Dr} {o : Int} {ax : Ax} (hv : Vw 64 64 o ax) : m_View_cells A [vD A o ax] s = .ok (.lst (iD (cellsL o ax))) s := by
  obtain ⟨f1, f2, f3⟩ := fld_ok A (m := mVar (O A) 0) (ρ := [.sh (vD A o ax)]) (s := s) (s' := s) (o := o) (ax := ax) (by simp only [runF, mSeq, seqS, mAsg, mBin, mUn, mVar, mC, mRet, mNext, mIfS, mTest, mTruth, mAnd, mOr, mNot, mAndV, mOrV, mNotV, mCl, mCons, mNil, mCall, mDrop, mDrI, mDrNe, mDrIx, mDrLen, mDrSet, mDrPop, drL, isDr0, toS, fName, R.lift, bind_ok, bind_err, bind_bad, eAdd, eSub, eMul, eDiv, eMod, ePow, eNeg, eLt, eLe, eGt, eGe, eEqI, eNeI, eEqS, eEqB, eNeB, eIdxL, eIdxT, eBool, eAbs, Bool.false_eq_true, dList, dTup, if_true, if_false, if_pos, List.map_cons, List.map_nil, List.length_cons, List.length_nil, List.replicate, List.cons_append, List.nil_append, List.getElem?_cons_zero, List.getElem?_cons_succ, List.set_cons_zero, List.set_cons_succ, Nat.reduceAdd, Nat.reduceSub, Nat.reduceLeDiff, Nat.reduceLT, Nat.reduceMul, Int.reduceToNat, Int.reduceEq, Int.reduceAdd, Int.reduceSub, Int.reduceNeg, Bool.not_true, Bool.not_false, decide_true, decide_false, reduceIte, Nat.reduceEqDiff, ite_true, ite_false, mIf, mLst, mSlice, mPart, mNoPart, mItS, mItL, mItT, asSeq, asList, asTup, mFor, mPar, mPass, mBrk, mCnt, mRetN])
  have ob := hv.off (by decide)
  have c := cells_of_ok A (s := s) (o := o) (ax := ax) ⟨.inr rfl, .inr rfl⟩ (hv.bd (by decide)) hv.prd (by have := hv.len; omega) (by omega) (by omega)
  simp only [m_View_cells, mb_View_cells, runF, mSeq, seqS, mAsg, mBin, mUn, mVar, mC, mRet, mNext, mIfS, mTest, mTruth, mAnd, mOr, mNot, mAndV, mOrV, mNotV, mCl, mCons, mNil, mCall, mDrop, mDrI, mDrNe, mDrIx, mDrLen, mDrSet, mDrPop, drL, isDr0, toS, fName, R.lift, bind_ok, bind_err, bind_bad, eAdd, eSub, eMul, eDiv, eMod, ePow, eNeg, eLt, eLe, eGt, eGe, eEqI, eNeI, eEqS, eEqB, eNeB, eIdxL, eIdxT, eBool, eAbs, Bool.false_eq_true, dList, dTup, if_true, if_false, if_pos, List.map_cons, List.map_nil, List.length_cons, List.length_nil, List.replicate, List.cons_append, List.nil_append, List.getElem?_cons_zero, List.getElem?_cons_succ, List.set_cons_zero, List.set_cons_succ, Nat.reduceAdd, Nat.reduceSub, Nat.reduceLeDiff, Nat.reduceLT, Nat.reduceMul, Int.reduceToNat, Int.reduceEq, Int.reduceAdd, Int.reduceSub, Int.reduceNeg, Bool.not_true, Bool.not_false, decide_true, decide_false, reduceIte, Nat.reduceEqDiff, ite_true, ite_false, mIf, mLst, mSlice, mPart, mNoPart, mItS, mItL, mItT, asSeq, asList, asTup, mFor, mPar, mPass, mBrk, mCnt, mRetN, f1, f2, f3, c]
theorem law_view0_ok (A : Ad) {s : Dr} {o : Int} {ax : Ax} (hv : Vw0 o ax) : m_law_view A [ptD o ax] s = .ok (vD A o (nrm ax)) s := by
  have i := init0_ok A (s := s) (o := o) (ax := ax) (d := .tup (iD (shp ax))) (e := .tup (iD (strd ax))) ⟨.inr rfl, .inr rfl⟩ hv
  have a2 : ∀ (a b c : D), L2.atI [a, b, c] 2 = some c := fun _ _ _ => rfl
  simp only [m_law_view, mb_law_view, mMake, ptD, runF, mSeq, seqS, mAsg, mBin, mUn, mVar, mC, mRet, mNext, mIfS, mTest, mTruth, mAnd, mOr, mNot, mAndV, mOrV, mNotV, mCl, mCons, mNil, mCall, mDrop, mDrI, mDrNe, mDrIx, mDrLen, mDrSet, mDrPop, drL, isDr0, toS, fName, R.lift, bind_ok, bind_err, bind_bad, eAdd, eSub, eMul, eDiv, eMod, ePow, eNeg, eLt, eLe, eGt, eGe, eEqI, eNeI, eEqS, eEqB, eNeB, eIdxL, eIdxT, eBool, eAbs, Bool.false_eq_true, dList, dTup, if_true, if_false, if_pos, List.map_cons, List.map_nil, List.length_cons, List.length_nil, List.replicate, List.cons_append, List.nil_append, List.getElem?_cons_zero, List.getElem?_cons_succ, List.set_cons_zero, List.set_cons_succ, Nat.reduceAdd, Nat.reduceSub, Nat.reduceLeDiff, Nat.reduceLT, Nat.reduceMul, Int.reduceToNat, Int.reduceEq, Int.reduceAdd, Int.reduceSub, Int.reduceNeg, Bool.not_true, Bool.not_false, decide_true, decide_false, reduceIte, Nat.reduceEqDiff, ite_true, ite_false, mIf, mLst, mSlice, mPart, mNoPart, mItS, mItL, mItT, asSeq, asList, asTup, mFor, mPar, mPass, mBrk, mCnt, mRetN, at0, at1, a2, i, vD]
/-- an axis of length 1 has any stride -/
theorem cells_nrm : ∀ (ax : Ax) (cs : List Int), (∀ a ∈ ax, 1 ≤ a.1) → cellsF (nrm ax) cs = cellsF ax cs
  | [], cs, _ => rfl
  | a :: ax, cs, h => by
    have a1 := h a List.mem_cons_self
    show cellsF (nrm ax) _ = cellsF ax _
    rw [cells_nrm ax _ fun b hb => h b (List.mem_cons_of_mem _ hb)]
    congr 1
    by_cases h1 : 1 < a.1
    · simp only [if_pos h1]
    · have e : a.1 = 1 := by omega
      have r : rng 1 = [0] := rfl
      dsimp only
      rw [if_neg h1]
      simp only [e, r, List.map_cons, List.map_nil, Int.zero_mul]
theorem Vw0.nrm {o : Int} {ax : Ax} (h : Vw0 o ax) : Vw 64 64 o (S.nrm ax) := by
  have mem : ∀ a ∈ S.nrm ax, ∃ b ∈ ax, a = if 1 < b.1 then b else (b.1, 0) := by
    intro a ha
    unfold S.nrm at ha
    rw [List.mem_map] at ha
    obtain ⟨b, hb, rfl⟩ := ha
    exact ⟨b, hb, rfl⟩
  have ends : ∀ ax : Ax, (∀ a ∈ ax, 1 ≤ a.1) → lowS (S.nrm ax) = lowS ax ∧ highS (S.nrm ax) = highS ax := by
    intro ax hp
    induction ax with
    | nil => exact ⟨rfl, rfl⟩
    | cons a ax ih =>
      obtain ⟨i1, i2⟩ := ih fun b hb => hp b (List.mem_cons_of_mem _ hb)
      have a1 := hp a List.mem_cons_self
      have e : S.nrm (a :: ax) = (if 1 < a.1 then a else (a.1, 0)) :: S.nrm ax := rfl
      rw [e]
      simp only [lowS, highS, i1, i2]
      by_cases h1 : 1 < a.1
      · rw [if_pos h1]; exact ⟨rfl, rfl⟩
      · rw [if_neg h1]
        have e1 : a.1 = 1 := by omega
        simp [e1]
  obtain ⟨e1, e2⟩ := ends ax h.pos
  refine ⟨by unfold S.nrm; rw [List.length_map]; exact h.len, fun a ha => ?_, fun a ha h1 => ?_, by rw [nrm_shp]; exact h.prd, by rw [e1]; exact h.low, by rw [e2]; exact h.high⟩
  · obtain ⟨b, hb, rfl⟩ := mem a ha
    have := h.pos b hb
    split <;> exact this
  · obtain ⟨b, hb, rfl⟩ := mem a ha
    by_cases hb1 : 1 < b.1
    · rw [if_pos hb1] at h1; omega
    · rw [if_neg hb1]
theorem law_view_ok (A : Ad) {s : Dr} {o : Int} {ax : Ax} (hv : Vw 64 64 o ax) : m_law_view A [ptD o ax] s = .ok (vD A o ax) s := by
  have i := init_ok A (s := s) (o := o) (ax := ax) (d := .tup (iD (shp ax))) (e := .tup (iD (strd ax))) ⟨.inr rfl, .inr rfl⟩ hv
  have a2 : ∀ (a b c : D), L2.atI [a, b, c] 2 = some c := fun _ _ _ => rfl
  simp only [m_law_view, mb_law_view, mMake, ptD, runF, mSeq, seqS, mAsg, mBin, mUn, mVar, mC, mRet, mNext, mIfS, mTest, mTruth, mAnd, mOr, mNot, mAndV, mOrV, mNotV, mCl, mCons, mNil, mCall, mDrop, mDrI, mDrNe, mDrIx, mDrLen, mDrSet, mDrPop, drL, isDr0, toS, fName, R.lift, bind_ok, bind_err, bind_bad, eAdd, eSub, eMul, eDiv, eMod, ePow, eNeg, eLt, eLe, eGt, eGe, eEqI, eNeI, eEqS, eEqB, eNeB, eIdxL, eIdxT, eBool, eAbs, Bool.false_eq_true, dList, dTup, if_true, if_false, if_pos, List.map_cons, List.map_nil, List.length_cons, List.length_nil, List.replicate, List.cons_append, List.nil_append, List.getElem?_cons_zero, List.getElem?_cons_succ, List.set_cons_zero, List.set_cons_succ, Nat.reduceAdd, Nat.reduceSub, Nat.reduceLeDiff, Nat.reduceLT, Nat.reduceMul, Int.reduceToNat, Int.reduceEq, Int.reduceAdd, Int.reduceSub, Int.reduceNeg, Bool.not_true, Bool.not_false, decide_true, decide_false, reduceIte, Nat.reduceEqDiff, ite_true, ite_false, mIf, mLst, mSlice, mPart, mNoPart, mItS, mItL, mItT, asSeq, asList, asTup, mFor, mPar, mPass, mBrk, mCnt, mRetN, at0, at1, a2, i, vD]
/-! ### drawn parts -/
theorem lowS_snoc (ax : Ax) (a : Int × Int) : lowS (ax ++ [a]) = lowS ax + neg0 ((a.1 - 1) * a.2) := by
  induction ax with
  | nil => simp [lowS]
  | cons b ax ih => simp only [List.cons_append, lowS, ih]; omega
theorem highS_snoc (ax : Ax) (a : Int × Int) : highS (ax ++ [a]) = highS ax + pos0 ((a.1 - 1) * a.2) := by
  induction ax with
  | nil => simp [highS]
  | cons b ax ih => simp only [List.cons_append, highS, ih]; omega
theorem prod_snoc (xs : List Int) (x : Int) : prodL (xs ++ [x]) = prodL xs * x := by
  induction xs with
  | nil => simp [prodL]
  | cons y xs ih => simp only [List.cons_append, prodL, ih, Int.mul_assoc]
/-- what the loop of _law_parts keeps -/
structure Pt (cells most : Int) (ax : Ax) (room left below : Int) : Prop where
  pos : ∀ a ∈ ax, 1 ≤ a.1
  one : ∀ a ∈ ax, a.1 = 1 → a.2 = 0
  rm : 1 ≤ room
  prd : prodL (shp ax) * room ≤ most
  lf : left = cells - 1 - (highS ax - lowS ax)
  lf0 : 0 ≤ left
  bl : below = -lowS ax
theorem Pt.step {cells most room left below l reach st : Int} {ax : Ax} (h : Pt cells most ax room left below) (l0 : 1 ≤ l) (l1 : l ≤ room) (hr : reach = if 1 < l then left.fdiv (l - 1) else 0) (s0 : -reach ≤ st) (s1 : st ≤ reach) :
    Pt cells most (ax ++ [(l, st)]) (room.fdiv l) (left - (if st < 0 then -st else st) * (l - 1)) (if st < 0 then below - st * (l - 1) else below) := by
  have fd : ∀ x y : Int, 0 < y → y * x.fdiv y ≤ x ∧ x < y * x.fdiv y + y := fun x y hy => by
    have e := Int.fmod_def x y
    have m0 := Int.fmod_nonneg_of_pos x hy
    have m1 := Int.fmod_lt_of_pos x hy
    omega
  have fr := fd room l (by omega)
  have r1 : 1 ≤ room.fdiv l := by
    by_cases z : 1 ≤ room.fdiv l
    · exact z
    · exfalso
      have : l * room.fdiv l ≤ 0 := by
        have := Int.mul_le_mul_of_nonneg_left (show room.fdiv l ≤ 0 by omega) (show (0 : Int) ≤ l by omega)
        simpa using this
      omega
  have pp := prod_pos (xs := shp ax) (by intro x hx; unfold shp at hx; rw [List.mem_map] at hx; obtain ⟨a, ha, rfl⟩ := hx; exact h.pos a ha)
  have key : (if st < 0 then -st else st) * (l - 1) ≤ left ∧ (l = 1 → st = 0) := by
    by_cases hl : 1 < l
    · rw [if_pos hl] at hr
      have f := fd left (l - 1) (by omega)
      rw [← hr] at f
      refine ⟨?_, fun z => by omega⟩
      have : (if st < 0 then -st else st) ≤ reach := by split <;> omega
      have := Int.mul_le_mul_of_nonneg_right this (show (0 : Int) ≤ l - 1 by omega)
      rw [Int.mul_comm reach] at this
      omega
    · rw [if_neg hl] at hr
      have : st = 0 := by omega
      subst this
      simp
      exact h.lf0
  have abs : (if st < 0 then -st else st) * (l - 1) = pos0 ((l - 1) * st) - neg0 ((l - 1) * st) := by
    unfold pos0 neg0
    by_cases hs : st < 0
    · rw [if_pos hs]
      have : (l - 1) * st ≤ 0 := by
        have := Int.mul_le_mul_of_nonneg_left (show st ≤ 0 by omega) (show (0 : Int) ≤ l - 1 by omega)
        simpa using this
      rw [Int.neg_mul, Int.mul_comm st]
      split <;> split <;> omega
    · rw [if_neg hs]
      have : 0 ≤ (l - 1) * st := Int.mul_nonneg (by omega) (by omega)
      rw [Int.mul_comm st]
      split <;> split <;> omega
  refine ⟨fun a ha => ?_, fun a ha => ?_, r1, ?_, ?_, by omega, ?_⟩
  · rcases List.mem_append.mp ha with q | q
    · exact h.pos a q
    · rw [List.mem_singleton] at q; subst q; exact l0
  · rcases List.mem_append.mp ha with q | q
    · exact h.one a q
    · rw [List.mem_singleton] at q; subst q; exact key.2
  · have e : shp (ax ++ [(l, st)]) = shp ax ++ [l] := by simp [shp]
    rw [e, prod_snoc, Int.mul_assoc]
    have := Int.mul_le_mul_of_nonneg_left fr.1 (show (0 : Int) ≤ prodL (shp ax) by omega)
    have := h.prd
    omega
  · rw [highS_snoc, lowS_snoc, abs]
    have := h.lf
    dsimp only
    omega
  · rw [lowS_snoc]
    have := h.bl
    dsimp only
    unfold neg0
    by_cases hs : st < 0
    · rw [if_pos hs]
      have : (l - 1) * st ≤ 0 := by
        have := Int.mul_le_mul_of_nonneg_left (show st ≤ 0 by omega) (show (0 : Int) ≤ l - 1 by omega)
        simpa using this
      rw [Int.mul_comm st]
      split <;> omega
    · rw [if_neg hs]
      have : 0 ≤ (l - 1) * st := Int.mul_nonneg (by omega) (by omega)
      rw [if_neg (by omega)]
      omega
theorem parts_step (A : Ad) {cells most room left below b : Int} {ax : Ax} {s : Dr} {x1 x2 x8 x9 x10 x11 : Sl} (h : Pt cells most ax room left below) (hl : ax.length ≤ 1000) (hm : most ≤ 64) (hc : cells ≤ 64) (ok : Ok b s) (hb : b + 3 ≤ 1000000) :
    ∃ ax' room' left' below' y9 y10 y11 s', bd_law_parts_0 A [.sh (.ref A.d), x1, x2, .own (iD (shp ax)), .own (iD (strd ax)), .sh (.int room), .sh (.int left), .sh (.int below), x8, x9, x10, x11] s = .nx [.sh (.ref A.d), x1, x2, .own (iD (shp ax')), .own (iD (strd ax')), .sh (.int room'), .sh (.int left'), .sh (.int below'), x8, y9, y10, y11] s' ∧
      Pt cells most ax' room' left' below' ∧ ax'.length = ax.length + 1 ∧ Ok (b + 3) s' := by
  have pp := prod_pos (xs := shp ax) (by intro x hx; unfold shp at hx; rw [List.mem_map] at hx; obtain ⟨a, ha, rfl⟩ := hx; exact h.pos a ha)
  have r64 : room ≤ 64 := by
    have := Int.mul_le_mul_of_nonneg_right pp (show (0 : Int) ≤ room by have := h.rm; omega)
    have := h.prd
    omega
  have lf : left ≤ 64 := by have := h.lf; have := lowS_le ax; have := highS_ge ax; omega
  have hroom := h.rm
  have hleft := h.lf0
  obtain ⟨t, s1, e1, t0, t1, k1⟩ := take_ok A (n := 4) ok (by omega) (by decide) (by decide)
  obtain ⟨y, ey, hy⟩ := atI_ok (xs := [D.int 2, .int 4, .int 8, .int 64]) (i := t) t0 (by simpa using t1)
  have hy2 : ∃ r : Int, y = .int r ∧ 2 ≤ r ∧ r ≤ 64 := by
    simp only [List.mem_cons, List.not_mem_nil, or_false] at hy
    rcases hy with rfl | rfl | rfl | rfl <;> exact ⟨_, rfl, by decide, by decide⟩
  obtain ⟨n, rfl, n0, n1⟩ := hy2
  have hmin : 1 ≤ (if n < room then n else room) ∧ (if n < room then n else room) ≤ room := by split <;> omega
  obtain ⟨u, s2, e2, u0, u1, k2⟩ := take_ok A (n := if n < room then n else room) k1 (by omega) hmin.1 (by omega)
  have lb : 1 ≤ 1 + u ∧ 1 + u ≤ room := by omega
  have dlen : (iD (shp ax)).length < 100000 := by simp [shp]; omega
  have dlen2 : (iD (strd ax)).length < 100000 := by simp [strd]; omega
  have d1 : CDivG room (1 + u) := divG (by omega) (by omega) (by omega)
  by_cases hl1 : 1 < 1 + u
  · have d2 : CDivG left (1 + u - 1) := divG (by omega) (by omega) (by omega)
    have rb : 0 ≤ left.fdiv (1 + u - 1) ∧ left.fdiv (1 + u - 1) ≤ 64 := by
      refine ⟨Int.fdiv_nonneg hleft (by omega), ?_⟩
      have e := Int.fmod_def left (1 + u - 1)
      have m0 := Int.fmod_nonneg_of_pos left (show (0 : Int) < 1 + u - 1 by omega)
      have z := Int.fdiv_nonneg hleft (show (0 : Int) ≤ 1 + u - 1 by omega)
      have := Int.mul_le_mul_of_nonneg_right (show (1 : Int) ≤ 1 + u - 1 by omega) z
      omega
    obtain ⟨v, s3, e3, v0, v1, k3⟩ := take_ok A (n := 2 * left.fdiv (1 + u - 1) + 1) k2 (by omega) (by omega) (by omega)
    have c1 : CMulG 2 (left.fdiv (1 + u - 1)) := mulG (by decide) (by decide) (by omega) (by omega)
    have st := h.step (l := 1 + u) (reach := left.fdiv (1 + u - 1)) (st := v - left.fdiv (1 + u - 1)) lb.1 lb.2 (by rw [if_pos hl1]) (by omega) (by omega)
    by_cases hs : v - left.fdiv (1 + u - 1) < 0
    · rw [if_pos hs, if_pos hs] at st
      have c2 : CMulG (-(v - left.fdiv (1 + u - 1))) (1 + u - 1) := mulG (by omega) (by omega) (by omega) (by omega)
      have c3 : CMulG (v - left.fdiv (1 + u - 1)) (1 + u - 1) := mulG (by omega) (by omega) (by omega) (by omega)
      refine ⟨_, _, _, _, .sh (.int (1 + u)), .sh (.int (left.fdiv (1 + u - 1))), .sh (.int (v - left.fdiv (1 + u - 1))), s3, ?_, st, by simp, k3.mono (by omega)⟩
      simp only [bd_law_parts_0, mAppend, dMin2, dI2, runF, mSeq, seqS, mAsg, mBin, mUn, mVar, mC, mRet, mNext, mIfS, mTest, mTruth, mAnd, mOr, mNot, mAndV, mOrV, mNotV, mCl, mCons, mNil, mCall, mDrop, mDrI, mDrNe, mDrIx, mDrLen, mDrSet, mDrPop, drL, isDr0, toS, fName, R.lift, bind_ok, bind_err, bind_bad, eAdd, eSub, eMul, eDiv, eMod, ePow, eNeg, eLt, eLe, eGt, eGe, eEqI, eNeI, eEqS, eEqB, eNeB, eIdxL, eIdxT, eBool, eAbs, Bool.false_eq_true, dList, dTup, if_true, if_false, if_pos, List.map_cons, List.map_nil, List.length_cons, List.length_nil, List.replicate, List.cons_append, List.nil_append, List.getElem?_cons_zero, List.getElem?_cons_succ, List.set_cons_zero, List.set_cons_succ, Nat.reduceAdd, Nat.reduceSub, Nat.reduceLeDiff, Nat.reduceLT, Nat.reduceMul, Int.reduceToNat, Int.reduceEq, Int.reduceAdd, Int.reduceSub, Int.reduceNeg, Bool.not_true, Bool.not_false, decide_true, decide_false, reduceIte, Nat.reduceEqDiff, ite_true, ite_false, mIf, mLst, mSlice, mPart, mNoPart, mItS, mItL, mItT, asSeq, asList, asTup, mFor, mPar, mPass, mBrk, mCnt, mRetN, e1, ey, e2, e3, hl1, d1, d2, c1, hs, c2, c3, dlen, dlen2]
      simp [shp, strd, iD]
    · rw [if_neg hs, if_neg hs] at st
      have c2 : CMulG (v - left.fdiv (1 + u - 1)) (1 + u - 1) := mulG (by omega) (by omega) (by omega) (by omega)
      refine ⟨_, _, _, _, .sh (.int (1 + u)), .sh (.int (left.fdiv (1 + u - 1))), .sh (.int (v - left.fdiv (1 + u - 1))), s3, ?_, st, by simp, k3.mono (by omega)⟩
      simp only [bd_law_parts_0, mAppend, dMin2, dI2, runF, mSeq, seqS, mAsg, mBin, mUn, mVar, mC, mRet, mNext, mIfS, mTest, mTruth, mAnd, mOr, mNot, mAndV, mOrV, mNotV, mCl, mCons, mNil, mCall, mDrop, mDrI, mDrNe, mDrIx, mDrLen, mDrSet, mDrPop, drL, isDr0, toS, fName, R.lift, bind_ok, bind_err, bind_bad, eAdd, eSub, eMul, eDiv, eMod, ePow, eNeg, eLt, eLe, eGt, eGe, eEqI, eNeI, eEqS, eEqB, eNeB, eIdxL, eIdxT, eBool, eAbs, Bool.false_eq_true, dList, dTup, if_true, if_false, if_pos, List.map_cons, List.map_nil, List.length_cons, List.length_nil, List.replicate, List.cons_append, List.nil_append, List.getElem?_cons_zero, List.getElem?_cons_succ, List.set_cons_zero, List.set_cons_succ, Nat.reduceAdd, Nat.reduceSub, Nat.reduceLeDiff, Nat.reduceLT, Nat.reduceMul, Int.reduceToNat, Int.reduceEq, Int.reduceAdd, Int.reduceSub, Int.reduceNeg, Bool.not_true, Bool.not_false, decide_true, decide_false, reduceIte, Nat.reduceEqDiff, ite_true, ite_false, mIf, mLst, mSlice, mPart, mNoPart, mItS, mItL, mItT, asSeq, asList, asTup, mFor, mPar, mPass, mBrk, mCnt, mRetN, e1, ey, e2, e3, hl1, d1, d2, c1, hs, c2, dlen, dlen2]
      simp [shp, strd, iD]
  · obtain ⟨v, s3, e3, v0, v1, k3⟩ := take_ok A (n := 2 * 0 + 1) k2 (by omega) (by decide) (by decide)
    have c1 : CMulG 2 0 := by decide
    have hv : v = 0 := by omega
    subst hv
    have st := h.step (l := 1 + u) (reach := 0) (st := 0 - 0) lb.1 lb.2 (by rw [if_neg hl1]) (by decide) (by decide)
    have hs : ¬ ((0 : Int) - 0 < 0) := by decide
    rw [if_neg hs, if_neg hs] at st
    have c2 : CMulG 0 (1 + u - 1) := mulG (by decide) (by decide) (by omega) (by omega)
    have hs2 : ¬ ((0 : Int) < 0) := by decide
    refine ⟨_, _, _, _, .sh (.int (1 + u)), .sh (.int 0), .sh (.int (0 - 0)), s3, ?_, st, by simp, k3.mono (by omega)⟩
    simp only [bd_law_parts_0, mAppend, dMin2, dI2, runF, mSeq, seqS, mAsg, mBin, mUn, mVar, mC, mRet, mNext, mIfS, mTest, mTruth, mAnd, mOr, mNot, mAndV, mOrV, mNotV, mCl, mCons, mNil, mCall, mDrop, mDrI, mDrNe, mDrIx, mDrLen, mDrSet, mDrPop, drL, isDr0, toS, fName, R.lift, bind_ok, bind_err, bind_bad, eAdd, eSub, eMul, eDiv, eMod, ePow, eNeg, eLt, eLe, eGt, eGe, eEqI, eNeI, eEqS, eEqB, eNeB, eIdxL, eIdxT, eBool, eAbs, Bool.false_eq_true, dList, dTup, if_true, if_false, if_pos, List.map_cons, List.map_nil, List.length_cons, List.length_nil, List.replicate, List.cons_append, List.nil_append, List.getElem?_cons_zero, List.getElem?_cons_succ, List.set_cons_zero, List.set_cons_succ, Nat.reduceAdd, Nat.reduceSub, Nat.reduceLeDiff, Nat.reduceLT, Nat.reduceMul, Int.reduceToNat, Int.reduceEq, Int.reduceAdd, Int.reduceSub, Int.reduceNeg, Bool.not_true, Bool.not_false, decide_true, decide_false, reduceIte, Nat.reduceEqDiff, ite_true, ite_false, mIf, mLst, mSlice, mPart, mNoPart, mItS, mItL, mItT, asSeq, asList, asTup, mFor, mPar, mPass, mBrk, mCnt, mRetN, e1, ey, e2, e3, hl1, d1, c1, hs2, c2, dlen, dlen2]
    simp [shp, strd, iD]
theorem law_parts_ok (A : Ad) {cells most b : Int} {s : Dr} (hc0 : 1 ≤ cells) (hc : cells ≤ 64) (hm0 : 1 ≤ most) (hm : most ≤ 64) (ok : Ok b s) (hb : b + 14 ≤ 1000000) :
    ∃ o ax s', m_law_parts A [.ref A.d, .int cells, .int most] s = .ok (ptD o ax) s' ∧ Vw cells most o ax ∧ Ok (b + 14) s' := by
  obtain ⟨t, s1, e1, t0, t1, k1⟩ := take_ok A (n := 5) ok (by omega) (by decide) (by decide)
  obtain ⟨ρ', s2, e2, ax, room, left, below, y8, y9, y10, y11, rfl, hp, hl, k2⟩ := forL_nx (O := O A) (f := fName 8) (mb := bd_law_parts_0 A) t.toNat
    (fun i ρ s => ∃ ax room left below y8 y9 y10 y11, ρ = [.sh (.ref A.d), .sh (.int cells), .sh (.int most), .own (iD (shp ax)), .own (iD (strd ax)), .sh (.int room), .sh (.int left), .sh (.int below), y8, y9, y10, y11] ∧ Pt cells most ax room left below ∧ ax.length = i ∧ Ok (b + 1 + 3 * i) s)
    (by
      rintro i d ρ s hi ⟨ax, room, left, below, y8, y9, y10, y11, rfl, hp, hl, k⟩
      obtain ⟨ax', room', left', below', z9, z10, z11, s', e, hp', hl', k'⟩ := parts_step A (x1 := .sh (.int cells)) (x2 := .sh (.int most)) (x8 := .sh d) (x9 := y9) (x10 := y10) (x11 := y11) hp (by omega) hm hc k (by omega)
      exact ⟨_, rfl, nx_of e ⟨ax', room', left', below', _, z9, z10, z11, rfl, hp', by omega, k'.mono (by omega)⟩⟩)
    (iD (rng t)) (by simp [rng_len]) [.sh (.ref A.d), .sh (.int cells), .sh (.int most), .own [], .own [], .sh (.int most), .sh (.int (cells - 1)), .sh (.int 0), .no, .no, .no, .no] s1
    ⟨[], most, cells - 1, 0, .no, .no, .no, .no, rfl, ⟨by simp, by simp, hm0, by simp [prodL, shp], by simp [highS, lowS], by omega, by simp [lowS]⟩, rfl, k1.mono (by omega)⟩
  obtain ⟨u, s3, e3, u0, u1, k3⟩ := take_ok A (n := left + 1) k2 (by omega) (by have := hp.lf0; omega) (by have := hp.lf; have := lowS_le ax; have := highS_ge ax; omega)
  have e0 := rng1_ok (A := A) (ma := mCons (O A) (mCall (O A) 2 (m_law_take A) (mCons (O A) (mVar (O A) 0) (mCons (O A) (mC (O A) (.int 5)) (mNil (O A))))) (mNil (O A))) (ρ := [.sh (.ref A.d), .sh (.int cells), .sh (.int most), .own [], .own [], .sh (.int most), .sh (.int (cells - 1)), .sh (.int 0), .no, .no, .no, .no]) (s := s) (s' := s1) (l := t) (by simp only [runF, mSeq, seqS, mAsg, mBin, mUn, mVar, mC, mRet, mNext, mIfS, mTest, mTruth, mAnd, mOr, mNot, mAndV, mOrV, mNotV, mCl, mCons, mNil, mCall, mDrop, mDrI, mDrNe, mDrIx, mDrLen, mDrSet, mDrPop, drL, isDr0, toS, fName, R.lift, bind_ok, bind_err, bind_bad, eAdd, eSub, eMul, eDiv, eMod, ePow, eNeg, eLt, eLe, eGt, eGe, eEqI, eNeI, eEqS, eEqB, eNeB, eIdxL, eIdxT, eBool, eAbs, Bool.false_eq_true, dList, dTup, if_true, if_false, if_pos, List.map_cons, List.map_nil, List.length_cons, List.length_nil, List.replicate, List.cons_append, List.nil_append, List.getElem?_cons_zero, List.getElem?_cons_succ, List.set_cons_zero, List.set_cons_succ, Nat.reduceAdd, Nat.reduceSub, Nat.reduceLeDiff, Nat.reduceLT, Nat.reduceMul, Int.reduceToNat, Int.reduceEq, Int.reduceAdd, Int.reduceSub, Int.reduceNeg, Bool.not_true, Bool.not_false, decide_true, decide_false, reduceIte, Nat.reduceEqDiff, ite_true, ite_false, mIf, mLst, mSlice, mPart, mNoPart, mItS, mItL, mItT, asSeq, asList, asTup, mFor, mPar, mPass, mBrk, mCnt, mRetN, e1]) (by omega) (by omega)
  have to1 : dTupOf [.lst (iD (shp ax))] = some (.tup (iD (shp ax))) := rfl
  have to2 : dTupOf [.lst (iD (strd ax))] = some (.tup (iD (strd ax))) := rfl
  have pp := hp.prd
  have hr := hp.rm
  have pos := prod_pos (xs := shp ax) (by intro x hx; unfold shp at hx; rw [List.mem_map] at hx; obtain ⟨a, ha, rfl⟩ := hx; exact hp.pos a ha)
  have := Int.mul_le_mul_of_nonneg_left hr (show (0 : Int) ≤ prodL (shp ax) by omega)
  refine ⟨below + u, ax, s3, ?_, ⟨by omega, hp.pos, hp.one, by omega, by have := hp.bl; omega, by have := hp.bl; have := hp.lf; omega⟩, k3.mono (by omega)⟩
  simp only [m_law_parts, mb_law_parts, mOwn, mDisp, listMax, mFrz, runF, mSeq, seqS, mAsg, mBin, mUn, mVar, mC, mRet, mNext, mIfS, mTest, mTruth, mAnd, mOr, mNot, mAndV, mOrV, mNotV, mCl, mCons, mNil, mCall, mDrop, mDrI, mDrNe, mDrIx, mDrLen, mDrSet, mDrPop, drL, isDr0, toS, fName, R.lift, bind_ok, bind_err, bind_bad, eAdd, eSub, eMul, eDiv, eMod, ePow, eNeg, eLt, eLe, eGt, eGe, eEqI, eNeI, eEqS, eEqB, eNeB, eIdxL, eIdxT, eBool, eAbs, Bool.false_eq_true, dList, dTup, if_true, if_false, if_pos, List.map_cons, List.map_nil, List.length_cons, List.length_nil, List.replicate, List.cons_append, List.nil_append, List.getElem?_cons_zero, List.getElem?_cons_succ, List.set_cons_zero, List.set_cons_succ, Nat.reduceAdd, Nat.reduceSub, Nat.reduceLeDiff, Nat.reduceLT, Nat.reduceMul, Int.reduceToNat, Int.reduceEq, Int.reduceAdd, Int.reduceSub, Int.reduceNeg, Bool.not_true, Bool.not_false, decide_true, decide_false, reduceIte, Nat.reduceEqDiff, ite_true, ite_false, mIf, mLst, mSlice, mPart, mNoPart, mItS, mItL, mItT, asSeq, asList, asTup, mFor, mPar, mPass, mBrk, mCnt, mRetN, e0, e2, frzE, e3, to1, to2]
  rfl
end S

namespace S
open PySem PySem.Spec PyProof.Rows L2 RZ Mr
/-! ### the index of a number -/
def idxR : List Int → Int → List Int → List Int
  | [], _, acc => acc
  | l :: ls, n, acc => idxR ls (n.fdiv l) (n.fmod l :: acc)
def idxOf (sh : List Int) (n : Int) : List Int := idxR sh.reverse n []
theorem idx_loop (A : Ad) {x0 : Sl} {s : Dr} : ∀ (ls : List Int) (n : Int) (acc : List Int) (x3 : Sl), (∀ l ∈ ls, 1 ≤ l ∧ l ≤ 64) → acc.length + ls.length ≤ 1000 →
    ∃ n' y3, forL (O A).S (fName 3) (bd_index_of_0 A) (iD ls) [x0, .sh (.int n), .sh (tD acc), x3] s = .nx [x0, n', .sh (tD (idxR ls n acc)), y3] s
  | [], n, acc, x3, _, _ => ⟨_, x3, rfl⟩
  | l :: ls, n, acc, x3, h, hl => by
    rw [List.length_cons] at hl
    have lb := h l List.mem_cons_self
    obtain ⟨n', y3, e⟩ := idx_loop A (x0 := x0) (s := s) ls (n.fdiv l) (n.fmod l :: acc) (.sh (.int l)) (fun x hx => h x (List.mem_cons_of_mem _ hx)) (by simp; omega)
    have c1 : CModG n l := modG (by omega)
    have c2 : CDivG n l := divG (by omega) (by omega) (by omega)
    have ad : dAdd (.tup [.int (n.fmod l)]) (tD acc) = some (tD (n.fmod l :: acc)) := by
      simp only [dAdd, tD, iD, List.length_map, List.length_cons, List.length_nil]
      rw [if_pos (by omega)]
      rfl
    refine ⟨n', y3, ?_⟩
    show forL (O A).S _ _ (D.int l :: iD ls) _ s = _
    rw [forL_step rfl (by simp only [bd_index_of_0, runF, mSeq, seqS, mAsg, mBin, mUn, mVar, mC, mRet, mNext, mIfS, mTest, mTruth, mAnd, mOr, mNot, mAndV, mOrV, mNotV, mCl, mCons, mNil, mCall, mDrop, mDrI, mDrNe, mDrIx, mDrLen, mDrSet, mDrPop, drL, isDr0, toS, fName, R.lift, bind_ok, bind_err, bind_bad, eAdd, eSub, eMul, eDiv, eMod, ePow, eNeg, eLt, eLe, eGt, eGe, eEqI, eNeI, eEqS, eEqB, eNeB, eIdxL, eIdxT, eBool, eAbs, Bool.false_eq_true, dList, dTup, if_true, if_false, if_pos, List.map_cons, List.map_nil, List.length_cons, List.length_nil, List.replicate, List.cons_append, List.nil_append, List.getElem?_cons_zero, List.getElem?_cons_succ, List.set_cons_zero, List.set_cons_succ, Nat.reduceAdd, Nat.reduceSub, Nat.reduceLeDiff, Nat.reduceLT, Nat.reduceMul, Int.reduceToNat, Int.reduceEq, Int.reduceAdd, Int.reduceSub, Int.reduceNeg, Bool.not_true, Bool.not_false, decide_true, decide_false, reduceIte, Nat.reduceEqDiff, ite_true, ite_false, mIf, mLst, mSlice, mPart, mNoPart, mItS, mItL, mItT, asSeq, asList, asTup, mFor, mPar, mPass, mBrk, mCnt, mRetN, c1, c2, ad]; rfl), e]
    rfl
theorem index_of_ok (A : Ad) {s : Dr} {sh : List Int} {n : Int} (h : ∀ l ∈ sh, 1 ≤ l ∧ l ≤ 64) (hl : sh.length ≤ 100) : m_index_of A [.tup (iD sh), .int n] s = .ok (tD (idxOf sh n)) s := by
  obtain ⟨n', y3, e⟩ := idx_loop A (x0 := .sh (.tup (iD sh))) (s := s) sh.reverse n [] .no (fun l hm => h l (List.mem_reverse.mp hm)) (by simp; omega)
  have rv : dRevS (.tup (iD sh)) = some (.tup (iD sh.reverse)) := by simp only [dRevS, iD, List.map_reverse]
  simp only [tD, iD, List.map_nil] at e rv
  simp only [m_index_of, mb_index_of, iD, runF, mSeq, seqS, mAsg, mBin, mUn, mVar, mC, mRet, mNext, mIfS, mTest, mTruth, mAnd, mOr, mNot, mAndV, mOrV, mNotV, mCl, mCons, mNil, mCall, mDrop, mDrI, mDrNe, mDrIx, mDrLen, mDrSet, mDrPop, drL, isDr0, toS, fName, R.lift, bind_ok, bind_err, bind_bad, eAdd, eSub, eMul, eDiv, eMod, ePow, eNeg, eLt, eLe, eGt, eGe, eEqI, eNeI, eEqS, eEqB, eNeB, eIdxL, eIdxT, eBool, eAbs, Bool.false_eq_true, dList, dTup, if_true, if_false, if_pos, List.map_cons, List.map_nil, List.length_cons, List.length_nil, List.replicate, List.cons_append, List.nil_append, List.getElem?_cons_zero, List.getElem?_cons_succ, List.set_cons_zero, List.set_cons_succ, Nat.reduceAdd, Nat.reduceSub, Nat.reduceLeDiff, Nat.reduceLT, Nat.reduceMul, Int.reduceToNat, Int.reduceEq, Int.reduceAdd, Int.reduceSub, Int.reduceNeg, Bool.not_true, Bool.not_false, decide_true, decide_false, reduceIte, Nat.reduceEqDiff, ite_true, ite_false, mIf, mLst, mSlice, mPart, mNoPart, mItS, mItL, mItT, asSeq, asList, asTup, mFor, mPar, mPass, mBrk, mCnt, mRetN, rv, e]
  rfl
theorem idxR_acc : ∀ (ls : List Int) (n : Int) (acc : List Int), idxR ls n acc = idxR ls n [] ++ acc
  | [], n, acc => rfl
  | l :: ls, n, acc => by
    unfold idxR
    rw [idxR_acc ls _ (n.fmod l :: acc), idxR_acc ls _ [n.fmod l]]
    simp
theorem idxOf_snoc (sh : List Int) (l n : Int) : idxOf (sh ++ [l]) n = idxOf sh (n.fdiv l) ++ [n.fmod l] := by
  unfold idxOf
  rw [List.reverse_append]
  show idxR sh.reverse (n.fdiv l) [n.fmod l] = _
  rw [idxR_acc]
theorem indsF_snoc (l : Int) : ∀ (sh : List Int) (is : List (List Int)), indsF (sh ++ [l]) is = (indsF sh is).flatMap fun i => (rng l).map fun k => i ++ [k]
  | [], is => rfl
  | x :: sh, is => by
    show indsF (sh ++ [l]) _ = _
    rw [indsF_snoc l sh]
    rfl
theorem flat_get {α β : Type} (l : Int) (hl : 1 ≤ l) (f : α → Int → β) : ∀ (xs : List α) (n : Nat), n < xs.length * l.toNat → (xs.flatMap fun x => (rng l).map (f x))[n]? = (xs[n / l.toNat]?).map fun x => f x ((n % l.toNat : Nat) : Int)
  | [], n, h => by simp at h
  | x :: xs, n, h => by
    have L0 : 0 < l.toNat := by omega
    rw [List.length_cons, Nat.add_mul] at h
    rw [List.flatMap_cons]
    by_cases hn : n < l.toNat
    · rw [List.getElem?_append_left (by rw [List.length_map, rng_len]; exact hn), Nat.div_eq_of_lt hn, Nat.mod_eq_of_lt hn]
      unfold rng
      rw [List.getElem?_map, List.getElem?_map, List.getElem?_range hn]
      rfl
    · rw [List.getElem?_append_right (by rw [List.length_map, rng_len]; omega), List.length_map, rng_len, flat_get l hl f xs (n - l.toNat) (by omega)]
      have e1 : n / l.toNat = (n - l.toNat) / l.toNat + 1 := by
        rw [Nat.div_eq_sub_div L0 (by omega)]
      have e2 : n % l.toNat = (n - l.toNat) % l.toNat := by
        rw [Nat.mod_eq_sub_mod (by omega)]
      rw [e1, e2]
      rfl
theorem snoc_ind {P : List Int → Prop} (h0 : P []) (h1 : ∀ xs x, P xs → P (xs ++ [x])) : ∀ xs, P xs := by
  intro xs
  have : ∀ n (xs : List Int), xs.length = n → P xs := by
    intro n
    induction n with
    | zero => intro xs h; rw [List.length_eq_zero_iff.mp h]; exact h0
    | succ n ih =>
      intro xs h
      have hne : xs ≠ [] := by intro e; rw [e] at h; cases h
      rw [← List.dropLast_concat_getLast hne]
      exact h1 _ _ (ih _ (by rw [List.length_dropLast]; omega))
  exact this _ xs rfl
theorem inds_len : ∀ sh : List Int, (∀ l ∈ sh, 1 ≤ l) → ((indsL sh).length : Int) = prodL sh := by
  refine snoc_ind (by intro _; rfl) ?_
  intro sh l ih h
  have := ih fun x hx => h x (List.mem_append_left _ hx)
  have l1 := h l (by simp)
  unfold indsL at this ⊢
  rw [indsF_snoc, flat_len _ _ l.toNat (fun i _ => by rw [List.length_map, rng_len]), prod_snoc, Int.natCast_mul, this, Int.toNat_of_nonneg (by omega)]
theorem inds_get : ∀ sh : List Int, (∀ l ∈ sh, 1 ≤ l) → ∀ n : Nat, n < (indsL sh).length → (indsL sh)[n]? = some (idxOf sh n) := by
  refine snoc_ind ?_ ?_
  · intro _ n hn
    have : n = 0 := by simpa [indsL, indsF] using hn
    subst this
    rfl
  · intro sh l ih h n hn
    have ih := ih fun x hx => h x (List.mem_append_left _ hx)
    have l1 := h l (by simp)
    have L0 : 0 < l.toNat := by omega
    unfold indsL at ih hn ⊢
    rw [indsF_snoc, flat_len _ _ l.toNat (fun i _ => by rw [List.length_map, rng_len])] at hn
    rw [indsF_snoc, flat_get l l1 (fun i k => i ++ [k]) _ n hn, ih (n / l.toNat) (Nat.div_lt_of_lt_mul (by rw [Nat.mul_comm]; exact hn)), idxOf_snoc]
    have e0 : ((l.toNat : Nat) : Int) = l := Int.toNat_of_nonneg (by omega)
    have e1 : (n : Int).fdiv l = ((n / l.toNat : Nat) : Int) := by
      rw [Int.fdiv_eq_ediv_of_nonneg _ (by omega), ← e0, ← Int.natCast_ediv]
      simp
    have e2 : (n : Int).fmod l = ((n % l.toNat : Nat) : Int) := by
      rw [Int.fmod_eq_emod_of_nonneg _ (by omega), ← e0, ← Int.natCast_emod]
      simp
    rw [e1, e2]
    rfl
theorem inds_eq {sh : List Int} (h : ∀ l ∈ sh, 1 ≤ l) {N : Nat} (hN : (N : Int) = prodL sh) : indsL sh = (List.range N).map fun (n : Nat) => idxOf sh n := by
  have hl := inds_len sh h
  have hl' : (indsL sh).length = N := by omega
  refine List.ext_getElem? fun n => ?_
  by_cases hn : n < N
  · rw [inds_get sh h n (by omega), List.getElem?_map, List.getElem?_range hn]
    rfl
  · rw [List.getElem?_eq_none (by omega), List.getElem?_eq_none (by simp; omega)]
theorem cellsF_len : ∀ (ax : Ax) (cs : List Int), (∀ a ∈ ax, 1 ≤ a.1) → ((cellsF ax cs).length : Int) = cs.length * prodL (shp ax)
  | [], cs, _ => by simp [cellsF, prodL, shp]
  | a :: ax, cs, h => by
    show ((cellsF ax _).length : Int) = _
    have a1 := h a List.mem_cons_self
    rw [cellsF_len ax _ (fun b hb => h b (List.mem_cons_of_mem _ hb)), cells_step_len, Int.natCast_mul, Int.toNat_of_nonneg (by omega), Int.mul_assoc]
    rfl
theorem cellsL_len {o : Int} {ax : Ax} (h : ∀ a ∈ ax, 1 ≤ a.1) : ((cellsL o ax).length : Int) = prodL (shp ax) := by
  unfold cellsL
  rw [cellsF_len ax _ h]
  simp
/-- indices beside cells -/
theorem zip_inds {sh cs : List Int} (h : ∀ l ∈ sh, 1 ≤ l) (hl : (cs.length : Int) = prodL sh) : zipD ((indsL sh).map tD) (iD cs) = cs.zipIdx.map fun p => .tup [tD (idxOf sh p.2), .int p.1] := by
  rw [inds_eq h hl]
  unfold zipD iD
  refine List.ext_getElem? fun n => ?_
  rw [List.getElem?_map, List.getElem?_map, List.zip, List.getElem?_zipWith, List.getElem?_map, List.getElem?_map, List.getElem?_map, List.getElem?_zipIdx]
  by_cases hn : n < cs.length
  · rw [List.getElem?_range hn, List.getElem?_eq_getElem hn]
    simp
  · rw [List.getElem?_eq_none (l := List.range cs.length) (by simp; omega), List.getElem?_eq_none (l := cs) (by omega)]
    rfl
theorem enum_cells (cs : List Int) : enumD (iD cs) = cs.zipIdx.map fun p => D.tup [.int (p.2 : Int), .int p.1] := by
  unfold enumD iD
  rw [List.zipIdx_map, List.map_map]
  rfl
/-! ### in, index -/
theorem toVs_ints : ∀ cs : List Int, toVs (iD cs) = some (cs.map V.int)
  | [] => rfl
  | c :: cs => by
    have := toVs_ints cs
    unfold iD at this ⊢
    simp only [List.map_cons, toVs, toV, this]
theorem in_ints (c : Int) (cs : List Int) : dIn (.int c) (.lst (iD cs)) = some (.bl (decide (c ∈ cs))) ∧ dNotIn (.int c) (.lst (iD cs)) = some (.bl (!decide (c ∈ cs))) := by
  have e : dInB (.int c) (.lst (iD cs)) = some (decide (c ∈ cs)) := by
    simp only [dInB, toV, toVs_ints]
    congr 1
    rw [Bool.eq_iff_iff]
    simp [inV, eqV]
  unfold dIn dNotIn
  rw [e]
  exact ⟨rfl, rfl⟩
theorem toPs_ints : ∀ cs : List Int, toPs (iD cs) = some (cs.map PyData.int)
  | [] => by simp [toPs, iD]
  | c :: cs => by
    have := toPs_ints cs
    unfold iD at this ⊢
    simp only [List.map_cons, toPs, toP, this]
theorem index_ints (c : Int) (cs : List Int) : dIndex (.lst (iD cs)) (.int c) = (cs.findIdx? fun x => decide (x = c)).map fun (j : Nat) => D.int (j : Int) := by
  have sh := shaped_ints cs
  have s2 : SeqAt.shaped (.int c) = true := rfl
  simp only [dIndex, toPs_ints, toP]
  rw [if_pos ⟨sh, s2⟩, List.findIdx?_map]
  congr 2
/-! ### the first elements -/
theorem valP_snoc {β : Type} (kvs : List (Key × β)) (k k' : Key) (v : β) : valP (kvs ++ [(k, v)]) k' = (valP kvs k').or (if k = k' then some v else none) := by
  unfold valP
  rw [List.find?_append]
  cases h : List.find? (fun kv => decide (kv.1 = k')) kvs with
  | some z => rfl
  | none =>
    simp only [Option.none_or, Option.map_none, List.find?_cons, List.find?_nil]
    split
    · rename_i hk
      rw [if_pos (by simpa using hk)]
      rfl
    · rename_i hk
      rw [if_neg (by simpa using hk)]
      rfl
theorem valP_any {β : Type} {kvs : List (Key × β)} {k : Key} (h : valP kvs k = none) : (kvs.any fun kv => decide (kv.1 = k)) = false := by
  unfold valP at h
  rw [Option.map_eq_none_iff, List.find?_eq_none] at h
  rw [List.any_eq_false]
  exact h
/-- the dict of the first places of cells -/
def Fst (kds : List (Key × D)) (cs : List Int) : Prop := (∀ c : Int, valP kds (.inl c) = (cs.findIdx? fun x => decide (x = c)).map fun (j : Nat) => D.int (j : Int)) ∧ kds.length ≤ cs.length
theorem Fst.step {kds : List (Key × D)} {cs : List Int} (h : Fst kds cs) (c : Int) : Fst (if (valP kds (.inl c)).isSome = true then kds else putP kds (.inl c) (.int (cs.length : Int))) (cs ++ [c]) := by
  by_cases hs : (valP kds (.inl c)).isSome = true
  · rw [if_pos hs]
    refine ⟨fun c' => ?_, by rw [List.length_append]; have := h.2; omega⟩
    rw [h.1 c', List.findIdx?_append]
    cases e : cs.findIdx? fun x => decide (x = c') with
    | some j => rfl
    | none =>
      by_cases hc : c = c'
      · subst hc
        rw [h.1 c, e] at hs
        cases hs
      · simp [hc]
  · rw [if_neg hs]
    have hn : valP kds (.inl c) = none := by simpa using hs
    have hp : putP kds (.inl c) (.int (cs.length : Int)) = kds ++ [(.inl c, .int (cs.length : Int))] := by
      unfold putP
      rw [valP_any hn]
      rfl
    rw [hp]
    refine ⟨fun c' => ?_, by rw [List.length_append, List.length_append]; have := h.2; simp; omega⟩
    rw [valP_snoc, h.1 c', List.findIdx?_append]
    cases e : cs.findIdx? fun x => decide (x = c') with
    | some j => rfl
    | none =>
      by_cases hc : c = c'
      · subst hc
        simp
      · simp [hc]
theorem first_loop (A : Ad) {x0 : Sl} {s : Dr} : ∀ (cs pre : List Int) (kds : List (Key × D)) (x2 x3 : Sl), Fst kds pre → pre.length + cs.length ≤ 1000 →
    ∃ kds' y2 y3, forL (O A).S (fTup 2 (fCons (fName 2) (fCons (fName 3) fNil))) (bd_first_elements_0 A) ((cs.zipIdx pre.length).map fun p => D.tup [.int (p.2 : Int), .int p.1]) [x0, .ownD kds, x2, x3] s = .nx [x0, .ownD kds', y2, y3] s ∧ Fst kds' (pre ++ cs)
  | [], pre, kds, x2, x3, h, _ => ⟨kds, x2, x3, rfl, by simpa using h⟩
  | c :: cs, pre, kds, x2, x3, h, hl => by
    rw [List.length_cons] at hl
    obtain ⟨kds', y2, y3, e, hf⟩ := first_loop A (x0 := x0) (s := s) cs (pre ++ [c]) _ (.sh (.int (pre.length : Int))) (.sh (.int c)) (h.step c) (by simp; omega)
    have kl : kds.length < 100000 := by have := h.2; omega
    refine ⟨kds', y2, y3, ?_, by simpa using hf⟩
    have step : bd_first_elements_0 A [x0, .ownD kds, .sh (.int (pre.length : Int)), .sh (.int c)] s = .nx [x0, .ownD (if (valP kds (.inl c)).isSome = true then kds else putP kds (.inl c) (.int (pre.length : Int))), .sh (.int (pre.length : Int)), .sh (.int c)] s := by
      by_cases hs : (valP kds (.inl c)).isSome = true
      · simp only [bd_first_elements_0, mSetd, toKey, runF, mSeq, seqS, mAsg, mBin, mUn, mVar, mC, mRet, mNext, mIfS, mTest, mTruth, mAnd, mOr, mNot, mAndV, mOrV, mNotV, mCl, mCons, mNil, mCall, mDrop, mDrI, mDrNe, mDrIx, mDrLen, mDrSet, mDrPop, drL, isDr0, toS, fName, R.lift, bind_ok, bind_err, bind_bad, eAdd, eSub, eMul, eDiv, eMod, ePow, eNeg, eLt, eLe, eGt, eGe, eEqI, eNeI, eEqS, eEqB, eNeB, eIdxL, eIdxT, eBool, eAbs, Bool.false_eq_true, dList, dTup, if_true, if_false, if_pos, List.map_cons, List.map_nil, List.length_cons, List.length_nil, List.replicate, List.cons_append, List.nil_append, List.getElem?_cons_zero, List.getElem?_cons_succ, List.set_cons_zero, List.set_cons_succ, Nat.reduceAdd, Nat.reduceSub, Nat.reduceLeDiff, Nat.reduceLT, Nat.reduceMul, Int.reduceToNat, Int.reduceEq, Int.reduceAdd, Int.reduceSub, Int.reduceNeg, Bool.not_true, Bool.not_false, decide_true, decide_false, reduceIte, Nat.reduceEqDiff, ite_true, ite_false, mIf, mLst, mSlice, mPart, mNoPart, mItS, mItL, mItT, asSeq, asList, asTup, mFor, mPar, mPass, mBrk, mCnt, mRetN, kl, hs]
      · simp only [bd_first_elements_0, mSetd, toKey, runF, mSeq, seqS, mAsg, mBin, mUn, mVar, mC, mRet, mNext, mIfS, mTest, mTruth, mAnd, mOr, mNot, mAndV, mOrV, mNotV, mCl, mCons, mNil, mCall, mDrop, mDrI, mDrNe, mDrIx, mDrLen, mDrSet, mDrPop, drL, isDr0, toS, fName, R.lift, bind_ok, bind_err, bind_bad, eAdd, eSub, eMul, eDiv, eMod, ePow, eNeg, eLt, eLe, eGt, eGe, eEqI, eNeI, eEqS, eEqB, eNeB, eIdxL, eIdxT, eBool, eAbs, Bool.false_eq_true, dList, dTup, if_true, if_false, if_pos, List.map_cons, List.map_nil, List.length_cons, List.length_nil, List.replicate, List.cons_append, List.nil_append, List.getElem?_cons_zero, List.getElem?_cons_succ, List.set_cons_zero, List.set_cons_succ, Nat.reduceAdd, Nat.reduceSub, Nat.reduceLeDiff, Nat.reduceLT, Nat.reduceMul, Int.reduceToNat, Int.reduceEq, Int.reduceAdd, Int.reduceSub, Int.reduceNeg, Bool.not_true, Bool.not_false, decide_true, decide_false, reduceIte, Nat.reduceEqDiff, ite_true, ite_false, mIf, mLst, mSlice, mPart, mNoPart, mItS, mItL, mItT, asSeq, asList, asTup, mFor, mPar, mPass, mBrk, mCnt, mRetN, kl, hs]
    rw [List.length_append] at e
    rw [List.zipIdx_cons, List.map_cons, forL_step (f2_ok _ _ _ _ _) step]
    exact e
theorem first_ok (A : Ad) {s : Dr} {o : Int} {ax : Ax} (hv : Vw 64 64 o ax) : ∃ kds, m_first_elements A [vD A o ax] s = .ok (.dct kds) s ∧ Fst kds (cellsL o ax) := by
  have hl := cellsL_len (o := o) hv.pos
  have hp := hv.prd
  obtain ⟨kds, y2, y3, e, hf⟩ := first_loop A (x0 := .sh (vD A o ax)) (s := s) (cellsL o ax) [] [] .no .no ⟨fun c => rfl, Nat.le_refl _⟩ (by simp; omega)
  have c := meth_ok A (x := "cells") (n := 1) (f := m_View_cells A) (m := mVar (O A) 0) (ρ := [.sh (vD A o ax), .ownD [], .no, .no]) (s := s) (s' := s) (o := o) (ax := ax) (by simp only [runF, mSeq, seqS, mAsg, mBin, mUn, mVar, mC, mRet, mNext, mIfS, mTest, mTruth, mAnd, mOr, mNot, mAndV, mOrV, mNotV, mCl, mCons, mNil, mCall, mDrop, mDrI, mDrNe, mDrIx, mDrLen, mDrSet, mDrPop, drL, isDr0, toS, fName, R.lift, bind_ok, bind_err, bind_bad, eAdd, eSub, eMul, eDiv, eMod, ePow, eNeg, eLt, eLe, eGt, eGe, eEqI, eNeI, eEqS, eEqB, eNeB, eIdxL, eIdxT, eBool, eAbs, Bool.false_eq_true, dList, dTup, if_true, if_false, if_pos, List.map_cons, List.map_nil, List.length_cons, List.length_nil, List.replicate, List.cons_append, List.nil_append, List.getElem?_cons_zero, List.getElem?_cons_succ, List.set_cons_zero, List.set_cons_succ, Nat.reduceAdd, Nat.reduceSub, Nat.reduceLeDiff, Nat.reduceLT, Nat.reduceMul, Int.reduceToNat, Int.reduceEq, Int.reduceAdd, Int.reduceSub, Int.reduceNeg, Bool.not_true, Bool.not_false, decide_true, decide_false, reduceIte, Nat.reduceEqDiff, ite_true, ite_false, mIf, mLst, mSlice, mPart, mNoPart, mItS, mItL, mItT, asSeq, asList, asTup, mFor, mPar, mPass, mBrk, mCnt, mRetN]) (no_cells o ax)
  rw [view_cells_ok A hv] at c
  have en : dEnum [.lst (iD (cellsL o ax))] = some (enumD (iD (cellsL o ax))) := rfl
  rw [enum_cells] at en
  simp only [List.length_nil] at e
  refine ⟨kds, ?_, by simpa using hf⟩
  simp only [m_first_elements, mb_first_elements, mOwnD0, mItA, mFrzD, runF, mSeq, seqS, mAsg, mBin, mUn, mVar, mC, mRet, mNext, mIfS, mTest, mTruth, mAnd, mOr, mNot, mAndV, mOrV, mNotV, mCl, mCons, mNil, mCall, mDrop, mDrI, mDrNe, mDrIx, mDrLen, mDrSet, mDrPop, drL, isDr0, toS, fName, R.lift, bind_ok, bind_err, bind_bad, eAdd, eSub, eMul, eDiv, eMod, ePow, eNeg, eLt, eLe, eGt, eGe, eEqI, eNeI, eEqS, eEqB, eNeB, eIdxL, eIdxT, eBool, eAbs, Bool.false_eq_true, dList, dTup, if_true, if_false, if_pos, List.map_cons, List.map_nil, List.length_cons, List.length_nil, List.replicate, List.cons_append, List.nil_append, List.getElem?_cons_zero, List.getElem?_cons_succ, List.set_cons_zero, List.set_cons_succ, Nat.reduceAdd, Nat.reduceSub, Nat.reduceLeDiff, Nat.reduceLT, Nat.reduceMul, Int.reduceToNat, Int.reduceEq, Int.reduceAdd, Int.reduceSub, Int.reduceNeg, Bool.not_true, Bool.not_false, decide_true, decide_false, reduceIte, Nat.reduceEqDiff, ite_true, ite_false, mIf, mLst, mSlice, mPart, mNoPart, mItS, mItL, mItT, asSeq, asList, asTup, mFor, mPar, mPass, mBrk, mCnt, mRetN, c, en, e, frzDE]
end S

namespace S
open PySem PySem.Spec PyProof.Rows L2 RZ Mr
theorem Vw.mono {c m c' m' o : Int} {ax : Ax} (h : Vw c m o ax) (hc : c ≤ c') (hm : m ≤ m') : Vw c' m' o ax := ⟨h.len, h.pos, h.one, Int.le_trans h.prd hm, h.low, by have := h.high; omega⟩
theorem Vw.shp {c m o : Int} {ax : Ax} (h : Vw c m o ax) (hm : m ≤ 64) : ∀ l ∈ shp ax, 1 ≤ l ∧ l ≤ 64 := by
  have pos : ∀ x ∈ S.shp ax, 1 ≤ x := by
    intro x hx
    unfold S.shp at hx
    rw [List.mem_map] at hx
    obtain ⟨a, ha, rfl⟩ := hx
    exact h.pos a ha
  intro l hl
  have := view_reason_ok.le_prod pos hl
  have := h.prd
  exact ⟨pos l hl, by omega⟩
theorem Vw.shl {c m o : Int} {ax : Ax} (h : Vw c m o ax) : (S.shp ax).length ≤ 100 := by have := h.len; simp [S.shp]; omega
/-- the first place of a cell -/
def fstAt (cs : List Int) (c : Int) : Nat := (cs.findIdx? fun x => decide (x = c)).getD 0
theorem fst_some {cs : List Int} {c : Int} (h : c ∈ cs) : (cs.findIdx? fun x => decide (x = c)) = some (fstAt cs c) ∧ fstAt cs c < cs.length := by
  unfold fstAt
  cases e : cs.findIdx? fun x => decide (x = c) with
  | none =>
    rw [List.findIdx?_eq_none_iff] at e
    have := e c h
    simp at this
  | some j =>
    obtain ⟨hl, _⟩ := List.findIdx?_eq_some_iff_getElem.mp e
    exact ⟨rfl, hl⟩
theorem fst_none {cs : List Int} {c : Int} (h : ¬ c ∈ cs) : (cs.findIdx? fun x => decide (x = c)) = none := by
  rw [List.findIdx?_eq_none_iff]
  intro x hx
  simp
  intro e
  exact h (e ▸ hx)
theorem Fst.has {kds : List (Key × D)} {cs : List Int} (h : Fst kds cs) (c : Int) : dInK (.int c) (.dct kds) = some (.bl (decide (c ∈ cs))) ∧ dNotInK (.int c) (.dct kds) = some (.bl (!decide (c ∈ cs))) := by
  have e : (valP kds (.inl c)).isSome = decide (c ∈ cs) := by
    rw [h.1 c]
    by_cases hc : c ∈ cs
    · rw [(fst_some hc).1]; simp [hc]
    · rw [fst_none hc]; simp [hc]
  simp only [dInK, dNotInK, toKey, e, and_self]
theorem Fst.get {kds : List (Key × D)} {cs : List Int} (h : Fst kds cs) {c : Int} (hc : c ∈ cs) : dGetK (.dct kds) (.int c) = some (.int (fstAt cs c : Int)) := by
  simp only [dGetK, toKey, h.1 c, (fst_some hc).1]
  rfl
def ovl (sh1 sh2 cs1 cs2 : List Int) : D := match cs1.zipIdx.find? fun p => decide (p.1 ∈ cs2) with
  | none => .non
  | some p => .tup [tD (idxOf sh1 p.2), tD (idxOf sh2 (fstAt cs2 p.1))]
theorem overlap_ok (A : Ad) {s : Dr} {o1 o2 : Int} {ax1 ax2 : Ax} (v1 : Vw 64 64 o1 ax1) (v2 : Vw 64 64 o2 ax2) : m_overlap A [vD A o1 ax1, vD A o2 ax2] s = .ok (ovl (shp ax1) (shp ax2) (cellsL o1 ax1) (cellsL o2 ax2)) s := by
  obtain ⟨kds, ef, hf⟩ := first_ok A (s := s) v2
  have c := meth_ok A (x := "cells") (n := 1) (f := m_View_cells A) (m := mVar (O A) 0) (ρ := [.sh (vD A o1 ax1), .sh (vD A o2 ax2), .sh (.dct kds), .no, .no]) (s := s) (s' := s) (o := o1) (ax := ax1) (by simp only [runF, mSeq, seqS, mAsg, mBin, mUn, mVar, mC, mRet, mNext, mIfS, mTest, mTruth, mAnd, mOr, mNot, mAndV, mOrV, mNotV, mCl, mCons, mNil, mCall, mDrop, mDrI, mDrNe, mDrIx, mDrLen, mDrSet, mDrPop, drL, isDr0, toS, fName, R.lift, bind_ok, bind_err, bind_bad, eAdd, eSub, eMul, eDiv, eMod, ePow, eNeg, eLt, eLe, eGt, eGe, eEqI, eNeI, eEqS, eEqB, eNeB, eIdxL, eIdxT, eBool, eAbs, Bool.false_eq_true, dList, dTup, if_true, if_false, if_pos, List.map_cons, List.map_nil, List.length_cons, List.length_nil, List.replicate, List.cons_append, List.nil_append, List.getElem?_cons_zero, List.getElem?_cons_succ, List.set_cons_zero, List.set_cons_succ, Nat.reduceAdd, Nat.reduceSub, Nat.reduceLeDiff, Nat.reduceLT, Nat.reduceMul, Int.reduceToNat, Int.reduceEq, Int.reduceAdd, Int.reduceSub, Int.reduceNeg, Bool.not_true, Bool.not_false, decide_true, decide_false, reduceIte, Nat.reduceEqDiff, ite_true, ite_false, mIf, mLst, mSlice, mPart, mNoPart, mItS, mItL, mItT, asSeq, asList, asTup, mFor, mPar, mPass, mBrk, mCnt, mRetN]) (no_cells o1 ax1)
  rw [view_cells_ok A v1] at c
  have en : dEnum [.lst (iD (cellsL o1 ax1))] = some (enumD (iD (cellsL o1 ax1))) := rfl
  rw [enum_cells] at en
  have lp := forL_find (O := O A) (f := fTup 2 (fCons (fName 3) (fCons (fName 4) fNil))) (mb := bd_overlap_0 A) (s := s) (fun d => match d with | .tup [_, .int c] => decide (c ∈ cellsL o2 ax2) | _ => false)
    (fun d => match d with | .tup [.int n, .int c] => .tup [tD (idxOf (shp ax1) n), tD (idxOf (shp ax2) (fstAt (cellsL o2 ax2) c))] | _ => .non)
    (fun ρ => ∃ y3 y4, ρ = [.sh (vD A o1 ax1), .sh (vD A o2 ax2), .sh (.dct kds), y3, y4]) ((cellsL o1 ax1).zipIdx.map fun p => D.tup [.int (p.2 : Int), .int p.1]) [.sh (vD A o1 ax1), .sh (vD A o2 ax2), .sh (.dct kds), .no, .no] ⟨_, _, rfl⟩
    (by
      rintro d hd ρ ⟨y3, y4, rfl⟩
      rw [List.mem_map] at hd
      obtain ⟨p, hp, rfl⟩ := hd
      refine ⟨_, f2_ok _ _ _ _ _, fun hn => ?_, fun hy => ?_⟩
      · have hi := (hf.has p.1).1
        dsimp only at hn
        rw [hn] at hi
        exact ⟨_, by simp only [bd_overlap_0, runF, mSeq, seqS, mAsg, mBin, mUn, mVar, mC, mRet, mNext, mIfS, mTest, mTruth, mAnd, mOr, mNot, mAndV, mOrV, mNotV, mCl, mCons, mNil, mCall, mDrop, mDrI, mDrNe, mDrIx, mDrLen, mDrSet, mDrPop, drL, isDr0, toS, fName, R.lift, bind_ok, bind_err, bind_bad, eAdd, eSub, eMul, eDiv, eMod, ePow, eNeg, eLt, eLe, eGt, eGe, eEqI, eNeI, eEqS, eEqB, eNeB, eIdxL, eIdxT, eBool, eAbs, Bool.false_eq_true, dList, dTup, if_true, if_false, if_pos, List.map_cons, List.map_nil, List.length_cons, List.length_nil, List.replicate, List.cons_append, List.nil_append, List.getElem?_cons_zero, List.getElem?_cons_succ, List.set_cons_zero, List.set_cons_succ, Nat.reduceAdd, Nat.reduceSub, Nat.reduceLeDiff, Nat.reduceLT, Nat.reduceMul, Int.reduceToNat, Int.reduceEq, Int.reduceAdd, Int.reduceSub, Int.reduceNeg, Bool.not_true, Bool.not_false, decide_true, decide_false, reduceIte, Nat.reduceEqDiff, ite_true, ite_false, mIf, mLst, mSlice, mPart, mNoPart, mItS, mItL, mItT, asSeq, asList, asTup, mFor, mPar, mPass, mBrk, mCnt, mRetN, hi]; rfl, ⟨_, _, rfl⟩⟩
      · have hi := (hf.has p.1).1
        dsimp only at hy
        rw [hy] at hi
        have hg := hf.get (of_decide_eq_true hy)
        obtain ⟨_, f1, _⟩ := fld_ok A (m := mVar (O A) 0) (ρ := [.sh (vD A o1 ax1), .sh (vD A o2 ax2), .sh (.dct kds), .sh (.int (p.2 : Int)), .sh (.int p.1)]) (s := s) (s' := s) (o := o1) (ax := ax1) (by simp only [runF, mSeq, seqS, mAsg, mBin, mUn, mVar, mC, mRet, mNext, mIfS, mTest, mTruth, mAnd, mOr, mNot, mAndV, mOrV, mNotV, mCl, mCons, mNil, mCall, mDrop, mDrI, mDrNe, mDrIx, mDrLen, mDrSet, mDrPop, drL, isDr0, toS, fName, R.lift, bind_ok, bind_err, bind_bad, eAdd, eSub, eMul, eDiv, eMod, ePow, eNeg, eLt, eLe, eGt, eGe, eEqI, eNeI, eEqS, eEqB, eNeB, eIdxL, eIdxT, eBool, eAbs, Bool.false_eq_true, dList, dTup, if_true, if_false, if_pos, List.map_cons, List.map_nil, List.length_cons, List.length_nil, List.replicate, List.cons_append, List.nil_append, List.getElem?_cons_zero, List.getElem?_cons_succ, List.set_cons_zero, List.set_cons_succ, Nat.reduceAdd, Nat.reduceSub, Nat.reduceLeDiff, Nat.reduceLT, Nat.reduceMul, Int.reduceToNat, Int.reduceEq, Int.reduceAdd, Int.reduceSub, Int.reduceNeg, Bool.not_true, Bool.not_false, decide_true, decide_false, reduceIte, Nat.reduceEqDiff, ite_true, ite_false, mIf, mLst, mSlice, mPart, mNoPart, mItS, mItL, mItT, asSeq, asList, asTup, mFor, mPar, mPass, mBrk, mCnt, mRetN])
        obtain ⟨_, f2, _⟩ := fld_ok A (m := mVar (O A) 1) (ρ := [.sh (vD A o1 ax1), .sh (vD A o2 ax2), .sh (.dct kds), .sh (.int (p.2 : Int)), .sh (.int p.1)]) (s := s) (s' := s) (o := o2) (ax := ax2) (by simp only [runF, mSeq, seqS, mAsg, mBin, mUn, mVar, mC, mRet, mNext, mIfS, mTest, mTruth, mAnd, mOr, mNot, mAndV, mOrV, mNotV, mCl, mCons, mNil, mCall, mDrop, mDrI, mDrNe, mDrIx, mDrLen, mDrSet, mDrPop, drL, isDr0, toS, fName, R.lift, bind_ok, bind_err, bind_bad, eAdd, eSub, eMul, eDiv, eMod, ePow, eNeg, eLt, eLe, eGt, eGe, eEqI, eNeI, eEqS, eEqB, eNeB, eIdxL, eIdxT, eBool, eAbs, Bool.false_eq_true, dList, dTup, if_true, if_false, if_pos, List.map_cons, List.map_nil, List.length_cons, List.length_nil, List.replicate, List.cons_append, List.nil_append, List.getElem?_cons_zero, List.getElem?_cons_succ, List.set_cons_zero, List.set_cons_succ, Nat.reduceAdd, Nat.reduceSub, Nat.reduceLeDiff, Nat.reduceLT, Nat.reduceMul, Int.reduceToNat, Int.reduceEq, Int.reduceAdd, Int.reduceSub, Int.reduceNeg, Bool.not_true, Bool.not_false, decide_true, decide_false, reduceIte, Nat.reduceEqDiff, ite_true, ite_false, mIf, mLst, mSlice, mPart, mNoPart, mItS, mItL, mItT, asSeq, asList, asTup, mFor, mPar, mPass, mBrk, mCnt, mRetN])
        have i1 := index_of_ok A (s := s) (n := (p.2 : Int)) (v1.shp (by decide)) v1.shl
        have i2 := index_of_ok A (s := s) (n := (fstAt (cellsL o2 ax2) p.1 : Int)) (v2.shp (by decide)) v2.shl
        simp only [bd_overlap_0, runF, mSeq, seqS, mAsg, mBin, mUn, mVar, mC, mRet, mNext, mIfS, mTest, mTruth, mAnd, mOr, mNot, mAndV, mOrV, mNotV, mCl, mCons, mNil, mCall, mDrop, mDrI, mDrNe, mDrIx, mDrLen, mDrSet, mDrPop, drL, isDr0, toS, fName, R.lift, bind_ok, bind_err, bind_bad, eAdd, eSub, eMul, eDiv, eMod, ePow, eNeg, eLt, eLe, eGt, eGe, eEqI, eNeI, eEqS, eEqB, eNeB, eIdxL, eIdxT, eBool, eAbs, Bool.false_eq_true, dList, dTup, if_true, if_false, if_pos, List.map_cons, List.map_nil, List.length_cons, List.length_nil, List.replicate, List.cons_append, List.nil_append, List.getElem?_cons_zero, List.getElem?_cons_succ, List.set_cons_zero, List.set_cons_succ, Nat.reduceAdd, Nat.reduceSub, Nat.reduceLeDiff, Nat.reduceLT, Nat.reduceMul, Int.reduceToNat, Int.reduceEq, Int.reduceAdd, Int.reduceSub, Int.reduceNeg, Bool.not_true, Bool.not_false, decide_true, decide_false, reduceIte, Nat.reduceEqDiff, ite_true, ite_false, mIf, mLst, mSlice, mPart, mNoPart, mItS, mItL, mItT, asSeq, asList, asTup, mFor, mPar, mPass, mBrk, mCnt, mRetN, hi, f1, f2, hg, i1, i2])
  rw [List.find?_map] at lp
  unfold ovl
  have pe : ((fun d => match d with | D.tup [_, .int c] => decide (c ∈ cellsL o2 ax2) | _ => false) ∘ fun (p : Int × Nat) => D.tup [.int (p.2 : Int), .int p.1]) = fun (p : Int × Nat) => decide (p.1 ∈ cellsL o2 ax2) := rfl
  rw [pe] at lp
  cases hz : (cellsL o1 ax1).zipIdx.find? fun p => decide (p.1 ∈ cellsL o2 ax2) with
  | none =>
    rw [hz] at lp
    obtain ⟨ρ2, e2, y3, y4, rfl⟩ := lp
    simp only [m_overlap, mb_overlap, mItA, runF, mSeq, seqS, mAsg, mBin, mUn, mVar, mC, mRet, mNext, mIfS, mTest, mTruth, mAnd, mOr, mNot, mAndV, mOrV, mNotV, mCl, mCons, mNil, mCall, mDrop, mDrI, mDrNe, mDrIx, mDrLen, mDrSet, mDrPop, drL, isDr0, toS, fName, R.lift, bind_ok, bind_err, bind_bad, eAdd, eSub, eMul, eDiv, eMod, ePow, eNeg, eLt, eLe, eGt, eGe, eEqI, eNeI, eEqS, eEqB, eNeB, eIdxL, eIdxT, eBool, eAbs, Bool.false_eq_true, dList, dTup, if_true, if_false, if_pos, List.map_cons, List.map_nil, List.length_cons, List.length_nil, List.replicate, List.cons_append, List.nil_append, List.getElem?_cons_zero, List.getElem?_cons_succ, List.set_cons_zero, List.set_cons_succ, Nat.reduceAdd, Nat.reduceSub, Nat.reduceLeDiff, Nat.reduceLT, Nat.reduceMul, Int.reduceToNat, Int.reduceEq, Int.reduceAdd, Int.reduceSub, Int.reduceNeg, Bool.not_true, Bool.not_false, decide_true, decide_false, reduceIte, Nat.reduceEqDiff, ite_true, ite_false, mIf, mLst, mSlice, mPart, mNoPart, mItS, mItL, mItT, asSeq, asList, asTup, mFor, mPar, mPass, mBrk, mCnt, mRetN, ef, c, en, e2]
  | some p =>
    rw [hz] at lp
    simp only [Option.map_some] at lp
    simp only [m_overlap, mb_overlap, mItA, runF, mSeq, seqS, mAsg, mBin, mUn, mVar, mC, mRet, mNext, mIfS, mTest, mTruth, mAnd, mOr, mNot, mAndV, mOrV, mNotV, mCl, mCons, mNil, mCall, mDrop, mDrI, mDrNe, mDrIx, mDrLen, mDrSet, mDrPop, drL, isDr0, toS, fName, R.lift, bind_ok, bind_err, bind_bad, eAdd, eSub, eMul, eDiv, eMod, ePow, eNeg, eLt, eLe, eGt, eGe, eEqI, eNeI, eEqS, eEqB, eNeB, eIdxL, eIdxT, eBool, eAbs, Bool.false_eq_true, dList, dTup, if_true, if_false, if_pos, List.map_cons, List.map_nil, List.length_cons, List.length_nil, List.replicate, List.cons_append, List.nil_append, List.getElem?_cons_zero, List.getElem?_cons_succ, List.set_cons_zero, List.set_cons_succ, Nat.reduceAdd, Nat.reduceSub, Nat.reduceLeDiff, Nat.reduceLT, Nat.reduceMul, Int.reduceToNat, Int.reduceEq, Int.reduceAdd, Int.reduceSub, Int.reduceNeg, Bool.not_true, Bool.not_false, decide_true, decide_false, reduceIte, Nat.reduceEqDiff, ite_true, ite_false, mIf, mLst, mSlice, mPart, mNoPart, mItS, mItL, mItT, asSeq, asList, asTup, mFor, mPar, mPass, mBrk, mCnt, mRetN, ef, c, en, lp]
/-! ### the least and the greatest cell -/
theorem cells_between : ∀ (ax : Ax) (cs : List Int), (∀ a ∈ ax, 1 ≤ a.1) → ∀ c ∈ cellsF ax cs, ∃ c0 ∈ cs, c0 + lowS ax ≤ c ∧ c ≤ c0 + highS ax
  | [], cs, _, c, hc => ⟨c, hc, by simp [lowS], by simp [highS]⟩
  | a :: ax, cs, h, c, hc => by
    obtain ⟨c1, h1, h2, h3⟩ := cells_between ax _ (fun b hb => h b (List.mem_cons_of_mem _ hb)) c hc
    rw [List.mem_flatMap] at h1
    obtain ⟨c0, h4, h5⟩ := h1
    rw [List.mem_map] at h5
    obtain ⟨k, hk, rfl⟩ := h5
    have hk := mem_rng hk
    have key : neg0 ((a.1 - 1) * a.2) ≤ k * a.2 ∧ k * a.2 ≤ pos0 ((a.1 - 1) * a.2) := by
      unfold neg0 pos0
      by_cases hs : 0 ≤ a.2
      · have m1 := Int.mul_le_mul_of_nonneg_right (show k ≤ a.1 - 1 by omega) hs
        have m2 := Int.mul_nonneg hk.1 hs
        split <;> split <;> omega
      · have m1 := Int.mul_le_mul_of_nonneg_right (show k ≤ a.1 - 1 by omega) (show (0 : Int) ≤ -a.2 by omega)
        have m2 := Int.mul_nonneg hk.1 (show (0 : Int) ≤ -a.2 by omega)
        rw [Int.mul_neg] at m2
        rw [Int.mul_neg, Int.mul_neg] at m1
        split <;> split <;> omega
    refine ⟨c0, h4, ?_, ?_⟩ <;> (simp only [lowS, highS]; omega)
theorem cells_reach : ∀ (ax : Ax) (cs : List Int), (∀ a ∈ ax, 1 ≤ a.1) → ∀ c0 ∈ cs, c0 + lowS ax ∈ cellsF ax cs ∧ c0 + highS ax ∈ cellsF ax cs
  | [], cs, _, c, hc => by simpa [lowS, highS, cellsF] using hc
  | a :: ax, cs, h, c0, hc => by
    have a1 := h a List.mem_cons_self
    have mem : ∀ k : Int, 0 ≤ k → k < a.1 → c0 + k * a.2 ∈ cs.flatMap fun c => (rng a.1).map fun k => c + k * a.2 := fun k k0 k1 => by
      rw [List.mem_flatMap]
      refine ⟨c0, hc, ?_⟩
      rw [List.mem_map]
      refine ⟨k, ?_, rfl⟩
      unfold rng
      rw [List.mem_map]
      exact ⟨k.toNat, List.mem_range.mpr (by omega), by omega⟩
    have r := fun c hc => cells_reach ax (cs.flatMap fun c => (rng a.1).map fun k => c + k * a.2) (fun b hb => h b (List.mem_cons_of_mem _ hb)) c hc
    have m0 := mem 0 (by decide) (by omega)
    have m1 := mem (a.1 - 1) (by omega) (by omega)
    rw [Int.zero_mul, Int.add_zero] at m0
    constructor
    · show c0 + (neg0 ((a.1 - 1) * a.2) + lowS ax) ∈ cellsF ax _
      unfold neg0
      split
      · have := (r _ m1).1
        rwa [Int.add_assoc] at this
      · have := (r _ m0).1
        rwa [Int.zero_add]
    · show c0 + (pos0 ((a.1 - 1) * a.2) + highS ax) ∈ cellsF ax _
      unfold pos0
      split
      · have := (r _ m1).2
        rwa [Int.add_assoc] at this
      · have := (r _ m0).2
        rwa [Int.zero_add]
theorem min_cells {o : Int} {ax : Ax} (h : ∀ a ∈ ax, 1 ≤ a.1) : dMinL [.lst (iD (cellsL o ax))] = some (.int (o + lowS ax)) ∧ dMaxL [.lst (iD (cellsL o ax))] = some (.int (o + highS ax)) := by
  have r := cells_reach ax [o] h o (by simp)
  have b := cells_between ax [o] h
  have e1 : (cellsL o ax).min? = some (o + lowS ax) := by
    rw [List.min?_eq_some_iff]
    refine ⟨r.1, fun c hc => ?_⟩
    obtain ⟨c0, h0, h1, _⟩ := b c hc
    rw [List.mem_singleton] at h0
    omega
  have e2 : (cellsL o ax).max? = some (o + highS ax) := by
    rw [List.max?_eq_some_iff]
    refine ⟨r.2, fun c hc => ?_⟩
    obtain ⟨c0, h0, _, h1⟩ := b c hc
    rw [List.mem_singleton] at h0
    omega
  simp only [dMinL, dMaxL, toInts_iD, e1, e2, Option.map_some, and_self]
end S

namespace S
open PySem PySem.Spec PyProof.Rows L2 RZ Mr
/-! ### contiguous views -/
def strL : List Int → List Int
  | [] => []
  | _ :: sh => prodL sh :: strL sh
def contA : List Int → Ax
  | [] => []
  | l :: sh => (l, prodL sh) :: contA sh
theorem cont_shp : ∀ sh : List Int, shp (contA sh) = sh
  | [] => rfl
  | l :: sh => by
    show l :: shp (contA sh) = _
    rw [cont_shp sh]
theorem cont_strd : ∀ sh : List Int, strd (contA sh) = strL sh
  | [] => rfl
  | l :: sh => by
    show prodL sh :: strd (contA sh) = _
    rw [cont_strd sh]
    rfl
theorem cont_len (sh : List Int) : (contA sh).length = sh.length := by
  have := congrArg List.length (cont_shp sh)
  simpa [shp] using this
theorem absP : ∀ xs : List Int, (∀ x ∈ xs, x.natAbs ≤ 10 ^ 30) → (prodL xs).natAbs ≤ (10 ^ 30) ^ xs.length
  | [], _ => by simp [prodL]
  | x :: xs, h => by
    show (x * prodL xs).natAbs ≤ _
    rw [Int.natAbs_mul, List.length_cons, Nat.pow_succ, Nat.mul_comm]
    exact Nat.mul_le_mul (absP xs fun y hy => h y (List.mem_cons_of_mem _ hy)) (h x List.mem_cons_self)
theorem absP6 {xs : List Int} (h : ∀ x ∈ xs, x.natAbs ≤ 10 ^ 30) (hl : xs.length ≤ 6) : (prodL xs).natAbs ≤ 10 ^ 180 := by
  have h1 := absP xs h
  have h2 : (10 ^ 30) ^ xs.length ≤ (10 ^ 30 : Nat) ^ 6 := Nat.pow_le_pow_right (by decide) hl
  have h3 : (10 ^ 30 : Nat) ^ 6 = 10 ^ 180 := by decide +kernel
  omega
def strF (p : Int) : List Int → List Int
  | [] => []
  | x :: xs => p :: strF (p * x) xs
theorem prodL_app : ∀ xs ys : List Int, prodL (xs ++ ys) = prodL xs * prodL ys
  | [], ys => by simp [prodL]
  | x :: xs, ys => by
    show x * prodL (xs ++ ys) = x * prodL xs * prodL ys
    rw [prodL_app xs ys, Int.mul_assoc]
theorem prodL_rev (xs : List Int) : prodL xs.reverse = prodL xs := by
  induction xs with
  | nil => rfl
  | cons x xs ih =>
    rw [List.reverse_cons, prodL_app, ih]
    show prodL xs * (x * 1) = x * prodL xs
    rw [Int.mul_one, Int.mul_comm]
theorem strF_app : ∀ (xs : List Int) (p l : Int), strF p (xs ++ [l]) = strF p xs ++ [p * prodL xs]
  | [], p, l => by simp [strF, prodL]
  | x :: xs, p, l => by
    show p :: strF (p * x) (xs ++ [l]) = p :: strF (p * x) xs ++ [p * (x * prodL xs)]
    rw [strF_app xs, Int.mul_assoc]
    rfl
theorem strF_rev : ∀ sh : List Int, strF 1 sh.reverse = (strL sh).reverse
  | [] => rfl
  | l :: sh => by
    rw [List.reverse_cons, strF_app, strF_rev sh, prodL_rev, Int.one_mul]
    simp [strL]
theorem strF_len : ∀ (xs : List Int) (p : Int), (strF p xs).length = xs.length
  | [], _ => rfl
  | x :: xs, p => by show (strF (p * x) xs).length + 1 = _; rw [strF_len xs]; rfl
theorem cont_loop (A : Ad) {x0 : Sl} {s : Dr} : ∀ (xs : List Int) (acc : List D) (p : Int) (pre : List Int) (x3 : Sl), (∀ x ∈ pre ++ xs, x.natAbs ≤ 10 ^ 30) → (pre ++ xs).length ≤ 6 → p = prodL pre → acc.length ≤ 10 - xs.length → ∃ y3, forL (O A).S (fName 3) (bd_contiguous_0 A) (iD xs) [x0, .own acc, .sh (.int p), x3] s = .nx [x0, .own (acc ++ iD (strF p xs)), .sh (.int (p * prodL xs)), y3] s
  | [], acc, p, pre, x3, _, _, _, _ => ⟨x3, by simp [forL, iD, strF, prodL]⟩
  | l :: xs, acc, p, pre, x3, h, hl, e, ha => by
    rw [List.length_append, List.length_cons] at hl
    rw [List.length_cons] at ha
    have e2 : p * l = prodL (pre ++ [l]) := by
      rw [prodL_app, e]
      show _ = prodL pre * (l * 1)
      rw [Int.mul_one]
    obtain ⟨y3, e3⟩ := cont_loop A (x0 := x0) (s := s) xs (acc ++ [D.int p]) (p * l) (pre ++ [l]) (.sh (.int l)) (by simpa using h) (by simp; omega) e2 (by simp; omega)
    have hp := absP6 (xs := pre) (fun x hx => h x (List.mem_append_left _ hx)) (by omega)
    have hx := h l (List.mem_append_right _ List.mem_cons_self)
    have c1 : CMulG p l := mulG (by omega) (by omega) (by omega) (by omega)
    have ll : acc.length < 100000 := by omega
    refine ⟨y3, ?_⟩
    show forL (O A).S _ _ (D.int l :: iD xs) _ s = _
    rw [forL_step (ρ1 := [x0, .own acc, .sh (.int p), .sh (.int l)]) (ρ2 := [x0, .own (acc ++ [D.int p]), .sh (.int (p * l)), .sh (.int l)]) (s2 := s) rfl (by simp only [bd_contiguous_0, mAppend, mAug, runF, mSeq, seqS, mAsg, mBin, mUn, mVar, mC, mRet, mNext, mIfS, mTest, mTruth, mAnd, mOr, mNot, mAndV, mOrV, mNotV, mCl, mCons, mNil, mCall, mDrop, mDrI, mDrNe, mDrIx, mDrLen, mDrSet, mDrPop, drL, isDr0, toS, fName, R.lift, bind_ok, bind_err, bind_bad, eAdd, eSub, eMul, eDiv, eMod, ePow, eNeg, eLt, eLe, eGt, eGe, eEqI, eNeI, eEqS, eEqB, eNeB, eIdxL, eIdxT, eBool, eAbs, Bool.false_eq_true, dList, dTup, if_true, if_false, if_pos, List.map_cons, List.map_nil, List.length_cons, List.length_nil, List.replicate, List.cons_append, List.nil_append, List.getElem?_cons_zero, List.getElem?_cons_succ, List.set_cons_zero, List.set_cons_succ, Nat.reduceAdd, Nat.reduceSub, Nat.reduceLeDiff, Nat.reduceLT, Nat.reduceMul, Int.reduceToNat, Int.reduceEq, Int.reduceAdd, Int.reduceSub, Int.reduceNeg, Bool.not_true, Bool.not_false, decide_true, decide_false, reduceIte, Nat.reduceEqDiff, ite_true, ite_false, mIf, mLst, mSlice, mPart, mNoPart, mItS, mItL, mItT, asSeq, asList, asTup, mFor, mPar, mPass, mBrk, mCnt, mRetN, c1, ll]), e3]
    have q1 : acc ++ [D.int p] ++ iD (strF (p * l) xs) = acc ++ iD (strF p (l :: xs)) := by simp [iD, strF]
    have q2 : p * l * prodL xs = p * prodL (l :: xs) := by rw [Int.mul_assoc]; rfl
    rw [q1, q2]
/-- why a shape has no contiguous view -/
def contR (sh : List Int) : D := if 4 < sh.length then .str "rank" else if sh.any (fun x => decide (x < 1)) = true then .str "length" else if 64 < prodL sh then .str "size" else .non
theorem any_ints (xs : List Int) : dAny [.lst (xs.map fun x => D.bl (decide (x < 1)))] = some (.bl (xs.any fun x => decide (x < 1))) := by
  simp only [dAny, toBools_map, Option.map_some]
  rw [List.any_map]
  rfl
theorem strL_len (sh : List Int) : (strL sh).length = sh.length := by rw [← cont_strd]; simp [strd, cont_len]
theorem cont_str : ∀ sh : List Int, (∀ x ∈ sh, 1 ≤ x) → ∀ a ∈ contA sh, 1 ≤ a.1 ∧ 1 ≤ a.2 ∧ a.2 ≤ prodL sh
  | [], _, a, ha => absurd ha List.not_mem_nil
  | l :: sh, h, a, ha => by
    have ht := fun x hx => h x (List.mem_cons_of_mem _ hx)
    have p1 := prod_pos ht
    have l1 := h l List.mem_cons_self
    have pl : prodL sh ≤ prodL (l :: sh) := by
      show prodL sh ≤ l * prodL sh
      have := Int.mul_le_mul_of_nonneg_right l1 (show 0 ≤ prodL sh by omega)
      omega
    rcases List.mem_cons.mp ha with rfl | ha
    · exact ⟨l1, p1, pl⟩
    · have := cont_str sh ht a ha
      exact ⟨this.1, this.2.1, by omega⟩
theorem cont_ends : ∀ sh : List Int, (∀ x ∈ sh, 1 ≤ x) → lowS (contA sh) = 0 ∧ highS (contA sh) = prodL sh - 1
  | [], _ => ⟨rfl, rfl⟩
  | l :: sh, h => by
    have ht := fun x hx => h x (List.mem_cons_of_mem _ hx)
    obtain ⟨e1, e2⟩ := cont_ends sh ht
    have p1 := prod_pos ht
    have l1 := h l List.mem_cons_self
    have m : 0 ≤ (l - 1) * prodL sh := Int.mul_nonneg (by omega) (by omega)
    have m2 : (l - 1) * prodL sh = l * prodL sh - prodL sh := by rw [Int.sub_mul, Int.one_mul]
    have e3 : prodL (l :: sh) = l * prodL sh := rfl
    constructor
    · show neg0 ((l - 1) * prodL sh) + lowS (contA sh) = 0
      rw [e1]
      unfold neg0
      rw [if_neg (by omega)]
      rfl
    · show pos0 ((l - 1) * prodL sh) + highS (contA sh) = _
      rw [e2, e3]
      unfold pos0
      split <;> omega
theorem cont_vw {sh : List Int} (hl : sh.length ≤ 4) (h : ∀ x ∈ sh, 1 ≤ x) (hp : prodL sh ≤ 64) : Vw0 0 (contA sh) := by
  obtain ⟨e1, e2⟩ := cont_ends sh h
  exact ⟨by rw [cont_len]; exact hl, fun a ha => (cont_str sh h a ha).1, by rw [cont_shp]; exact hp, by rw [e1]; decide, by rw [e2]; omega, fun a ha => by
    have := cont_str sh h a ha
    constructor <;> omega⟩
theorem reason_cont (A : Ad) {s : Dr} {sh : List Int} {d : D} (hd : isSq d sh) (hb : ∀ x ∈ sh, x.natAbs ≤ 10 ^ 30) (hl : sh.length ≤ 6) : m_view_reason A [.int 0, d, .lst (iD (strL sh))] s = .ok (contR sh) s := by
  have l1 := hd.len
  have l2 : dLen [.lst (iD (strL sh))] = some (.int (sh.length : Int)) := by
    have := (show isSq (.lst (iD (strL sh))) (strL sh) from .inl rfl).len
    rw [strL_len] at this
    exact this
  unfold contR
  by_cases h4 : 4 < sh.length
  · rw [if_pos h4]
    have h4' : (4 : Int) < (sh.length : Int) := by omega
    simp only [m_view_reason, mb_view_reason, k_AXES, dTruth, runF, mSeq, seqS, mAsg, mBin, mUn, mVar, mC, mRet, mNext, mIfS, mTest, mTruth, mAnd, mOr, mNot, mAndV, mOrV, mNotV, mCl, mCons, mNil, mCall, mDrop, mDrI, mDrNe, mDrIx, mDrLen, mDrSet, mDrPop, drL, isDr0, toS, fName, R.lift, bind_ok, bind_err, bind_bad, eAdd, eSub, eMul, eDiv, eMod, ePow, eNeg, eLt, eLe, eGt, eGe, eEqI, eNeI, eEqS, eEqB, eNeB, eIdxL, eIdxT, eBool, eAbs, Bool.false_eq_true, dList, dTup, if_true, if_false, if_pos, List.map_cons, List.map_nil, List.length_cons, List.length_nil, List.replicate, List.cons_append, List.nil_append, List.getElem?_cons_zero, List.getElem?_cons_succ, List.set_cons_zero, List.set_cons_succ, Nat.reduceAdd, Nat.reduceSub, Nat.reduceLeDiff, Nat.reduceLT, Nat.reduceMul, Int.reduceToNat, Int.reduceEq, Int.reduceAdd, Int.reduceSub, Int.reduceNeg, Bool.not_true, Bool.not_false, decide_true, decide_false, reduceIte, Nat.reduceEqDiff, ite_true, ite_false, mIf, mLst, mSlice, mPart, mNoPart, mItS, mItL, mItT, asSeq, asList, asTup, mFor, mPar, mPass, mBrk, mCnt, mRetN, l1, l2, h4']
  rw [if_neg h4]
  have h4' : ¬ (4 : Int) < (sh.length : Int) := by omega
  have lc := @lc_reason A s sh d hd (by omega)
  have an := any_ints sh
  cases ha : sh.any fun x => decide (x < 1) with
  | true =>
    rw [ha] at an
    simp only [m_view_reason, mb_view_reason, k_AXES, dTruth, runF, mSeq, seqS, mAsg, mBin, mUn, mVar, mC, mRet, mNext, mIfS, mTest, mTruth, mAnd, mOr, mNot, mAndV, mOrV, mNotV, mCl, mCons, mNil, mCall, mDrop, mDrI, mDrNe, mDrIx, mDrLen, mDrSet, mDrPop, drL, isDr0, toS, fName, R.lift, bind_ok, bind_err, bind_bad, eAdd, eSub, eMul, eDiv, eMod, ePow, eNeg, eLt, eLe, eGt, eGe, eEqI, eNeI, eEqS, eEqB, eNeB, eIdxL, eIdxT, eBool, eAbs, Bool.false_eq_true, dList, dTup, if_true, if_false, if_pos, List.map_cons, List.map_nil, List.length_cons, List.length_nil, List.replicate, List.cons_append, List.nil_append, List.getElem?_cons_zero, List.getElem?_cons_succ, List.set_cons_zero, List.set_cons_succ, Nat.reduceAdd, Nat.reduceSub, Nat.reduceLeDiff, Nat.reduceLT, Nat.reduceMul, Int.reduceToNat, Int.reduceEq, Int.reduceAdd, Int.reduceSub, Int.reduceNeg, Bool.not_true, Bool.not_false, decide_true, decide_false, reduceIte, Nat.reduceEqDiff, ite_true, ite_false, mIf, mLst, mSlice, mPart, mNoPart, mItS, mItL, mItT, asSeq, asList, asTup, mFor, mPar, mPass, mBrk, mCnt, mRetN, l1, l2, h4', lc, an]
  | false =>
    rw [ha] at an
    have pos : ∀ x ∈ sh, 1 ≤ x := fun x hx => by
      rw [List.any_eq_false] at ha
      have := ha x hx
      simp at this
      omega
    have pb := absP6 hb hl
    have pr := product_of_ok A (s := s) hd pos (by omega)
    by_cases hp : 64 < prodL sh
    · simp only [m_view_reason, mb_view_reason, k_AXES, k_ELEMENTS, dTruth, runF, mSeq, seqS, mAsg, mBin, mUn, mVar, mC, mRet, mNext, mIfS, mTest, mTruth, mAnd, mOr, mNot, mAndV, mOrV, mNotV, mCl, mCons, mNil, mCall, mDrop, mDrI, mDrNe, mDrIx, mDrLen, mDrSet, mDrPop, drL, isDr0, toS, fName, R.lift, bind_ok, bind_err, bind_bad, eAdd, eSub, eMul, eDiv, eMod, ePow, eNeg, eLt, eLe, eGt, eGe, eEqI, eNeI, eEqS, eEqB, eNeB, eIdxL, eIdxT, eBool, eAbs, Bool.false_eq_true, dList, dTup, if_true, if_false, if_pos, List.map_cons, List.map_nil, List.length_cons, List.length_nil, List.replicate, List.cons_append, List.nil_append, List.getElem?_cons_zero, List.getElem?_cons_succ, List.set_cons_zero, List.set_cons_succ, Nat.reduceAdd, Nat.reduceSub, Nat.reduceLeDiff, Nat.reduceLT, Nat.reduceMul, Int.reduceToNat, Int.reduceEq, Int.reduceAdd, Int.reduceSub, Int.reduceNeg, Bool.not_true, Bool.not_false, decide_true, decide_false, reduceIte, Nat.reduceEqDiff, ite_true, ite_false, mIf, mLst, mSlice, mPart, mNoPart, mItS, mItL, mItT, asSeq, asList, asTup, mFor, mPar, mPass, mBrk, mCnt, mRetN, l1, l2, h4', lc, an, pr, hp]
    · have := view_reason_ok A (s := s) (o := 0) (ax := contA sh) (d := d) (e := .lst (iD (strL sh))) (by rw [cont_shp, cont_strd]; exact ⟨hd, .inl rfl⟩) (cont_vw (by omega) pos (by omega))
      rw [this]
      simp [hp]
theorem contiguous_run (A : Ad) {s : Dr} {sh : List Int} {d : D} (hd : isSq d sh) (hb : ∀ x ∈ sh, x.natAbs ≤ 10 ^ 30) (hl : sh.length ≤ 6) : m_contiguous A [d] s = (m_View_init A [.int 0, d, .lst (iD (strL sh))] s).bind fun fs s2 => .ok (.ins A.v fs) s2 := by
  obtain ⟨y3, e⟩ := cont_loop A (x0 := .sh d) (s := s) sh.reverse [] 1 [] .no (by simpa using hb) (by simpa using hl) rfl (by simp)
  have rv : dRev [d] = some (iD sh.reverse) := by rcases hd with rfl | rfl <;> simp [dRev, iD]
  have rs : dRevS (.lst (iD (strF 1 sh.reverse))) = some (.lst (iD (strL sh))) := by
    rw [strF_rev]
    simp [dRevS, iD]
  rw [List.nil_append] at e
  simp only [m_contiguous, mb_contiguous, mOwn, mDisp, listMax, mItA, mMake, mFrz, frzE, runF, mSeq, seqS, mAsg, mBin, mUn, mVar, mC, mRet, mNext, mIfS, mTest, mTruth, mAnd, mOr, mNot, mAndV, mOrV, mNotV, mCl, mCons, mNil, mCall, mDrop, mDrI, mDrNe, mDrIx, mDrLen, mDrSet, mDrPop, drL, isDr0, toS, fName, R.lift, bind_ok, bind_err, bind_bad, eAdd, eSub, eMul, eDiv, eMod, ePow, eNeg, eLt, eLe, eGt, eGe, eEqI, eNeI, eEqS, eEqB, eNeB, eIdxL, eIdxT, eBool, eAbs, Bool.false_eq_true, dList, dTup, if_true, if_false, if_pos, List.map_cons, List.map_nil, List.length_cons, List.length_nil, List.replicate, List.cons_append, List.nil_append, List.getElem?_cons_zero, List.getElem?_cons_succ, List.set_cons_zero, List.set_cons_succ, Nat.reduceAdd, Nat.reduceSub, Nat.reduceLeDiff, Nat.reduceLT, Nat.reduceMul, Int.reduceToNat, Int.reduceEq, Int.reduceAdd, Int.reduceSub, Int.reduceNeg, Bool.not_true, Bool.not_false, decide_true, decide_false, reduceIte, Nat.reduceEqDiff, ite_true, ite_false, mIf, mLst, mSlice, mPart, mNoPart, mItS, mItL, mItT, asSeq, asList, asTup, mFor, mPar, mPass, mBrk, mCnt, mRetN, rv, e, rs]
  cases m_View_init A [.int 0, d, .lst (iD (strL sh))] s <;> rfl
theorem contiguous_ok (A : Ad) {s : Dr} {sh : List Int} {d : D} (hd : isSq d sh) (hb : ∀ x ∈ sh, x.natAbs ≤ 10 ^ 30) (hl : sh.length ≤ 6) (hr : contR sh = .non) : m_contiguous A [d] s = .ok (vD A 0 (nrm (contA sh))) s ∧ Vw0 0 (contA sh) := by
  have hv : Vw0 0 (contA sh) := by
    unfold contR at hr
    split at hr
    · cases hr
    split at hr
    · cases hr
    split at hr
    · cases hr
    rename_i h1 h2 h3
    refine cont_vw (by omega) (fun x hx => ?_) (by omega)
    rw [Bool.not_eq_true, List.any_eq_false] at h2
    have := h2 x hx
    simp at this
    omega
  refine ⟨?_, hv⟩
  rw [contiguous_run A hd hb hl, init0_ok A (ax := contA sh) (by rw [cont_shp, cont_strd]; exact ⟨hd, .inl rfl⟩) hv]
  rfl
theorem contiguous_no (A : Ad) {s : Dr} {sh : List Int} {d : D} {r : Str} (hd : isSq d sh) (hb : ∀ x ∈ sh, x.natAbs ≤ 10 ^ 30) (hl : sh.length ≤ 6) (hr : contR sh = .str r) : m_contiguous A [d] s = .err (A.c .ViewError) [("reason", .str r)] s := by
  have vr := reason_cont A (s := s) hd hb hl
  rw [hr] at vr
  have nn : dNotIs (.str r) .non = some (.bl true) := rfl
  have fm : fmtD (.str r) = true := by
    have hr' := hr
    unfold contR at hr'
    split at hr'
    · cases hr'; decide +kernel
    split at hr'
    · cases hr'; decide +kernel
    split at hr'
    · cases hr'; decide +kernel
    · cases hr'
  rw [contiguous_run A hd hb hl]
  simp only [m_View_init, runI, mb_View_init, mRaise, runF, mSeq, seqS, mAsg, mBin, mUn, mVar, mC, mRet, mNext, mIfS, mTest, mTruth, mAnd, mOr, mNot, mAndV, mOrV, mNotV, mCl, mCons, mNil, mCall, mDrop, mDrI, mDrNe, mDrIx, mDrLen, mDrSet, mDrPop, drL, isDr0, toS, fName, R.lift, bind_ok, bind_err, bind_bad, eAdd, eSub, eMul, eDiv, eMod, ePow, eNeg, eLt, eLe, eGt, eGe, eEqI, eNeI, eEqS, eEqB, eNeB, eIdxL, eIdxT, eBool, eAbs, Bool.false_eq_true, dList, dTup, if_true, if_false, if_pos, List.map_cons, List.map_nil, List.length_cons, List.length_nil, List.replicate, List.cons_append, List.nil_append, List.getElem?_cons_zero, List.getElem?_cons_succ, List.set_cons_zero, List.set_cons_succ, Nat.reduceAdd, Nat.reduceSub, Nat.reduceLeDiff, Nat.reduceLT, Nat.reduceMul, Int.reduceToNat, Int.reduceEq, Int.reduceAdd, Int.reduceSub, Int.reduceNeg, Bool.not_true, Bool.not_false, decide_true, decide_false, reduceIte, Nat.reduceEqDiff, ite_true, ite_false, mIf, mLst, mSlice, mPart, mNoPart, mItS, mItL, mItT, asSeq, asList, asTup, mFor, mPar, mPass, mBrk, mCnt, mRetN, vr, nn, List.all_cons, List.all_nil, fm, Bool.and_true, and_self, Nat.reduceLeDiff, List.zip_cons_cons, List.zip_nil_right, List.reverse_cons, List.reverse_nil]
/-- the cells of a contiguous view -/
theorem range_mul (a b : Nat) : List.range (a * b) = (List.range a).flatMap fun i => (List.range b).map fun j => i * b + j := by
  induction a with
  | zero => simp
  | succ a ih => rw [Nat.succ_mul, List.range_add, ih, List.range_succ, List.flatMap_append]; simp
theorem rng_mul {a b : Int} (ha : 0 ≤ a) (hb : 0 ≤ b) : rng (a * b) = (rng a).flatMap fun i => (rng b).map fun j => i * b + j := by
  obtain ⟨m, rfl⟩ := Int.eq_ofNat_of_zero_le ha
  obtain ⟨n, rfl⟩ := Int.eq_ofNat_of_zero_le hb
  unfold rng
  rw [← Int.natCast_mul, Int.toNat_natCast, Int.toNat_natCast, Int.toNat_natCast, range_mul, List.map_flatMap, List.flatMap_map]
  congr 1
  funext i
  rw [List.map_map, List.map_map]
  congr 1
theorem cont_cells : ∀ (sh : List Int) (cs : List Int), (∀ x ∈ sh, 1 ≤ x) → cellsF (contA sh) cs = cs.flatMap fun c => (rng (prodL sh)).map fun k => c + k
  | [], cs, _ => by
    show cs = cs.flatMap fun c => (rng 1).map fun k => c + k
    have r : rng 1 = [0] := rfl
    simp [r]
  | l :: sh, cs, h => by
    have ht := fun x hx => h x (List.mem_cons_of_mem _ hx)
    have p1 := prod_pos ht
    have l1 := h l List.mem_cons_self
    show cellsF (contA sh) (cs.flatMap fun c => (rng l).map fun k => c + k * prodL sh) = cs.flatMap fun c => (rng (l * prodL sh)).map fun k => c + k
    rw [cont_cells sh _ ht, List.flatMap_assoc, rng_mul (by omega) (by omega)]
    congr 1
    funext c
    rw [List.flatMap_map, List.map_flatMap]
    congr 1
    funext i
    rw [List.map_map]
    congr 1
    funext j
    simp [Function.comp, Int.add_assoc]
theorem cont_cellsL {sh : List Int} (h : ∀ x ∈ sh, 1 ≤ x) : cellsL 0 (contA sh) = rng (prodL sh) := by
  unfold cellsL
  rw [cont_cells sh [0] h]
  simp
/-! ### a view has a shape and cells -/
theorem pl_tupI (xs : List Int) (h : xs.length ≤ 1000) : plD 3 (.tup (iD xs)) = true := by
  simp only [plD, iD, List.length_map, Bool.and_eq_true, decide_eq_true_eq, List.all_eq_true]
  refine ⟨by omega, fun d hd => ?_⟩
  rw [List.mem_map] at hd
  obtain ⟨i, _, rfl⟩ := hd
  rfl
theorem any_false (n : Nat) : dAny [.lst (List.replicate n (.bl false))] = some (.bl false) := by
  have : ∀ n, toBools (List.replicate n (.bl false)) = some (List.replicate n false) := by
    intro n
    induction n with
    | zero => rfl
    | succ n ih => simp only [List.replicate_succ, toBools, ih]; rfl
  simp only [dAny, this, Option.map_some]
  congr 2
  rw [List.any_eq_false]
  intro x hx
  rw [List.mem_replicate] at hx
  simp [hx.2]
theorem held_ok (A : Ad) {s : Dr} {o : Int} {ax : Ax} {d : D} (hv : Vw 64 64 o ax) (hd : isSq d (shp ax)) : m_law_held A [vD A o ax, d, .lst (iD (cellsL o ax))] s = .ok (.bl true) s := by
  have ob := hv.off (by decide)
  have c1 := law_cells_ok A (s := s) (o := o) (hv.bd (by decide)) hv.prd (by have := hv.len; omega) (by omega) (by omega)
  unfold ptD at c1
  have t1 := tupOf_sq hd
  have q1 := same_ok A (pl_tupI (shp ax) (by have := hv.shl; omega)) s
  have hl := cellsL_len (o := o) hv.pos
  have hp := hv.prd
  have e1 := (eq_self (show pqD 1 (.lst (iD (cellsL o ax))) = true from pq_ints _) (by decide)).1
  have ls : dLen [.tup (iD (shp ax))] = some (.int (ax.length : Int)) := by
    have := (show isSq (.tup (iD (shp ax))) (shp ax) from .inr rfl).len
    simpa [shp] using this
  have lt : dLen [.tup (iD (strd ax))] = some (.int (ax.length : Int)) := by
    have := (show isSq (.tup (iD (strd ax))) (strd ax) from .inr rfl).len
    simpa [strd] using this
  have zp := sq2.zip (d := .tup (iD (shp ax))) (e := .tup (iD (strd ax))) (ax := ax) ⟨.inr rfl, .inr rfl⟩
  have is : dIsI [.tup (iD (strd ax)), .ty "tuple"] = some (.bl true) := rfl
  have fl : ∀ x1 x2 x3 x4 x5 : Sl, _ := fun x1 x2 x3 x4 x5 => fld_ok A (m := mVar (O A) 0) (ρ := [.sh (vD A o ax), x1, x2, x3, x4, x5]) (s := s) (s' := s) (o := o) (ax := ax) (by simp only [runF, mSeq, seqS, mAsg, mBin, mUn, mVar, mC, mRet, mNext, mIfS, mTest, mTruth, mAnd, mOr, mNot, mAndV, mOrV, mNotV, mCl, mCons, mNil, mCall, mDrop, mDrI, mDrNe, mDrIx, mDrLen, mDrSet, mDrPop, drL, isDr0, toS, fName, R.lift, bind_ok, bind_err, bind_bad, eAdd, eSub, eMul, eDiv, eMod, ePow, eNeg, eLt, eLe, eGt, eGe, eEqI, eNeI, eEqS, eEqB, eNeB, eIdxL, eIdxT, eBool, eAbs, Bool.false_eq_true, dList, dTup, if_true, if_false, if_pos, List.map_cons, List.map_nil, List.length_cons, List.length_nil, List.replicate, List.cons_append, List.nil_append, List.getElem?_cons_zero, List.getElem?_cons_succ, List.set_cons_zero, List.set_cons_succ, Nat.reduceAdd, Nat.reduceSub, Nat.reduceLeDiff, Nat.reduceLT, Nat.reduceMul, Int.reduceToNat, Int.reduceEq, Int.reduceAdd, Int.reduceSub, Int.reduceNeg, Bool.not_true, Bool.not_false, decide_true, decide_false, reduceIte, Nat.reduceEqDiff, ite_true, ite_false, mIf, mLst, mSlice, mPart, mNoPart, mItS, mItL, mItT, asSeq, asList, asTup, mFor, mPar, mPass, mBrk, mCnt, mRetN])
  have lc : ∀ x1 x2 x3 x4 x5 : Sl, ∃ n, lc_law_held_0 A [.sh (vD A o ax), x1, x2, x3, x4, x5] s = .ok (List.replicate n (.bl false)) s := by
    intro x1 x2 x3 x4 x5
    obtain ⟨_, f2, f3⟩ := fl x1 x2 x3 .no .no
    have w : wipeE [.sh (vD A o ax), x1, x2, x3, x4, x5] [4, 5] = [.sh (vD A o ax), x1, x2, x3, .no, .no] := rfl
    obtain ⟨_, g2, g3⟩ := fl x1 x2 x3 x4 x5
    simp only [lc_law_held_0, mLc, mItA, w, runF, mSeq, seqS, mAsg, mBin, mUn, mVar, mC, mRet, mNext, mIfS, mTest, mTruth, mAnd, mOr, mNot, mAndV, mOrV, mNotV, mCl, mCons, mNil, mCall, mDrop, mDrI, mDrNe, mDrIx, mDrLen, mDrSet, mDrPop, drL, isDr0, toS, fName, R.lift, bind_ok, bind_err, bind_bad, eAdd, eSub, eMul, eDiv, eMod, ePow, eNeg, eLt, eLe, eGt, eGe, eEqI, eNeI, eEqS, eEqB, eNeB, eIdxL, eIdxT, eBool, eAbs, Bool.false_eq_true, dList, dTup, if_true, if_false, if_pos, List.map_cons, List.map_nil, List.length_cons, List.length_nil, List.replicate, List.cons_append, List.nil_append, List.getElem?_cons_zero, List.getElem?_cons_succ, List.set_cons_zero, List.set_cons_succ, Nat.reduceAdd, Nat.reduceSub, Nat.reduceLeDiff, Nat.reduceLT, Nat.reduceMul, Int.reduceToNat, Int.reduceEq, Int.reduceAdd, Int.reduceSub, Int.reduceNeg, Bool.not_true, Bool.not_false, decide_true, decide_false, reduceIte, Nat.reduceEqDiff, ite_true, ite_false, mIf, mLst, mSlice, mPart, mNoPart, mItS, mItL, mItT, asSeq, asList, asTup, mFor, mPar, mPass, mBrk, mCnt, mRetN, g2, g3, zp]
    rw [lcL_filter (O := O A) (fun d => match d with | .tup [.int l, _] => decide (l = 1) | _ => false) (fun _ => .bl false) (axD ax) [] (by
      intro y hy
      unfold axD at hy
      rw [List.mem_map] at hy
      obtain ⟨a, ha, rfl⟩ := hy
      refine ⟨_, f2_ok _ _ _ _ _, ?_, fun h1 => ?_⟩
      · simp only [runF, mSeq, seqS, mAsg, mBin, mUn, mVar, mC, mRet, mNext, mIfS, mTest, mTruth, mAnd, mOr, mNot, mAndV, mOrV, mNotV, mCl, mCons, mNil, mCall, mDrop, mDrI, mDrNe, mDrIx, mDrLen, mDrSet, mDrPop, drL, isDr0, toS, fName, R.lift, bind_ok, bind_err, bind_bad, eAdd, eSub, eMul, eDiv, eMod, ePow, eNeg, eLt, eLe, eGt, eGe, eEqI, eNeI, eEqS, eEqB, eNeB, eIdxL, eIdxT, eBool, eAbs, Bool.false_eq_true, dList, dTup, if_true, if_false, if_pos, List.map_cons, List.map_nil, List.length_cons, List.length_nil, List.replicate, List.cons_append, List.nil_append, List.getElem?_cons_zero, List.getElem?_cons_succ, List.set_cons_zero, List.set_cons_succ, Nat.reduceAdd, Nat.reduceSub, Nat.reduceLeDiff, Nat.reduceLT, Nat.reduceMul, Int.reduceToNat, Int.reduceEq, Int.reduceAdd, Int.reduceSub, Int.reduceNeg, Bool.not_true, Bool.not_false, decide_true, decide_false, reduceIte, Nat.reduceEqDiff, ite_true, ite_false, mIf, mLst, mSlice, mPart, mNoPart, mItS, mItL, mItT, asSeq, asList, asTup, mFor, mPar, mPass, mBrk, mCnt, mRetN]
      · have hz := hv.one a ha (of_decide_eq_true h1)
        simp only [runF, mSeq, seqS, mAsg, mBin, mUn, mVar, mC, mRet, mNext, mIfS, mTest, mTruth, mAnd, mOr, mNot, mAndV, mOrV, mNotV, mCl, mCons, mNil, mCall, mDrop, mDrI, mDrNe, mDrIx, mDrLen, mDrSet, mDrPop, drL, isDr0, toS, fName, R.lift, bind_ok, bind_err, bind_bad, eAdd, eSub, eMul, eDiv, eMod, ePow, eNeg, eLt, eLe, eGt, eGe, eEqI, eNeI, eEqS, eEqB, eNeB, eIdxL, eIdxT, eBool, eAbs, Bool.false_eq_true, dList, dTup, if_true, if_false, if_pos, List.map_cons, List.map_nil, List.length_cons, List.length_nil, List.replicate, List.cons_append, List.nil_append, List.getElem?_cons_zero, List.getElem?_cons_succ, List.set_cons_zero, List.set_cons_succ, Nat.reduceAdd, Nat.reduceSub, Nat.reduceLeDiff, Nat.reduceLT, Nat.reduceMul, Int.reduceToNat, Int.reduceEq, Int.reduceAdd, Int.reduceSub, Int.reduceNeg, Bool.not_true, Bool.not_false, decide_true, decide_false, reduceIte, Nat.reduceEqDiff, ite_true, ite_false, mIf, mLst, mSlice, mPart, mNoPart, mItS, mItL, mItT, asSeq, asList, asTup, mFor, mPar, mPass, mBrk, mCnt, mRetN, hz]) (by have := hv.len; simp [axD]; omega)]
    rw [List.nil_append, List.map_const']
    exact ⟨_, rfl⟩
  obtain ⟨n, lc⟩ := lc (.sh d) (.sh (.lst (iD (cellsL o ax)))) (.sh (.tup [.int o, .tup (iD (shp ax)), .tup (iD (strd ax))])) .no .no
  obtain ⟨f1, f2, f3⟩ := fl (.sh d) (.sh (.lst (iD (cellsL o ax)))) .no .no .no
  obtain ⟨g1, g2, g3⟩ := fl (.sh d) (.sh (.lst (iD (cellsL o ax)))) (.sh (.tup [.int o, .tup (iD (shp ax)), .tup (iD (strd ax))])) .no .no
  have an := any_false n
  simp only [m_law_held, mb_law_held, runF, mSeq, seqS, mAsg, mBin, mUn, mVar, mC, mRet, mNext, mIfS, mTest, mTruth, mAnd, mOr, mNot, mAndV, mOrV, mNotV, mCl, mCons, mNil, mCall, mDrop, mDrI, mDrNe, mDrIx, mDrLen, mDrSet, mDrPop, drL, isDr0, toS, fName, R.lift, bind_ok, bind_err, bind_bad, eAdd, eSub, eMul, eDiv, eMod, ePow, eNeg, eLt, eLe, eGt, eGe, eEqI, eNeI, eEqS, eEqB, eNeB, eIdxL, eIdxT, eBool, eAbs, Bool.false_eq_true, dList, dTup, if_true, if_false, if_pos, List.map_cons, List.map_nil, List.length_cons, List.length_nil, List.replicate, List.cons_append, List.nil_append, List.getElem?_cons_zero, List.getElem?_cons_succ, List.set_cons_zero, List.set_cons_succ, Nat.reduceAdd, Nat.reduceSub, Nat.reduceLeDiff, Nat.reduceLT, Nat.reduceMul, Int.reduceToNat, Int.reduceEq, Int.reduceAdd, Int.reduceSub, Int.reduceNeg, Bool.not_true, Bool.not_false, decide_true, decide_false, reduceIte, Nat.reduceEqDiff, ite_true, ite_false, mIf, mLst, mSlice, mPart, mNoPart, mItS, mItL, mItT, asSeq, asList, asTup, mFor, mPar, mPass, mBrk, mCnt, mRetN, f1, f2, f3, g1, g2, g3, t1, q1, ls, lt, lc, an, is, c1, e1, dTruth]
end S

namespace S
open PySem PySem.Spec PyProof.Rows L2 RZ Mr
/-! ### axes -/
theorem axes_of_ok (A : Ad) {s : Dr} {o : Int} {ax : Ax} : m_axes_of A [vD A o ax] s = .ok (.lst (axD ax)) s := by
  obtain ⟨_, f2, f3⟩ := fld_ok A (m := mVar (O A) 0) (ρ := [.sh (vD A o ax)]) (s := s) (s' := s) (o := o) (ax := ax) (by simp only [runF, mSeq, seqS, mAsg, mBin, mUn, mVar, mC, mRet, mNext, mIfS, mTest, mTruth, mAnd, mOr, mNot, mAndV, mOrV, mNotV, mCl, mCons, mNil, mCall, mDrop, mDrI, mDrNe, mDrIx, mDrLen, mDrSet, mDrPop, drL, isDr0, toS, fName, R.lift, bind_ok, bind_err, bind_bad, eAdd, eSub, eMul, eDiv, eMod, ePow, eNeg, eLt, eLe, eGt, eGe, eEqI, eNeI, eEqS, eEqB, eNeB, eIdxL, eIdxT, eBool, eAbs, Bool.false_eq_true, dList, dTup, if_true, if_false, if_pos, List.map_cons, List.map_nil, List.length_cons, List.length_nil, List.replicate, List.cons_append, List.nil_append, List.getElem?_cons_zero, List.getElem?_cons_succ, List.set_cons_zero, List.set_cons_succ, Nat.reduceAdd, Nat.reduceSub, Nat.reduceLeDiff, Nat.reduceLT, Nat.reduceMul, Int.reduceToNat, Int.reduceEq, Int.reduceAdd, Int.reduceSub, Int.reduceNeg, Bool.not_true, Bool.not_false, decide_true, decide_false, reduceIte, Nat.reduceEqDiff, ite_true, ite_false, mIf, mLst, mSlice, mPart, mNoPart, mItS, mItL, mItT, asSeq, asList, asTup, mFor, mPar, mPass, mBrk, mCnt, mRetN])
  have zp := sq2.zip (d := .tup (iD (shp ax))) (e := .tup (iD (strd ax))) (ax := ax) ⟨.inr rfl, .inr rfl⟩
  simp only [m_axes_of, mb_axes_of, mZipL, runF, mSeq, seqS, mAsg, mBin, mUn, mVar, mC, mRet, mNext, mIfS, mTest, mTruth, mAnd, mOr, mNot, mAndV, mOrV, mNotV, mCl, mCons, mNil, mCall, mDrop, mDrI, mDrNe, mDrIx, mDrLen, mDrSet, mDrPop, drL, isDr0, toS, fName, R.lift, bind_ok, bind_err, bind_bad, eAdd, eSub, eMul, eDiv, eMod, ePow, eNeg, eLt, eLe, eGt, eGe, eEqI, eNeI, eEqS, eEqB, eNeB, eIdxL, eIdxT, eBool, eAbs, Bool.false_eq_true, dList, dTup, if_true, if_false, if_pos, List.map_cons, List.map_nil, List.length_cons, List.length_nil, List.replicate, List.cons_append, List.nil_append, List.getElem?_cons_zero, List.getElem?_cons_succ, List.set_cons_zero, List.set_cons_succ, Nat.reduceAdd, Nat.reduceSub, Nat.reduceLeDiff, Nat.reduceLT, Nat.reduceMul, Int.reduceToNat, Int.reduceEq, Int.reduceAdd, Int.reduceSub, Int.reduceNeg, Bool.not_true, Bool.not_false, decide_true, decide_false, reduceIte, Nat.reduceEqDiff, ite_true, ite_false, mIf, mLst, mSlice, mPart, mNoPart, mItS, mItL, mItT, asSeq, asList, asTup, mFor, mPar, mPass, mBrk, mCnt, mRetN, f2, f3, zp]
theorem view_with_ok (A : Ad) {s : Dr} {o : Int} {ax : Ax} (hv : Vw0 o ax) : m_view_with A [.int o, .lst (axD ax)] s = .ok (vD A o (nrm ax)) s := by
  have hl := hv.len
  have lc0 : lc_view_with_0 A [.sh (.int o), .sh (.lst (axD ax)), .no, .no] s = .ok (iD (strd ax)) s := by
    simp only [lc_view_with_0, mLc, wipeE, runF, mSeq, seqS, mAsg, mBin, mUn, mVar, mC, mRet, mNext, mIfS, mTest, mTruth, mAnd, mOr, mNot, mAndV, mOrV, mNotV, mCl, mCons, mNil, mCall, mDrop, mDrI, mDrNe, mDrIx, mDrLen, mDrSet, mDrPop, drL, isDr0, toS, fName, R.lift, bind_ok, bind_err, bind_bad, eAdd, eSub, eMul, eDiv, eMod, ePow, eNeg, eLt, eLe, eGt, eGe, eEqI, eNeI, eEqS, eEqB, eNeB, eIdxL, eIdxT, eBool, eAbs, Bool.false_eq_true, dList, dTup, if_true, if_false, if_pos, List.map_cons, List.map_nil, List.length_cons, List.length_nil, List.replicate, List.cons_append, List.nil_append, List.getElem?_cons_zero, List.getElem?_cons_succ, List.set_cons_zero, List.set_cons_succ, Nat.reduceAdd, Nat.reduceSub, Nat.reduceLeDiff, Nat.reduceLT, Nat.reduceMul, Int.reduceToNat, Int.reduceEq, Int.reduceAdd, Int.reduceSub, Int.reduceNeg, Bool.not_true, Bool.not_false, decide_true, decide_false, reduceIte, Nat.reduceEqDiff, ite_true, ite_false, mIf, mLst, mSlice, mPart, mNoPart, mItS, mItL, mItT, asSeq, asList, asTup, mFor, mPar, mPass, mBrk, mCnt, mRetN]
    rw [lcL_map (O := O A) (fun d => match d with | .tup [_, b] => b | _ => .non) (axD ax) [] (by
      intro y hy
      unfold axD at hy
      rw [List.mem_map] at hy
      obtain ⟨a, ha, rfl⟩ := hy
      exact ⟨_, f2_ok _ _ _ _ _, rfl, by simp only [runF, mSeq, seqS, mAsg, mBin, mUn, mVar, mC, mRet, mNext, mIfS, mTest, mTruth, mAnd, mOr, mNot, mAndV, mOrV, mNotV, mCl, mCons, mNil, mCall, mDrop, mDrI, mDrNe, mDrIx, mDrLen, mDrSet, mDrPop, drL, isDr0, toS, fName, R.lift, bind_ok, bind_err, bind_bad, eAdd, eSub, eMul, eDiv, eMod, ePow, eNeg, eLt, eLe, eGt, eGe, eEqI, eNeI, eEqS, eEqB, eNeB, eIdxL, eIdxT, eBool, eAbs, Bool.false_eq_true, dList, dTup, if_true, if_false, if_pos, List.map_cons, List.map_nil, List.length_cons, List.length_nil, List.replicate, List.cons_append, List.nil_append, List.getElem?_cons_zero, List.getElem?_cons_succ, List.set_cons_zero, List.set_cons_succ, Nat.reduceAdd, Nat.reduceSub, Nat.reduceLeDiff, Nat.reduceLT, Nat.reduceMul, Int.reduceToNat, Int.reduceEq, Int.reduceAdd, Int.reduceSub, Int.reduceNeg, Bool.not_true, Bool.not_false, decide_true, decide_false, reduceIte, Nat.reduceEqDiff, ite_true, ite_false, mIf, mLst, mSlice, mPart, mNoPart, mItS, mItL, mItT, asSeq, asList, asTup, mFor, mPar, mPass, mBrk, mCnt, mRetN]⟩) (by simp [axD]; omega)]
    congr 1
    simp only [List.nil_append, axD, iD, strd, List.map_map]
    rfl
  have lc1 : lc_view_with_1 A [.sh (.int o), .sh (.lst (axD ax)), .no, .no] s = .ok (iD (shp ax)) s := by
    simp only [lc_view_with_1, mLc, wipeE, runF, mSeq, seqS, mAsg, mBin, mUn, mVar, mC, mRet, mNext, mIfS, mTest, mTruth, mAnd, mOr, mNot, mAndV, mOrV, mNotV, mCl, mCons, mNil, mCall, mDrop, mDrI, mDrNe, mDrIx, mDrLen, mDrSet, mDrPop, drL, isDr0, toS, fName, R.lift, bind_ok, bind_err, bind_bad, eAdd, eSub, eMul, eDiv, eMod, ePow, eNeg, eLt, eLe, eGt, eGe, eEqI, eNeI, eEqS, eEqB, eNeB, eIdxL, eIdxT, eBool, eAbs, Bool.false_eq_true, dList, dTup, if_true, if_false, if_pos, List.map_cons, List.map_nil, List.length_cons, List.length_nil, List.replicate, List.cons_append, List.nil_append, List.getElem?_cons_zero, List.getElem?_cons_succ, List.set_cons_zero, List.set_cons_succ, Nat.reduceAdd, Nat.reduceSub, Nat.reduceLeDiff, Nat.reduceLT, Nat.reduceMul, Int.reduceToNat, Int.reduceEq, Int.reduceAdd, Int.reduceSub, Int.reduceNeg, Bool.not_true, Bool.not_false, decide_true, decide_false, reduceIte, Nat.reduceEqDiff, ite_true, ite_false, mIf, mLst, mSlice, mPart, mNoPart, mItS, mItL, mItT, asSeq, asList, asTup, mFor, mPar, mPass, mBrk, mCnt, mRetN]
    rw [lcL_map (O := O A) (fun d => match d with | .tup [a, _] => a | _ => .non) (axD ax) [] (by
      intro y hy
      unfold axD at hy
      rw [List.mem_map] at hy
      obtain ⟨a, ha, rfl⟩ := hy
      exact ⟨_, f2_ok _ _ _ _ _, rfl, by simp only [runF, mSeq, seqS, mAsg, mBin, mUn, mVar, mC, mRet, mNext, mIfS, mTest, mTruth, mAnd, mOr, mNot, mAndV, mOrV, mNotV, mCl, mCons, mNil, mCall, mDrop, mDrI, mDrNe, mDrIx, mDrLen, mDrSet, mDrPop, drL, isDr0, toS, fName, R.lift, bind_ok, bind_err, bind_bad, eAdd, eSub, eMul, eDiv, eMod, ePow, eNeg, eLt, eLe, eGt, eGe, eEqI, eNeI, eEqS, eEqB, eNeB, eIdxL, eIdxT, eBool, eAbs, Bool.false_eq_true, dList, dTup, if_true, if_false, if_pos, List.map_cons, List.map_nil, List.length_cons, List.length_nil, List.replicate, List.cons_append, List.nil_append, List.getElem?_cons_zero, List.getElem?_cons_succ, List.set_cons_zero, List.set_cons_succ, Nat.reduceAdd, Nat.reduceSub, Nat.reduceLeDiff, Nat.reduceLT, Nat.reduceMul, Int.reduceToNat, Int.reduceEq, Int.reduceAdd, Int.reduceSub, Int.reduceNeg, Bool.not_true, Bool.not_false, decide_true, decide_false, reduceIte, Nat.reduceEqDiff, ite_true, ite_false, mIf, mLst, mSlice, mPart, mNoPart, mItS, mItL, mItT, asSeq, asList, asTup, mFor, mPar, mPass, mBrk, mCnt, mRetN]⟩) (by simp [axD]; omega)]
    congr 1
    simp only [List.nil_append, axD, iD, shp, List.map_map]
    rfl
  have i := init0_ok A (s := s) (o := o) (ax := ax) (d := .lst (iD (shp ax))) (e := .lst (iD (strd ax))) ⟨.inl rfl, .inl rfl⟩ hv
  simp only [m_view_with, mb_view_with, mMake, runF, mSeq, seqS, mAsg, mBin, mUn, mVar, mC, mRet, mNext, mIfS, mTest, mTruth, mAnd, mOr, mNot, mAndV, mOrV, mNotV, mCl, mCons, mNil, mCall, mDrop, mDrI, mDrNe, mDrIx, mDrLen, mDrSet, mDrPop, drL, isDr0, toS, fName, R.lift, bind_ok, bind_err, bind_bad, eAdd, eSub, eMul, eDiv, eMod, ePow, eNeg, eLt, eLe, eGt, eGe, eEqI, eNeI, eEqS, eEqB, eNeB, eIdxL, eIdxT, eBool, eAbs, Bool.false_eq_true, dList, dTup, if_true, if_false, if_pos, List.map_cons, List.map_nil, List.length_cons, List.length_nil, List.replicate, List.cons_append, List.nil_append, List.getElem?_cons_zero, List.getElem?_cons_succ, List.set_cons_zero, List.set_cons_succ, Nat.reduceAdd, Nat.reduceSub, Nat.reduceLeDiff, Nat.reduceLT, Nat.reduceMul, Int.reduceToNat, Int.reduceEq, Int.reduceAdd, Int.reduceSub, Int.reduceNeg, Bool.not_true, Bool.not_false, decide_true, decide_false, reduceIte, Nat.reduceEqDiff, ite_true, ite_false, mIf, mLst, mSlice, mPart, mNoPart, mItS, mItL, mItT, asSeq, asList, asTup, mFor, mPar, mPass, mBrk, mCnt, mRetN, lc0, lc1, i, vD]
/-! ### coalesce -/
def coal1 (acc : Ax) (a : Int × Int) : Ax := if 1 < a.1 then (match acc.getLast? with
  | some b => if b.2 = a.1 * a.2 then acc.dropLast ++ [(b.1 * a.1, a.2)] else acc ++ [a]
  | none => [a]) else acc
def coal (ax : Ax) : Ax := ax.foldl coal1 []
theorem coal_body (A : Ad) {s : Dr} {x0 x2 x3 : Sl} {acc : Ax} {a : Int × Int} (ha : 1 ≤ a.1 ∧ a.1 ≤ 64 ∧ -(10 ^ 60) < a.2 ∧ a.2 < 10 ^ 60) (hb : ∀ b ∈ acc, 1 ≤ b.1 ∧ b.1 ≤ 64 ∧ -(10 ^ 60) < b.2 ∧ b.2 < 10 ^ 60) (hl : acc.length ≤ 100) :
    bd_coalesce_0 A [x0, .own (axD acc), .sh (.int a.1), .sh (.int a.2)] s = .nx [x0, .own (axD (coal1 acc a)), .sh (.int a.1), .sh (.int a.2)] s := by
  have c1 : CMulG a.1 a.2 := mulG (by omega) (by omega) (by omega) (by omega)
  have ll : (axD acc).length < 100000 := by simp [axD]; omega
  unfold coal1
  by_cases h1 : 1 < a.1
  · rw [if_pos h1]
    rcases List.eq_nil_or_concat acc with rfl | ⟨pre, b, rfl⟩
    · have e0 : axD ([] : Ax) = [] := rfl
      simp only [bd_coalesce_0, mTruthO, mAppend, e0, List.isEmpty_nil, runF, mSeq, seqS, mAsg, mBin, mUn, mVar, mC, mRet, mNext, mIfS, mTest, mTruth, mAnd, mOr, mNot, mAndV, mOrV, mNotV, mCl, mCons, mNil, mCall, mDrop, mDrI, mDrNe, mDrIx, mDrLen, mDrSet, mDrPop, drL, isDr0, toS, fName, R.lift, bind_ok, bind_err, bind_bad, eAdd, eSub, eMul, eDiv, eMod, ePow, eNeg, eLt, eLe, eGt, eGe, eEqI, eNeI, eEqS, eEqB, eNeB, eIdxL, eIdxT, eBool, eAbs, Bool.false_eq_true, dList, dTup, if_true, if_false, if_pos, List.map_cons, List.map_nil, List.length_cons, List.length_nil, List.replicate, List.cons_append, List.nil_append, List.getElem?_cons_zero, List.getElem?_cons_succ, List.set_cons_zero, List.set_cons_succ, Nat.reduceAdd, Nat.reduceSub, Nat.reduceLeDiff, Nat.reduceLT, Nat.reduceMul, Int.reduceToNat, Int.reduceEq, Int.reduceAdd, Int.reduceSub, Int.reduceNeg, Bool.not_true, Bool.not_false, decide_true, decide_false, reduceIte, Nat.reduceEqDiff, ite_true, ite_false, mIf, mLst, mSlice, mPart, mNoPart, mItS, mItL, mItT, asSeq, asList, asTup, mFor, mPar, mPass, mBrk, mCnt, mRetN, h1]
      rfl
    · rw [List.concat_eq_append] at *
      have eb := hb b (by simp)
      have c2 : CMulG b.1 a.1 := mulG (by omega) (by omega) (by omega) (by omega)
      have ea : axD (pre ++ [b]) = axD pre ++ [D.tup [.int b.1, .int b.2]] := by simp [axD]
      have li : L2.atI (axD (pre ++ [b])) (-1) = some (D.tup [.int b.1, .int b.2]) := by
        have : ∀ (ds : List D) (d : D), L2.atI (ds ++ [d]) (-1) = some d := fun ds d => by
          unfold L2.atI ixN
          rw [if_neg (by decide), if_pos (by simp; omega)]
          have e : ((-1 : Int) + ((ds ++ [d]).length : Int)).toNat = ds.length := by simp; omega
          rw [e]
          simp
        rw [ea]
        exact this _ _
      have ix : ixN (axD (pre ++ [b])).length (-1) = some (axD pre).length := by
        rw [ea]
        unfold ixN
        rw [if_neg (by decide), if_pos (by simp; omega)]
        congr 1
        simp
        omega
      have em : (axD (pre ++ [b])).isEmpty = false := by rw [ea]; simp
      rw [List.getLast?_concat, List.dropLast_concat]
      dsimp only
      by_cases h2 : b.2 = a.1 * a.2
      · rw [if_pos h2]
        have st : (axD (pre ++ [b])).set (axD pre).length (D.tup [.int (b.1 * a.1), .int a.2]) = axD (pre ++ [(b.1 * a.1, a.2)]) := by
          rw [ea]
          simp [axD]
        simp only [bd_coalesce_0, mTruthO, mIdxO, mSetI, em, li, ix, st, runF, mSeq, seqS, mAsg, mBin, mUn, mVar, mC, mRet, mNext, mIfS, mTest, mTruth, mAnd, mOr, mNot, mAndV, mOrV, mNotV, mCl, mCons, mNil, mCall, mDrop, mDrI, mDrNe, mDrIx, mDrLen, mDrSet, mDrPop, drL, isDr0, toS, fName, R.lift, bind_ok, bind_err, bind_bad, eAdd, eSub, eMul, eDiv, eMod, ePow, eNeg, eLt, eLe, eGt, eGe, eEqI, eNeI, eEqS, eEqB, eNeB, eIdxL, eIdxT, eBool, eAbs, Bool.false_eq_true, dList, dTup, if_true, if_false, if_pos, List.map_cons, List.map_nil, List.length_cons, List.length_nil, List.replicate, List.cons_append, List.nil_append, List.getElem?_cons_zero, List.getElem?_cons_succ, List.set_cons_zero, List.set_cons_succ, Nat.reduceAdd, Nat.reduceSub, Nat.reduceLeDiff, Nat.reduceLT, Nat.reduceMul, Int.reduceToNat, Int.reduceEq, Int.reduceAdd, Int.reduceSub, Int.reduceNeg, Bool.not_true, Bool.not_false, decide_true, decide_false, reduceIte, Nat.reduceEqDiff, ite_true, ite_false, mIf, mLst, mSlice, mPart, mNoPart, mItS, mItL, mItT, asSeq, asList, asTup, mFor, mPar, mPass, mBrk, mCnt, mRetN, h1, at0, at1, c1, c2, h2]
      · rw [if_neg h2]
        have ap : axD (pre ++ [b]) ++ [D.tup [.int a.1, .int a.2]] = axD (pre ++ [b] ++ [a]) := by simp [axD]
        simp only [bd_coalesce_0, mTruthO, mIdxO, mAppend, em, li, runF, mSeq, seqS, mAsg, mBin, mUn, mVar, mC, mRet, mNext, mIfS, mTest, mTruth, mAnd, mOr, mNot, mAndV, mOrV, mNotV, mCl, mCons, mNil, mCall, mDrop, mDrI, mDrNe, mDrIx, mDrLen, mDrSet, mDrPop, drL, isDr0, toS, fName, R.lift, bind_ok, bind_err, bind_bad, eAdd, eSub, eMul, eDiv, eMod, ePow, eNeg, eLt, eLe, eGt, eGe, eEqI, eNeI, eEqS, eEqB, eNeB, eIdxL, eIdxT, eBool, eAbs, Bool.false_eq_true, dList, dTup, if_true, if_false, if_pos, List.map_cons, List.map_nil, List.length_cons, List.length_nil, List.replicate, List.cons_append, List.nil_append, List.getElem?_cons_zero, List.getElem?_cons_succ, List.set_cons_zero, List.set_cons_succ, Nat.reduceAdd, Nat.reduceSub, Nat.reduceLeDiff, Nat.reduceLT, Nat.reduceMul, Int.reduceToNat, Int.reduceEq, Int.reduceAdd, Int.reduceSub, Int.reduceNeg, Bool.not_true, Bool.not_false, decide_true, decide_false, reduceIte, Nat.reduceEqDiff, ite_true, ite_false, mIf, mLst, mSlice, mPart, mNoPart, mItS, mItL, mItT, asSeq, asList, asTup, mFor, mPar, mPass, mBrk, mCnt, mRetN, h1, at1, c1, h2, ll, ap]
  · rw [if_neg h1]
    simp only [bd_coalesce_0, runF, mSeq, seqS, mAsg, mBin, mUn, mVar, mC, mRet, mNext, mIfS, mTest, mTruth, mAnd, mOr, mNot, mAndV, mOrV, mNotV, mCl, mCons, mNil, mCall, mDrop, mDrI, mDrNe, mDrIx, mDrLen, mDrSet, mDrPop, drL, isDr0, toS, fName, R.lift, bind_ok, bind_err, bind_bad, eAdd, eSub, eMul, eDiv, eMod, ePow, eNeg, eLt, eLe, eGt, eGe, eEqI, eNeI, eEqS, eEqB, eNeB, eIdxL, eIdxT, eBool, eAbs, Bool.false_eq_true, dList, dTup, if_true, if_false, if_pos, List.map_cons, List.map_nil, List.length_cons, List.length_nil, List.replicate, List.cons_append, List.nil_append, List.getElem?_cons_zero, List.getElem?_cons_succ, List.set_cons_zero, List.set_cons_succ, Nat.reduceAdd, Nat.reduceSub, Nat.reduceLeDiff, Nat.reduceLT, Nat.reduceMul, Int.reduceToNat, Int.reduceEq, Int.reduceAdd, Int.reduceSub, Int.reduceNeg, Bool.not_true, Bool.not_false, decide_true, decide_false, reduceIte, Nat.reduceEqDiff, ite_true, ite_false, mIf, mLst, mSlice, mPart, mNoPart, mItS, mItL, mItT, asSeq, asList, asTup, mFor, mPar, mPass, mBrk, mCnt, mRetN, h1]
/-! what coalescing keeps -/
theorem cellsF_app : ∀ (ax bx : Ax) (cs : List Int), cellsF (ax ++ bx) cs = cellsF bx (cellsF ax cs)
  | [], bx, cs => rfl
  | a :: ax, bx, cs => by
    show cellsF (ax ++ bx) _ = cellsF bx (cellsF ax _)
    rw [cellsF_app ax bx]
theorem cells_merge {l m t : Int} (hl : 0 ≤ l) (hm : 0 ≤ m) (cs : List Int) : cellsF [(m, t)] (cellsF [(l, m * t)] cs) = cellsF [(l * m, t)] cs := by
  show ((cs.flatMap fun c => (rng l).map fun k => c + k * (m * t)).flatMap fun c => (rng m).map fun k => c + k * t) = cs.flatMap fun c => (rng (l * m)).map fun k => c + k * t
  rw [List.flatMap_assoc, rng_mul hl hm]
  congr 1
  funext c
  rw [List.flatMap_map, List.map_flatMap]
  congr 1
  funext i
  rw [List.map_map]
  congr 1
  funext j
  simp only [Function.comp]
  rw [Int.add_mul, Int.mul_assoc, Int.add_assoc]
theorem cells_one {t : Int} (cs : List Int) : cellsF [(1, t)] cs = cs := by
  show (cs.flatMap fun c => (rng 1).map fun k => c + k * t) = cs
  have r : rng 1 = [0] := rfl
  simp [r]
theorem lowS_app : ∀ ax bx : Ax, lowS (ax ++ bx) = lowS ax + lowS bx ∧ highS (ax ++ bx) = highS ax + highS bx
  | [], bx => by simp [lowS, highS]
  | a :: ax, bx => by
    obtain ⟨h1, h2⟩ := lowS_app ax bx
    simp only [List.cons_append, lowS, highS, h1, h2]
    omega
theorem ends_merge {l m t : Int} (hl : 1 ≤ l) (hm : 1 ≤ m) : neg0 ((l - 1) * (m * t)) + neg0 ((m - 1) * t) = neg0 ((l * m - 1) * t) ∧ pos0 ((l - 1) * (m * t)) + pos0 ((m - 1) * t) = pos0 ((l * m - 1) * t) := by
  have e : (l * m - 1) * t = (l - 1) * (m * t) + (m - 1) * t := by
    rw [← Int.mul_assoc, ← Int.add_mul]
    congr 1
    rw [Int.sub_mul]
    omega
  rw [e]
  unfold neg0 pos0
  by_cases ht : 0 ≤ t
  · have h1 : 0 ≤ (l - 1) * (m * t) := Int.mul_nonneg (by omega) (Int.mul_nonneg (by omega) ht)
    have h2 : 0 ≤ (m - 1) * t := Int.mul_nonneg (by omega) ht
    constructor <;> (split <;> split <;> split <;> omega)
  · have h1 : (l - 1) * (m * t) ≤ 0 := by
      have := Int.mul_nonneg (show 0 ≤ l - 1 by omega) (Int.mul_nonneg (show 0 ≤ m by omega) (show 0 ≤ -t by omega))
      rw [Int.mul_neg, Int.mul_neg] at this
      omega
    have h2 : (m - 1) * t ≤ 0 := by
      have := Int.mul_nonneg (show 0 ≤ m - 1 by omega) (show 0 ≤ -t by omega)
      rw [Int.mul_neg] at this
      omega
    constructor <;> (split <;> split <;> split <;> omega)
/-- the axes so far, merged -/
structure Cl (acc done : Ax) : Prop where
  cells : ∀ cs, cellsF acc cs = cellsF done cs
  low : lowS acc = lowS done
  high : highS acc = highS done
  prd : prodL (shp acc) = prodL (shp done)
  big : ∀ b ∈ acc, 2 ≤ b.1
  len : acc.length ≤ done.length
  apart : ∀ (j : Nat) (b c : Int × Int), acc[j]? = some b → acc[j + 1]? = some c → b.2 ≠ c.1 * c.2
theorem shp_app (ax bx : Ax) : shp (ax ++ bx) = shp ax ++ shp bx := by simp [shp]
theorem Cl.step {acc done : Ax} (h : Cl acc done) {a : Int × Int} (ha : 1 ≤ a.1) (h1 : a.1 = 1 → a.2 = 0) : Cl (coal1 acc a) (done ++ [a]) := by
  obtain ⟨l2, hi2⟩ := lowS_app done [a]
  have p2 : prodL (shp (done ++ [a])) = prodL (shp done) * a.1 := by
    rw [shp_app, prodL_app]
    show _ * (a.1 * 1) = _
    rw [Int.mul_one]
  have la : lowS [a] = neg0 ((a.1 - 1) * a.2) ∧ highS [a] = pos0 ((a.1 - 1) * a.2) := by simp [lowS, highS]
  unfold coal1
  by_cases hb : 1 < a.1
  · rw [if_pos hb]
    rcases List.eq_nil_or_concat acc with rfl | ⟨pre, b, rfl⟩
    · refine ⟨fun cs => ?_, ?_, ?_, ?_, ?_, ?_, ?_⟩
      · rw [cellsF_app, ← h.cells]; rfl
      · rw [l2, ← h.low]; simp [lowS]
      · rw [hi2, ← h.high]; simp [highS]
      · rw [p2, ← h.prd]; simp [shp, prodL]
      · intro b hb'
        rw [List.getLast?_nil] at hb'
        rw [List.mem_singleton] at hb'
        subst hb'
        omega
      · simp
      · intro j b c e1 e2
        rw [List.getLast?_nil] at e2
        simp at e2
    · rw [List.concat_eq_append] at h ⊢
      rw [List.getLast?_concat, List.dropLast_concat]
      dsimp only
      have bb := h.big b (by simp)
      obtain ⟨l3, hi3⟩ := lowS_app pre [b]
      have lb : lowS [b] = neg0 ((b.1 - 1) * b.2) ∧ highS [b] = pos0 ((b.1 - 1) * b.2) := by simp [lowS, highS]
      have p3 : prodL (shp (pre ++ [b])) = prodL (shp pre) * b.1 := by
        rw [shp_app, prodL_app]
        show _ * (b.1 * 1) = _
        rw [Int.mul_one]
      by_cases h2 : b.2 = a.1 * a.2
      · rw [if_pos h2]
        obtain ⟨l4, hi4⟩ := lowS_app pre [(b.1 * a.1, a.2)]
        obtain ⟨m1, m2⟩ := ends_merge (l := b.1) (m := a.1) (t := a.2) (by omega) ha
        have lc : lowS [(b.1 * a.1, a.2)] = neg0 ((b.1 * a.1 - 1) * a.2) ∧ highS [(b.1 * a.1, a.2)] = pos0 ((b.1 * a.1 - 1) * a.2) := by simp [lowS, highS]
        refine ⟨fun cs => ?_, ?_, ?_, ?_, ?_, ?_, ?_⟩
        · rw [cellsF_app done, ← h.cells, cellsF_app, cellsF_app]
          have eb : b = (b.1, a.1 * a.2) := by rw [← h2]
          rw [eb]
          exact (cells_merge (by omega) (by omega) _).symm
        · rw [l2, ← h.low, l3, l4, la.1, lb.1, lc.1, h2]
          omega
        · rw [hi2, ← h.high, hi3, hi4, la.2, lb.2, lc.2, h2]
          omega
        · rw [p2, ← h.prd, p3, shp_app, prodL_app]
          show _ * (b.1 * a.1 * 1) = _
          rw [Int.mul_one, Int.mul_assoc]
        · intro c hc
          rcases List.mem_append.mp hc with q | q
          · exact h.big c (by simp [q])
          · rw [List.mem_singleton] at q
            subst q
            have := Int.mul_le_mul bb ha (by decide) (by omega)
            simpa using this
        · have := h.len
          simp at this ⊢
          omega
        · intro j c d e1 e2
          by_cases hj : j + 1 < pre.length
          · rw [List.getElem?_append_left (by omega)] at e1 e2
            exact h.apart j c d (by rw [List.getElem?_append_left (by omega)]; exact e1) (by rw [List.getElem?_append_left (by omega)]; exact e2)
          · have hlt := (List.getElem?_eq_some_iff.mp e2).1
            rw [List.length_append, List.length_singleton] at hlt
            have ej : j + 1 = pre.length := by omega
            rw [List.getElem?_append_left (by omega)] at e1
            rw [List.getElem?_append_right (by omega), ej, Nat.sub_self] at e2
            simp only [List.getElem?_cons_zero, Option.some.injEq] at e2
            subst e2
            have := h.apart j c b (by rw [List.getElem?_append_left (by omega)]; exact e1) (by rw [List.getElem?_append_right (by omega), ej, Nat.sub_self]; rfl)
            intro q
            apply this
            rw [q, h2, Int.mul_assoc]
      · rw [if_neg h2]
        refine ⟨fun cs => ?_, ?_, ?_, ?_, ?_, ?_, ?_⟩
        · rw [cellsF_app done, ← h.cells, cellsF_app]
        · rw [l2, ← h.low, (lowS_app (pre ++ [b]) [a]).1]
        · rw [hi2, ← h.high, (lowS_app (pre ++ [b]) [a]).2]
        · rw [p2, ← h.prd, shp_app (pre ++ [b]), prodL_app]
          show _ * (a.1 * 1) = _
          rw [Int.mul_one]
        · intro c hc
          rcases List.mem_append.mp hc with q | q
          · exact h.big c q
          · rw [List.mem_singleton] at q
            subst q
            omega
        · have := h.len
          rw [List.length_append, List.length_append] at *
          simp at this ⊢
          omega
        · intro j c d e1 e2
          by_cases hj : j + 1 < (pre ++ [b]).length
          · rw [List.getElem?_append_left (by omega)] at e1 e2
            exact h.apart j c d e1 e2
          · have hlt := (List.getElem?_eq_some_iff.mp e2).1
            rw [List.length_append (as := pre ++ [b]), List.length_singleton] at hlt
            have ej : j + 1 = (pre ++ [b]).length := by omega
            have ep : j = pre.length := by simp at ej; omega
            rw [List.getElem?_append_left (by omega), List.getElem?_append_right (by omega), ep, Nat.sub_self] at e1
            rw [List.getElem?_append_right (by omega), ej, Nat.sub_self] at e2
            simp only [List.getElem?_cons_zero, Option.some.injEq] at e1 e2
            subst e1 e2
            exact h2
  · rw [if_neg hb]
    have e1 : a.1 = 1 := by omega
    have e2 := h1 e1
    have ea : a = (1, 0) := by rw [← e1, ← e2]
    refine ⟨fun cs => ?_, ?_, ?_, ?_, h.big, ?_, h.apart⟩
    · rw [cellsF_app, ea, cells_one]; exact h.cells cs
    · rw [l2, h.low, la.1, e2]; simp [neg0]
    · rw [hi2, h.high, la.2, e2]; simp [pos0]
    · rw [p2, h.prd, e1, Int.mul_one]
    · have := h.len; simp; omega
theorem Cl.nil : Cl [] [] := ⟨fun _ => rfl, rfl, rfl, rfl, fun b hb => absurd hb List.not_mem_nil, Nat.le_refl _, fun j b c e => by cases e⟩
theorem Cl.fold : ∀ {ax acc done : Ax}, Cl acc done → (∀ a ∈ ax, 1 ≤ a.1 ∧ (a.1 = 1 → a.2 = 0)) → Cl (ax.foldl coal1 acc) (done ++ ax)
  | [], acc, done, h, _ => by simpa using h
  | a :: ax, acc, done, h, k => by
    have := Cl.fold (ax := ax) (h.step (k a List.mem_cons_self).1 (k a List.mem_cons_self).2) fun b hb => k b (List.mem_cons_of_mem _ hb)
    simpa using this
theorem coal_cl {c m o : Int} {ax : Ax} (hv : Vw c m o ax) : Cl (coal ax) ax := by
  have := Cl.fold (ax := ax) Cl.nil fun a ha => ⟨hv.pos a ha, hv.one a ha⟩
  rw [List.nil_append] at this
  exact this
theorem coal_vw {c m o : Int} {ax : Ax} (hv : Vw c m o ax) : Vw c m o (coal ax) := by
  have k := coal_cl hv
  exact ⟨Nat.le_trans k.len hv.len, fun a ha => by have := k.big a ha; omega, fun a ha h1 => by have := k.big a ha; omega, by rw [k.prd]; exact hv.prd, by rw [k.low]; exact hv.low, by rw [k.high]; exact hv.high⟩
theorem coal_cells {c m o : Int} {ax : Ax} (hv : Vw c m o ax) : cellsL o (coal ax) = cellsL o ax := (coal_cl hv).cells [o]
/-- what is merged stays -/
theorem coal_fix : ∀ (bx acc : Ax), (∀ b ∈ acc ++ bx, 2 ≤ b.1) → (∀ (j : Nat) (b c : Int × Int), (acc ++ bx)[j]? = some b → (acc ++ bx)[j + 1]? = some c → b.2 ≠ c.1 * c.2) → bx.foldl coal1 acc = acc ++ bx
  | [], acc, _, _ => by simp
  | a :: bx, acc, h, k => by
    have ha := h a (by simp)
    have e : coal1 acc a = acc ++ [a] := by
      unfold coal1
      rw [if_pos (by omega)]
      rcases List.eq_nil_or_concat acc with rfl | ⟨pre, b, rfl⟩
      · rfl
      · rw [List.concat_eq_append] at k ⊢
        rw [List.getLast?_concat]
        dsimp only
        rw [if_neg (k pre.length b a (by simp) (by simp [List.getElem?_append]))]
    rw [List.foldl_cons, e, coal_fix bx (acc ++ [a]) (by simpa using h) (by simpa using k)]
    simp
theorem coal_idem {c m o : Int} {ax : Ax} (hv : Vw c m o ax) : coal (coal ax) = coal ax := by
  have k := coal_cl hv
  have := coal_fix (coal ax) [] (by simpa using k.big) (by simpa using k.apart)
  simpa [coal] using this
theorem coal1_str {acc : Ax} {a : Int × Int} {P : Int → Prop} (h : ∀ b ∈ acc, P b.2) (ha : P a.2) : ∀ b ∈ coal1 acc a, P b.2 := by
  unfold coal1
  split
  · split
    · split
      · intro b hb
        rcases List.mem_append.mp hb with q | q
        · exact h b (List.dropLast_subset _ q)
        · rw [List.mem_singleton] at q; subst q; exact ha
      · intro b hb
        rcases List.mem_append.mp hb with q | q
        · exact h b q
        · rw [List.mem_singleton] at q; subst q; exact ha
    · intro b hb
      rw [List.mem_singleton] at hb; subst hb; exact ha
  · exact h
theorem prod_pre {ax bx : Ax} (h : ∀ a ∈ ax ++ bx, 1 ≤ a.1) : prodL (shp ax) ≤ prodL (shp (ax ++ bx)) := by
  have ps : ∀ cx : Ax, (∀ a ∈ cx, 1 ≤ a.1) → ∀ x ∈ shp cx, 1 ≤ x := fun cx hc x hx => by
    unfold shp at hx
    rw [List.mem_map] at hx
    obtain ⟨a, ha, rfl⟩ := hx
    exact hc a ha
  have p1 := prod_pos (ps ax fun a ha => h a (List.mem_append_left _ ha))
  have p2 := prod_pos (ps bx fun a ha => h a (List.mem_append_right _ ha))
  rw [shp_app, prodL_app]
  have := Int.mul_le_mul_of_nonneg_left p2 (show 0 ≤ prodL (shp ax) by omega)
  omega
theorem coal_loop (A : Ad) {x0 : Sl} {s : Dr} : ∀ (ax acc done : Ax) (x2 x3 : Sl), Cl acc done → (∀ a ∈ done ++ ax, 1 ≤ a.1 ∧ (a.1 = 1 → a.2 = 0) ∧ -(10 ^ 60) < a.2 ∧ a.2 < 10 ^ 60) → (∀ b ∈ acc, -(10 ^ 60) < b.2 ∧ b.2 < 10 ^ 60) → prodL (shp (done ++ ax)) ≤ 64 → (done ++ ax).length ≤ 100 →
    ∃ y2 y3, forL (O A).S (fTup 2 (fCons (fName 2) (fCons (fName 3) fNil))) (bd_coalesce_0 A) (axD ax) [x0, .own (axD acc), x2, x3] s = .nx [x0, .own (axD (ax.foldl coal1 acc)), y2, y3] s
  | [], acc, done, x2, x3, _, _, _, _, _ => ⟨x2, x3, rfl⟩
  | a :: ax, acc, done, x2, x3, k, h, hs, hp, hl => by
    have ha := h a (by simp)
    have pos : ∀ b ∈ done ++ a :: ax, 1 ≤ b.1 := fun b hb => (h b hb).1
    have hd : prodL (shp done) ≤ 64 := Int.le_trans (prod_pre pos) hp
    have psx : ∀ cx : Ax, (∀ a ∈ cx, 1 ≤ a.1) → ∀ x ∈ shp cx, 1 ≤ x := fun cx hc x hx => by
      unfold shp at hx
      rw [List.mem_map] at hx
      obtain ⟨a, ha, rfl⟩ := hx
      exact hc a ha
    have a64 : a.1 ≤ 64 := by
      have := view_reason_ok.le_prod (psx _ pos) (show a.1 ∈ shp (done ++ a :: ax) by simp [shp])
      omega
    have hb : ∀ b ∈ acc, 1 ≤ b.1 ∧ b.1 ≤ 64 ∧ -(10 ^ 60) < b.2 ∧ b.2 < 10 ^ 60 := fun b hb => by
      have b2 := k.big b hb
      have := view_reason_ok.le_prod (psx acc fun c hc => by have := k.big c hc; omega) (show b.1 ∈ shp acc from List.mem_map_of_mem hb)
      rw [k.prd] at this
      exact ⟨by omega, by omega, hs b hb⟩
    have hla : acc.length ≤ 100 := by
      have := k.len
      rw [List.length_append] at hl
      omega
    have st := coal_body A (s := s) (x0 := x0) (x2 := x2) (x3 := x3) (acc := acc) (a := a) ⟨ha.1, a64, ha.2.2⟩ hb hla
    obtain ⟨y2, y3, e⟩ := coal_loop A (x0 := x0) (s := s) ax (coal1 acc a) (done ++ [a]) (.sh (.int a.1)) (.sh (.int a.2)) (k.step ha.1 ha.2.1) (by simpa using h) (coal1_str (P := fun t => -(10 ^ 60) < t ∧ t < 10 ^ 60) hs ha.2.2) (by simpa using hp) (by simpa using hl)
    refine ⟨y2, y3, ?_⟩
    show forL (O A).S _ _ (D.tup [.int a.1, .int a.2] :: axD ax) _ s = _
    rw [forL_step (f2_ok _ _ _ _ _) st]
    exact e
theorem coalesce_ok (A : Ad) {s : Dr} {o : Int} {ax : Ax} (hv : Vw 64 64 o ax) : m_coalesce A [vD A o ax] s = .ok (vD A o (coal ax)) s := by
  have bd := hv.bd (by decide)
  obtain ⟨y2, y3, e⟩ := coal_loop A (x0 := .sh (vD A o ax)) (s := s) ax [] [] .no .no Cl.nil (fun a ha => ⟨hv.pos a ha, hv.one a ha, bd.str a ha⟩) (fun b hb => absurd hb List.not_mem_nil) hv.prd (by have := hv.len; simp; omega)
  have ao := axes_of_ok A (s := s) (o := o) (ax := ax)
  have cv := coal_vw hv
  have vw := view_with_ok A (s := s) (cv.v0 (by decide) (by decide))
  rw [nrm_id cv.pos cv.one] at vw
  have e0 : axD ([] : Ax) = [] := rfl
  rw [e0] at e
  obtain ⟨f1, _, _⟩ := fld_ok A (m := mVar (O A) 0) (ρ := [.sh (vD A o ax), .sh (.lst (axD (coal ax))), y2, y3]) (s := s) (s' := s) (o := o) (ax := ax) (by simp only [runF, mSeq, seqS, mAsg, mBin, mUn, mVar, mC, mRet, mNext, mIfS, mTest, mTruth, mAnd, mOr, mNot, mAndV, mOrV, mNotV, mCl, mCons, mNil, mCall, mDrop, mDrI, mDrNe, mDrIx, mDrLen, mDrSet, mDrPop, drL, isDr0, toS, fName, R.lift, bind_ok, bind_err, bind_bad, eAdd, eSub, eMul, eDiv, eMod, ePow, eNeg, eLt, eLe, eGt, eGe, eEqI, eNeI, eEqS, eEqB, eNeB, eIdxL, eIdxT, eBool, eAbs, Bool.false_eq_true, dList, dTup, if_true, if_false, if_pos, List.map_cons, List.map_nil, List.length_cons, List.length_nil, List.replicate, List.cons_append, List.nil_append, List.getElem?_cons_zero, List.getElem?_cons_succ, List.set_cons_zero, List.set_cons_succ, Nat.reduceAdd, Nat.reduceSub, Nat.reduceLeDiff, Nat.reduceLT, Nat.reduceMul, Int.reduceToNat, Int.reduceEq, Int.reduceAdd, Int.reduceSub, Int.reduceNeg, Bool.not_true, Bool.not_false, decide_true, decide_false, reduceIte, Nat.reduceEqDiff, ite_true, ite_false, mIf, mLst, mSlice, mPart, mNoPart, mItS, mItL, mItT, asSeq, asList, asTup, mFor, mPar, mPass, mBrk, mCnt, mRetN])
  have ef : ax.foldl coal1 [] = coal ax := rfl
  rw [ef] at e
  simp only [m_coalesce, mb_coalesce, mOwn, mDisp, listMax, mFrz, frzE, runF, mSeq, seqS, mAsg, mBin, mUn, mVar, mC, mRet, mNext, mIfS, mTest, mTruth, mAnd, mOr, mNot, mAndV, mOrV, mNotV, mCl, mCons, mNil, mCall, mDrop, mDrI, mDrNe, mDrIx, mDrLen, mDrSet, mDrPop, drL, isDr0, toS, fName, R.lift, bind_ok, bind_err, bind_bad, eAdd, eSub, eMul, eDiv, eMod, ePow, eNeg, eLt, eLe, eGt, eGe, eEqI, eNeI, eEqS, eEqB, eNeB, eIdxL, eIdxT, eBool, eAbs, Bool.false_eq_true, dList, dTup, if_true, if_false, if_pos, List.map_cons, List.map_nil, List.length_cons, List.length_nil, List.replicate, List.cons_append, List.nil_append, List.getElem?_cons_zero, List.getElem?_cons_succ, List.set_cons_zero, List.set_cons_succ, Nat.reduceAdd, Nat.reduceSub, Nat.reduceLeDiff, Nat.reduceLT, Nat.reduceMul, Int.reduceToNat, Int.reduceEq, Int.reduceAdd, Int.reduceSub, Int.reduceNeg, Bool.not_true, Bool.not_false, decide_true, decide_false, reduceIte, Nat.reduceEqDiff, ite_true, ite_false, mIf, mLst, mSlice, mPart, mNoPart, mItS, mItL, mItT, asSeq, asList, asTup, mFor, mPar, mPass, mBrk, mCnt, mRetN, ao, e, f1, vw]
end S

namespace S
open PySem PySem.Spec PyProof.Rows L2 RZ Mr
theorem forL_all {O : Wo} {f : D → Ev → Option Ev} {mb : MS O} (I : Ev → O.S → Prop) : ∀ (ds : List D), (∀ d ∈ ds, ∀ ρ s, I ρ s → ∃ ρ1, f d ρ = some ρ1 ∧ Nx I (mb ρ1 s)) → ∀ (ρ : Ev) (s : O.S), I ρ s → Nx I (forL O.S f mb ds ρ s)
  | [], _, ρ, s, h => ⟨ρ, s, rfl, h⟩
  | d :: ds, st, ρ, s, h => by
    obtain ⟨ρ1, e1, ρ2, s2, e2, h2⟩ := st d List.mem_cons_self ρ s h
    rw [forL_step e1 e2]
    exact forL_all I ds (fun d hd => st d (List.mem_cons_of_mem _ hd)) ρ2 s2 h2
theorem at_map {ax : Ax} (g : Int × Int → Int) {j : Int} {B : Int × Int} (h0 : 0 ≤ j) (h : ax[j.toNat]? = some B) : atI (iD (ax.map g)) j = some (.int (g B)) := by
  have hl : j.toNat < ax.length := by
    rcases Nat.lt_or_ge j.toNat ax.length with q | q
    · exact q
    · rw [List.getElem?_eq_none q] at h; cases h
  unfold atI ixN
  rw [if_pos h0, if_pos (by simp [iD]; omega)]
  simp only [Option.bind_some, iD, List.map_map, List.getElem?_map, h, Option.map_some]
  rfl
theorem in_tup (c : Int) (cs : List Int) : dIn (.int c) (.tup (iD cs)) = some (.bl (decide (c ∈ cs))) := (in_ints c cs).1
theorem pl_pt {o : Int} {ax : Ax} (h : ax.length ≤ 4) : plD 3 (ptD o ax) = true := by
  have key : ∀ xs : List Int, xs.length ≤ 4 → plD 2 (.tup (iD xs)) = true := by
    intro xs h
    simp only [plD, iD, List.length_map, Bool.and_eq_true, decide_eq_true_eq, List.all_eq_true]
    refine ⟨by omega, fun d hd => ?_⟩
    rw [List.mem_map] at hd
    obtain ⟨i, _, rfl⟩ := hd
    rfl
  show (decide (3 ≤ 100000) && [D.int o, .tup (iD (shp ax)), .tup (iD (strd ax))].all (plD 2)) = true
  rw [List.all_cons, List.all_cons, List.all_cons, List.all_nil, key _ (by simpa [shp] using h), key _ (by simpa [strd] using h)]
  rfl
theorem parts_ok (A : Ad) {s : Dr} {o : Int} {ax : Ax} : m_View_parts A [vD A o ax] s = .ok (ptD o ax) s := by
  obtain ⟨f1, f2, f3⟩ := fld_ok A (m := mVar (O A) 0) (ρ := [.sh (vD A o ax)]) (s := s) (s' := s) (o := o) (ax := ax) (by simp only [runF, mSeq, seqS, mAsg, mBin, mUn, mVar, mC, mRet, mNext, mIfS, mTest, mTruth, mAnd, mOr, mNot, mAndV, mOrV, mNotV, mCl, mCons, mNil, mCall, mDrop, mDrI, mDrNe, mDrIx, mDrLen, mDrSet, mDrPop, drL, isDr0, toS, fName, R.lift, bind_ok, bind_err, bind_bad, eAdd, eSub, eMul, eDiv, eMod, ePow, eNeg, eLt, eLe, eGt, eGe, eEqI, eNeI, eEqS, eEqB, eNeB, eIdxL, eIdxT, eBool, eAbs, Bool.false_eq_true, dList, dTup, if_true, if_false, if_pos, List.map_cons, List.map_nil, List.length_cons, List.length_nil, List.replicate, List.cons_append, List.nil_append, List.getElem?_cons_zero, List.getElem?_cons_succ, List.set_cons_zero, List.set_cons_succ, Nat.reduceAdd, Nat.reduceSub, Nat.reduceLeDiff, Nat.reduceLT, Nat.reduceMul, Int.reduceToNat, Int.reduceEq, Int.reduceAdd, Int.reduceSub, Int.reduceNeg, Bool.not_true, Bool.not_false, decide_true, decide_false, reduceIte, Nat.reduceEqDiff, ite_true, ite_false, mIf, mLst, mSlice, mPart, mNoPart, mItS, mItL, mItT, asSeq, asList, asTup, mFor, mPar, mPass, mBrk, mCnt, mRetN])
  simp only [m_View_parts, mb_View_parts, runF, mSeq, seqS, mAsg, mBin, mUn, mVar, mC, mRet, mNext, mIfS, mTest, mTruth, mAnd, mOr, mNot, mAndV, mOrV, mNotV, mCl, mCons, mNil, mCall, mDrop, mDrI, mDrNe, mDrIx, mDrLen, mDrSet, mDrPop, drL, isDr0, toS, fName, R.lift, bind_ok, bind_err, bind_bad, eAdd, eSub, eMul, eDiv, eMod, ePow, eNeg, eLt, eLe, eGt, eGe, eEqI, eNeI, eEqS, eEqB, eNeB, eIdxL, eIdxT, eBool, eAbs, Bool.false_eq_true, dList, dTup, if_true, if_false, if_pos, List.map_cons, List.map_nil, List.length_cons, List.length_nil, List.replicate, List.cons_append, List.nil_append, List.getElem?_cons_zero, List.getElem?_cons_succ, List.set_cons_zero, List.set_cons_succ, Nat.reduceAdd, Nat.reduceSub, Nat.reduceLeDiff, Nat.reduceLT, Nat.reduceMul, Int.reduceToNat, Int.reduceEq, Int.reduceAdd, Int.reduceSub, Int.reduceNeg, Bool.not_true, Bool.not_false, decide_true, decide_false, reduceIte, Nat.reduceEqDiff, ite_true, ite_false, mIf, mLst, mSlice, mPart, mNoPart, mItS, mItL, mItT, asSeq, asList, asTup, mFor, mPar, mPass, mBrk, mCnt, mRetN, f1, f2, f3]
  rfl
theorem no_parts (o : Int) (ax : Ax) : (List.lookup ("parts" : Str) (vFs o ax)).isNone = true := by
  simp only [vFs, List.lookup]
  rfl
theorem dAll_map {α : Type} (xs : List α) (f : α → Bool) : dAll [.lst (xs.map fun x => D.bl (f x))] = some (.bl (xs.all f)) := by
  simp only [dAll, toBools_map, Option.map_some]
  rw [List.all_map]
  rfl
end S

namespace S
open PySem PySem.Spec PyProof.Rows L2 RZ Mr
/-! check_axis -/
def mb_check_axis (A : Ad) : MS (O A) :=
  (mIfS (O A) (mNot (O A) (mTest (O A) (mChain (O A) dLe dLt (mC (O A) (.int 0)) (mVar (O A) 1) (mCl (O A) dLen (mCons (O A) (mFld (O A) A.v "shape" (mVar (O A) 0)) (mNil (O A)))))))
  (mRaise (O A) (A.c .AxisError) ["axis"] (mCons (O A) (mVar (O A) 1) (mNil (O A))))
  (mNext (O A)))
def m_check_axis (A : Ad) : List D → Dr → R Dr D := runF (O A) 2 (mb_check_axis A)
/-! axes_ofN -/
def mb_axes_ofN (A : Ad) : MS (O A) :=
  (mRetNew (O A) (mZipL (O A) (mCons (O A) (mFld (O A) A.v "shape" (mVar (O A) 0)) (mCons (O A) (mFld (O A) A.v "strides" (mVar (O A) 0)) (mNil (O A))))))
def m_axes_ofN (A : Ad) : List D → Dr → R Dr (List D) := runN (O A) 1 (mb_axes_ofN A)
/-! slice_axis -/
def bd_slice_axis_0 (A : Ad) : MS (O A) :=
  (mSeq (O A) (mAsg (O A) (mBin (O A) dAdd (mVar (O A) 2) (mBin (O A) dMul (mVar (O A) 8) (mVar (O A) 4))) (fName 9))
  (mIfS (O A) (mNot (O A) (mTest (O A) (mChain (O A) dLe dLt (mC (O A) (.int 0)) (mVar (O A) 9) (mVar (O A) 6))))
  (mRaise (O A) (A.c .PositionError) ["position"] (mCons (O A) (mVar (O A) 9) (mNil (O A))))
  (mNext (O A))))
def mb_slice_axis (A : Ad) : MS (O A) :=
  (mSeq (O A) (mDrop (O A) (mCall (O A) 2 (m_check_axis A) (mCons (O A) (mVar (O A) 0) (mCons (O A) (mVar (O A) 1) (mNil (O A))))))
  (mSeq (O A) (mIfS (O A) (mTest (O A) (mBin (O A) dLt (mVar (O A) 3) (mC (O A) (.int 1))))
  (mRaise (O A) (A.c .LengthError) ["value"] (mCons (O A) (mVar (O A) 3) (mNil (O A))))
  (mNext (O A)))
  (mSeq (O A) (mOwn (O A) 5 (mCallN (O A) 1 (m_axes_ofN A) (mCons (O A) (mVar (O A) 0) (mNil (O A)))))
  (mSeq (O A) (mAsg (O A) (mIdxO (O A) 5 (mVar (O A) 1)) (fTup 2 (fCons (fName 6) (fCons (fName 7) fNil))))
  (mSeq (O A) (mFor (O A) (mRng1 (O A) (mCons (O A) (mCl (O A) dMin2 (mCons (O A) (mVar (O A) 3) (mCons (O A) (mBin (O A) dAdd (mVar (O A) 6) (mC (O A) (.int 1))) (mNil (O A))))) (mNil (O A)))) (fName 8)
  (bd_slice_axis_0 A))
  (mSeq (O A) (mSetI (O A) 5 (mVar (O A) 1) (mCl (O A) dTup (mCons (O A) (mVar (O A) 3) (mCons (O A) (mBin (O A) dMul (mVar (O A) 7) (mVar (O A) 4)) (mNil (O A))))))
  (mFrz (O A) 5 (mRet (O A) (mCall (O A) 2 (m_view_with A) (mCons (O A) (mBin (O A) dAdd (mFld (O A) A.v "offset" (mVar (O A) 0)) (mBin (O A) dMul (mVar (O A) 2) (mVar (O A) 7))) (mCons (O A) (mVar (O A) 5) (mNil (O A)))))))))))))
def m_slice_axis (A : Ad) : List D → Dr → R Dr D := runF (O A) 10 (mb_slice_axis A)
/-! select -/
def mb_select (A : Ad) : MS (O A) :=
  (mSeq (O A) (mDrop (O A) (mCall (O A) 2 (m_check_axis A) (mCons (O A) (mVar (O A) 0) (mCons (O A) (mVar (O A) 1) (mNil (O A))))))
  (mSeq (O A) (mIfS (O A) (mNot (O A) (mTest (O A) (mChain (O A) dLe dLt (mC (O A) (.int 0)) (mVar (O A) 2) (mBin (O A) dIdx (mFld (O A) A.v "shape" (mVar (O A) 0)) (mVar (O A) 1)))))
  (mRaise (O A) (A.c .PositionError) ["position"] (mCons (O A) (mVar (O A) 2) (mNil (O A))))
  (mNext (O A)))
  (mSeq (O A) (mOwn (O A) 3 (mCallN (O A) 1 (m_axes_ofN A) (mCons (O A) (mVar (O A) 0) (mNil (O A)))))
  (mSeq (O A) (mOwnM (O A) 3 lPop (mCons (O A) (mVar (O A) 1) (mNil (O A))) (fTup 2 (fCons (fName 4) (fCons (fName 5) fNil))))
  (mFrz (O A) 3 (mRet (O A) (mCall (O A) 2 (m_view_with A) (mCons (O A) (mBin (O A) dAdd (mFld (O A) A.v "offset" (mVar (O A) 0)) (mBin (O A) dMul (mVar (O A) 2) (mVar (O A) 5))) (mCons (O A) (mVar (O A) 3) (mNil (O A)))))))))))
def m_select (A : Ad) : List D → Dr → R Dr D := runF (O A) 6 (mb_select A)
/-! diagonal -/
def lc_diagonal_0 (A : Ad) : MA (O A) :=
  (mLc (O A) (mItA (O A) dEnum (mCons (O A) (mVar (O A) 3) (mNil (O A)))) (fTup 2 (fCons (fName 9) (fCons (fName 10) fNil))) (mTest (O A) (mBin (O A) dNotIn (mVar (O A) 9) (mCl (O A) dTup (mCons (O A) (mVar (O A) 1) (mCons (O A) (mVar (O A) 2) (mNil (O A))))))) (mVar (O A) 10) [9, 10])
def mb_diagonal (A : Ad) : MS (O A) :=
  (mSeq (O A) (mDrop (O A) (mCall (O A) 2 (m_check_axis A) (mCons (O A) (mVar (O A) 0) (mCons (O A) (mVar (O A) 1) (mNil (O A))))))
  (mSeq (O A) (mDrop (O A) (mCall (O A) 2 (m_check_axis A) (mCons (O A) (mVar (O A) 0) (mCons (O A) (mVar (O A) 2) (mNil (O A))))))
  (mSeq (O A) (mIfS (O A) (mTest (O A) (mBin (O A) dEq (mVar (O A) 1) (mVar (O A) 2)))
  (mRaise (O A) (A.c .AxisError) ["axis"] (mCons (O A) (mVar (O A) 2) (mNil (O A))))
  (mNext (O A)))
  (mSeq (O A) (mAsg (O A) (mCall (O A) 1 (m_axes_of A) (mCons (O A) (mVar (O A) 0) (mNil (O A)))) (fName 3))
  (mSeq (O A) (mAsg (O A) (mLst (O A) (lc_diagonal_0 A)) (fName 4))
  (mSeq (O A) (mAsg (O A) (mCl (O A) dTup (mCons (O A) (mBin (O A) dIdx (mVar (O A) 3) (mVar (O A) 1)) (mCons (O A) (mBin (O A) dIdx (mVar (O A) 3) (mVar (O A) 2)) (mNil (O A))))) (fTup 2 (fCons (fTup 2 (fCons (fName 5) (fCons (fName 6) fNil))) (fCons (fTup 2 (fCons (fName 7) (fCons (fName 8) fNil))) fNil))))
  (mRet (O A) (mCall (O A) 2 (m_view_with A) (mCons (O A) (mFld (O A) A.v "offset" (mVar (O A) 0)) (mCons (O A) (mBin (O A) dAdd (mVar (O A) 4) (mCl (O A) dList (mCons (O A) (mCl (O A) dTup (mCons (O A) (mCl (O A) dMin2 (mCons (O A) (mVar (O A) 5) (mCons (O A) (mVar (O A) 7) (mNil (O A))))) (mCons (O A) (mBin (O A) dAdd (mVar (O A) 6) (mVar (O A) 8)) (mNil (O A))))) (mNil (O A))))) (mNil (O A))))))))))))
def m_diagonal (A : Ad) : List D → Dr → R Dr D := runF (O A) 11 (mb_diagonal A)
/-! View_cell -/
def bd_View_cell_0 (A : Ad) : MS (O A) :=
  (mSeq (O A) (mIfS (O A) (mNot (O A) (mTest (O A) (mChain (O A) dLe dLt (mC (O A) (.int 0)) (mVar (O A) 3) (mVar (O A) 4))))
  (mRaise (O A) (A.c .IndexRangeError) ["index"] (mCons (O A) (mCl (O A) dTupOf (mCons (O A) (mVar (O A) 1) (mNil (O A)))) (mNil (O A))))
  (mNext (O A)))
  (mAug (O A) 2 (dInt2 fun i j => some (.int (i + j))) (mBin (O A) dMul (mVar (O A) 3) (mVar (O A) 5))))
def mb_View_cell (A : Ad) : MS (O A) :=
  (mSeq (O A) (mIfS (O A) (mTest (O A) (mBin (O A) dNe (mCl (O A) dLen (mCons (O A) (mVar (O A) 1) (mNil (O A)))) (mCl (O A) dLen (mCons (O A) (mFld (O A) A.v "shape" (mVar (O A) 0)) (mNil (O A))))))
  (mRaise (O A) (A.c .IndexRangeError) ["index"] (mCons (O A) (mCl (O A) dTupOf (mCons (O A) (mVar (O A) 1) (mNil (O A)))) (mNil (O A))))
  (mNext (O A)))
  (mSeq (O A) (mAsg (O A) (mFld (O A) A.v "offset" (mVar (O A) 0)) (fName 2))
  (mSeq (O A) (mFor (O A) (mItA (O A) dZip3 (mCons (O A) (mVar (O A) 1) (mCons (O A) (mFld (O A) A.v "shape" (mVar (O A) 0)) (mCons (O A) (mFld (O A) A.v "strides" (mVar (O A) 0)) (mNil (O A)))))) (fTup 3 (fCons (fName 3) (fCons (fName 4) (fCons (fName 5) fNil))))
  (bd_View_cell_0 A))
  (mRet (O A) (mVar (O A) 2)))))
def m_View_cell (A : Ad) : List D → Dr → R Dr D := runF (O A) 6 (mb_View_cell A)
/-! cells_ofN -/
def lc_cells_ofN_0 (A : Ad) : MA (O A) :=
  (mLc2 (O A) (mItS (O A) (mVar (O A) 3)) (fName 6) (mYes (O A)) (mRng1 (O A) (mCons (O A) (mVar (O A) 4) (mNil (O A)))) (fName 7) (mYes (O A)) (mBin (O A) dAdd (mVar (O A) 6) (mBin (O A) dMul (mVar (O A) 7) (mVar (O A) 5))) [6, 7] [7])
def bd_cells_ofN_1 (A : Ad) : MS (O A) :=
  (mFrz (O A) 3 (mOwn (O A) 3 (lc_cells_ofN_0 A)))
def mb_cells_ofN (A : Ad) : MS (O A) :=
  (mSeq (O A) (mOwn (O A) 3 (mDisp (O A) (mCons (O A) (mVar (O A) 0) (mNil (O A)))))
  (mSeq (O A) (mFor (O A) (mItA (O A) dZip (mCons (O A) (mVar (O A) 1) (mCons (O A) (mVar (O A) 2) (mNil (O A))))) (fTup 2 (fCons (fName 4) (fCons (fName 5) fNil)))
  (bd_cells_ofN_1 A))
  (mRetO (O A) 3)))
def m_cells_ofN (A : Ad) : List D → Dr → R Dr (List D) := runN (O A) 8 (mb_cells_ofN A)
/-! View_cellsN -/
def mb_View_cellsN (A : Ad) : MS (O A) :=
  (mRetNew (O A) (mCallN (O A) 3 (m_cells_ofN A) (mCons (O A) (mFld (O A) A.v "offset" (mVar (O A) 0)) (mCons (O A) (mFld (O A) A.v "shape" (mVar (O A) 0)) (mCons (O A) (mFld (O A) A.v "strides" (mVar (O A) 0)) (mNil (O A)))))))
def m_View_cellsN (A : Ad) : List D → Dr → R Dr (List D) := runN (O A) 1 (mb_View_cellsN A)
end S

namespace S
open PySem PySem.Spec PyProof.Rows L2 RZ Mr
theorem chain_ok {A : Ad} {a b c : ME (O A)} {ρ : Ev} {s s1 s2 s3 : Dr} {i j k : Int} (h1 : a ρ s = .ok (.int i) s1) (h2 : b ρ s1 = .ok (.int j) s2) (h3 : c ρ s2 = .ok (.int k) s3) : mChain (O A) dLe dLt a b c ρ s = .ok (.bl (decide (i ≤ j) && decide (j < k))) (if i ≤ j then s3 else s2) := by
  by_cases q : i ≤ j
  · simp only [mChain, h1, h2, h3, bind_ok, eLe, eLt, R.lift, q, decide_true, if_true, Bool.true_and]
  · simp only [mChain, h1, h2, h3, bind_ok, eLe, eLt, R.lift, q, decide_false, if_false, Bool.false_and]
theorem raise1 {A : Ad} {C : Addr} {f : Str} {m : MA (O A)} {ρ : Ev} {s s1 : Dr} {d : D} (h : m ρ s = .ok [d] s1) (hf : fmtD d = true) : mRaise (O A) C [f] m ρ s = .err C [(f, d)] ρ s1 := by
  have q : [d].length = [f].length ∧ [f].length ≤ 100 ∧ [d].all fmtD = true := ⟨rfl, by simp, by simp [hf]⟩
  simp only [mRaise, h, toS, if_pos q]
  rfl
/-- a number that can be told -/
def Nm (a : Int) : Prop := -(10 ^ 200) < a ∧ a < 10 ^ 200
theorem Nm.fmt {a : Int} (h : Nm a) : fmtD (.int a) = true := decide_eq_true (Nat.lt_trans (lg4 h.1 h.2) (by decide))
theorem check_ok (A : Ad) {s : Dr} {o a : Int} {ax : Ax} (h0 : 0 ≤ a) (h1 : a < ax.length) : m_check_axis A [vD A o ax, .int a] s = .ok .non s := by
  obtain ⟨_, f2, _⟩ := fld_ok A (m := mVar (O A) 0) (ρ := [.sh (vD A o ax), .sh (.int a)]) (s := s) (s' := s) (o := o) (ax := ax) (by simp only [runF, mSeq, seqS, mAsg, mBin, mUn, mVar, mC, mRet, mNext, mIfS, mTest, mTruth, mAnd, mOr, mNot, mAndV, mOrV, mNotV, mCl, mCons, mNil, mCall, mDrop, mDrI, mDrNe, mDrIx, mDrLen, mDrSet, mDrPop, drL, isDr0, toS, fName, R.lift, bind_ok, bind_err, bind_bad, eAdd, eSub, eMul, eDiv, eMod, ePow, eNeg, eLt, eLe, eGt, eGe, eEqI, eNeI, eEqS, eEqB, eNeB, eIdxL, eIdxT, eBool, eAbs, Bool.false_eq_true, dList, dTup, if_true, if_false, if_pos, List.map_cons, List.map_nil, List.length_cons, List.length_nil, List.replicate, List.cons_append, List.nil_append, List.getElem?_cons_zero, List.getElem?_cons_succ, List.set_cons_zero, List.set_cons_succ, Nat.reduceAdd, Nat.reduceSub, Nat.reduceLeDiff, Nat.reduceLT, Nat.reduceMul, Int.reduceToNat, Int.reduceEq, Int.reduceAdd, Int.reduceSub, Int.reduceNeg, Bool.not_true, Bool.not_false, decide_true, decide_false, reduceIte, Nat.reduceEqDiff, ite_true, ite_false, mIf, mLst, mSlice, mPart, mNoPart, mItS, mItL, mItT, asSeq, asList, asTup, mFor, mPar, mPass, mBrk, mCnt, mRetN])
  have l1 : dLen [.tup (iD (shp ax))] = some (.int ax.length) := by simp [dLen, shp]
  have c := chain_ok (A := A) (a := mC (O A) (.int 0)) (b := mVar (O A) 1) (c := mCl (O A) dLen (mCons (O A) (mFld (O A) A.v "shape" (mVar (O A) 0)) (mNil (O A)))) (ρ := [.sh (vD A o ax), .sh (.int a)]) (s := s) (s1 := s) (s2 := s) (s3 := s) (i := 0) (j := a) (k := ax.length) (by simp only [runF, mSeq, seqS, mAsg, mBin, mUn, mVar, mC, mRet, mNext, mIfS, mTest, mTruth, mAnd, mOr, mNot, mAndV, mOrV, mNotV, mCl, mCons, mNil, mCall, mDrop, mDrI, mDrNe, mDrIx, mDrLen, mDrSet, mDrPop, drL, isDr0, toS, fName, R.lift, bind_ok, bind_err, bind_bad, eAdd, eSub, eMul, eDiv, eMod, ePow, eNeg, eLt, eLe, eGt, eGe, eEqI, eNeI, eEqS, eEqB, eNeB, eIdxL, eIdxT, eBool, eAbs, Bool.false_eq_true, dList, dTup, if_true, if_false, if_pos, List.map_cons, List.map_nil, List.length_cons, List.length_nil, List.replicate, List.cons_append, List.nil_append, List.getElem?_cons_zero, List.getElem?_cons_succ, List.set_cons_zero, List.set_cons_succ, Nat.reduceAdd, Nat.reduceSub, Nat.reduceLeDiff, Nat.reduceLT, Nat.reduceMul, Int.reduceToNat, Int.reduceEq, Int.reduceAdd, Int.reduceSub, Int.reduceNeg, Bool.not_true, Bool.not_false, decide_true, decide_false, reduceIte, Nat.reduceEqDiff, ite_true, ite_false, mIf, mLst, mSlice, mPart, mNoPart, mItS, mItL, mItT, asSeq, asList, asTup, mFor, mPar, mPass, mBrk, mCnt, mRetN]) (by simp only [runF, mSeq, seqS, mAsg, mBin, mUn, mVar, mC, mRet, mNext, mIfS, mTest, mTruth, mAnd, mOr, mNot, mAndV, mOrV, mNotV, mCl, mCons, mNil, mCall, mDrop, mDrI, mDrNe, mDrIx, mDrLen, mDrSet, mDrPop, drL, isDr0, toS, fName, R.lift, bind_ok, bind_err, bind_bad, eAdd, eSub, eMul, eDiv, eMod, ePow, eNeg, eLt, eLe, eGt, eGe, eEqI, eNeI, eEqS, eEqB, eNeB, eIdxL, eIdxT, eBool, eAbs, Bool.false_eq_true, dList, dTup, if_true, if_false, if_pos, List.map_cons, List.map_nil, List.length_cons, List.length_nil, List.replicate, List.cons_append, List.nil_append, List.getElem?_cons_zero, List.getElem?_cons_succ, List.set_cons_zero, List.set_cons_succ, Nat.reduceAdd, Nat.reduceSub, Nat.reduceLeDiff, Nat.reduceLT, Nat.reduceMul, Int.reduceToNat, Int.reduceEq, Int.reduceAdd, Int.reduceSub, Int.reduceNeg, Bool.not_true, Bool.not_false, decide_true, decide_false, reduceIte, Nat.reduceEqDiff, ite_true, ite_false, mIf, mLst, mSlice, mPart, mNoPart, mItS, mItL, mItT, asSeq, asList, asTup, mFor, mPar, mPass, mBrk, mCnt, mRetN]) (by simp only [runF, mSeq, seqS, mAsg, mBin, mUn, mVar, mC, mRet, mNext, mIfS, mTest, mTruth, mAnd, mOr, mNot, mAndV, mOrV, mNotV, mCl, mCons, mNil, mCall, mDrop, mDrI, mDrNe, mDrIx, mDrLen, mDrSet, mDrPop, drL, isDr0, toS, fName, R.lift, bind_ok, bind_err, bind_bad, eAdd, eSub, eMul, eDiv, eMod, ePow, eNeg, eLt, eLe, eGt, eGe, eEqI, eNeI, eEqS, eEqB, eNeB, eIdxL, eIdxT, eBool, eAbs, Bool.false_eq_true, dList, dTup, if_true, if_false, if_pos, List.map_cons, List.map_nil, List.length_cons, List.length_nil, List.replicate, List.cons_append, List.nil_append, List.getElem?_cons_zero, List.getElem?_cons_succ, List.set_cons_zero, List.set_cons_succ, Nat.reduceAdd, Nat.reduceSub, Nat.reduceLeDiff, Nat.reduceLT, Nat.reduceMul, Int.reduceToNat, Int.reduceEq, Int.reduceAdd, Int.reduceSub, Int.reduceNeg, Bool.not_true, Bool.not_false, decide_true, decide_false, reduceIte, Nat.reduceEqDiff, ite_true, ite_false, mIf, mLst, mSlice, mPart, mNoPart, mItS, mItL, mItT, asSeq, asList, asTup, mFor, mPar, mPass, mBrk, mCnt, mRetN, f2, l1])
  simp only [h0, h1, decide_true, Bool.and_self, ite_self] at c
  simp only [m_check_axis, mb_check_axis, runF, mSeq, seqS, mAsg, mBin, mUn, mVar, mC, mRet, mNext, mIfS, mTest, mTruth, mAnd, mOr, mNot, mAndV, mOrV, mNotV, mCl, mCons, mNil, mCall, mDrop, mDrI, mDrNe, mDrIx, mDrLen, mDrSet, mDrPop, drL, isDr0, toS, fName, R.lift, bind_ok, bind_err, bind_bad, eAdd, eSub, eMul, eDiv, eMod, ePow, eNeg, eLt, eLe, eGt, eGe, eEqI, eNeI, eEqS, eEqB, eNeB, eIdxL, eIdxT, eBool, eAbs, Bool.false_eq_true, dList, dTup, if_true, if_false, if_pos, List.map_cons, List.map_nil, List.length_cons, List.length_nil, List.replicate, List.cons_append, List.nil_append, List.getElem?_cons_zero, List.getElem?_cons_succ, List.set_cons_zero, List.set_cons_succ, Nat.reduceAdd, Nat.reduceSub, Nat.reduceLeDiff, Nat.reduceLT, Nat.reduceMul, Int.reduceToNat, Int.reduceEq, Int.reduceAdd, Int.reduceSub, Int.reduceNeg, Bool.not_true, Bool.not_false, decide_true, decide_false, reduceIte, Nat.reduceEqDiff, ite_true, ite_false, mIf, mLst, mSlice, mPart, mNoPart, mItS, mItL, mItT, asSeq, asList, asTup, mFor, mPar, mPass, mBrk, mCnt, mRetN, c]
theorem check_no (A : Ad) {s : Dr} {o a : Int} {ax : Ax} (ha : Nm a) (h : ¬ (0 ≤ a ∧ a < ax.length)) : m_check_axis A [vD A o ax, .int a] s = .err (A.c .AxisError) [("axis", .int a)] s := by
  obtain ⟨_, f2, _⟩ := fld_ok A (m := mVar (O A) 0) (ρ := [.sh (vD A o ax), .sh (.int a)]) (s := s) (s' := s) (o := o) (ax := ax) (by simp only [runF, mSeq, seqS, mAsg, mBin, mUn, mVar, mC, mRet, mNext, mIfS, mTest, mTruth, mAnd, mOr, mNot, mAndV, mOrV, mNotV, mCl, mCons, mNil, mCall, mDrop, mDrI, mDrNe, mDrIx, mDrLen, mDrSet, mDrPop, drL, isDr0, toS, fName, R.lift, bind_ok, bind_err, bind_bad, eAdd, eSub, eMul, eDiv, eMod, ePow, eNeg, eLt, eLe, eGt, eGe, eEqI, eNeI, eEqS, eEqB, eNeB, eIdxL, eIdxT, eBool, eAbs, Bool.false_eq_true, dList, dTup, if_true, if_false, if_pos, List.map_cons, List.map_nil, List.length_cons, List.length_nil, List.replicate, List.cons_append, List.nil_append, List.getElem?_cons_zero, List.getElem?_cons_succ, List.set_cons_zero, List.set_cons_succ, Nat.reduceAdd, Nat.reduceSub, Nat.reduceLeDiff, Nat.reduceLT, Nat.reduceMul, Int.reduceToNat, Int.reduceEq, Int.reduceAdd, Int.reduceSub, Int.reduceNeg, Bool.not_true, Bool.not_false, decide_true, decide_false, reduceIte, Nat.reduceEqDiff, ite_true, ite_false, mIf, mLst, mSlice, mPart, mNoPart, mItS, mItL, mItT, asSeq, asList, asTup, mFor, mPar, mPass, mBrk, mCnt, mRetN])
  have l1 : dLen [.tup (iD (shp ax))] = some (.int ax.length) := by simp [dLen, shp]
  have c := chain_ok (A := A) (a := mC (O A) (.int 0)) (b := mVar (O A) 1) (c := mCl (O A) dLen (mCons (O A) (mFld (O A) A.v "shape" (mVar (O A) 0)) (mNil (O A)))) (ρ := [.sh (vD A o ax), .sh (.int a)]) (s := s) (s1 := s) (s2 := s) (s3 := s) (i := 0) (j := a) (k := ax.length) (by simp only [runF, mSeq, seqS, mAsg, mBin, mUn, mVar, mC, mRet, mNext, mIfS, mTest, mTruth, mAnd, mOr, mNot, mAndV, mOrV, mNotV, mCl, mCons, mNil, mCall, mDrop, mDrI, mDrNe, mDrIx, mDrLen, mDrSet, mDrPop, drL, isDr0, toS, fName, R.lift, bind_ok, bind_err, bind_bad, eAdd, eSub, eMul, eDiv, eMod, ePow, eNeg, eLt, eLe, eGt, eGe, eEqI, eNeI, eEqS, eEqB, eNeB, eIdxL, eIdxT, eBool, eAbs, Bool.false_eq_true, dList, dTup, if_true, if_false, if_pos, List.map_cons, List.map_nil, List.length_cons, List.length_nil, List.replicate, List.cons_append, List.nil_append, List.getElem?_cons_zero, List.getElem?_cons_succ, List.set_cons_zero, List.set_cons_succ, Nat.reduceAdd, Nat.reduceSub, Nat.reduceLeDiff, Nat.reduceLT, Nat.reduceMul, Int.reduceToNat, Int.reduceEq, Int.reduceAdd, Int.reduceSub, Int.reduceNeg, Bool.not_true, Bool.not_false, decide_true, decide_false, reduceIte, Nat.reduceEqDiff, ite_true, ite_false, mIf, mLst, mSlice, mPart, mNoPart, mItS, mItL, mItT, asSeq, asList, asTup, mFor, mPar, mPass, mBrk, mCnt, mRetN]) (by simp only [runF, mSeq, seqS, mAsg, mBin, mUn, mVar, mC, mRet, mNext, mIfS, mTest, mTruth, mAnd, mOr, mNot, mAndV, mOrV, mNotV, mCl, mCons, mNil, mCall, mDrop, mDrI, mDrNe, mDrIx, mDrLen, mDrSet, mDrPop, drL, isDr0, toS, fName, R.lift, bind_ok, bind_err, bind_bad, eAdd, eSub, eMul, eDiv, eMod, ePow, eNeg, eLt, eLe, eGt, eGe, eEqI, eNeI, eEqS, eEqB, eNeB, eIdxL, eIdxT, eBool, eAbs, Bool.false_eq_true, dList, dTup, if_true, if_false, if_pos, List.map_cons, List.map_nil, List.length_cons, List.length_nil, List.replicate, List.cons_append, List.nil_append, List.getElem?_cons_zero, List.getElem?_cons_succ, List.set_cons_zero, List.set_cons_succ, Nat.reduceAdd, Nat.reduceSub, Nat.reduceLeDiff, Nat.reduceLT, Nat.reduceMul, Int.reduceToNat, Int.reduceEq, Int.reduceAdd, Int.reduceSub, Int.reduceNeg, Bool.not_true, Bool.not_false, decide_true, decide_false, reduceIte, Nat.reduceEqDiff, ite_true, ite_false, mIf, mLst, mSlice, mPart, mNoPart, mItS, mItL, mItT, asSeq, asList, asTup, mFor, mPar, mPass, mBrk, mCnt, mRetN]) (by simp only [runF, mSeq, seqS, mAsg, mBin, mUn, mVar, mC, mRet, mNext, mIfS, mTest, mTruth, mAnd, mOr, mNot, mAndV, mOrV, mNotV, mCl, mCons, mNil, mCall, mDrop, mDrI, mDrNe, mDrIx, mDrLen, mDrSet, mDrPop, drL, isDr0, toS, fName, R.lift, bind_ok, bind_err, bind_bad, eAdd, eSub, eMul, eDiv, eMod, ePow, eNeg, eLt, eLe, eGt, eGe, eEqI, eNeI, eEqS, eEqB, eNeB, eIdxL, eIdxT, eBool, eAbs, Bool.false_eq_true, dList, dTup, if_true, if_false, if_pos, List.map_cons, List.map_nil, List.length_cons, List.length_nil, List.replicate, List.cons_append, List.nil_append, List.getElem?_cons_zero, List.getElem?_cons_succ, List.set_cons_zero, List.set_cons_succ, Nat.reduceAdd, Nat.reduceSub, Nat.reduceLeDiff, Nat.reduceLT, Nat.reduceMul, Int.reduceToNat, Int.reduceEq, Int.reduceAdd, Int.reduceSub, Int.reduceNeg, Bool.not_true, Bool.not_false, decide_true, decide_false, reduceIte, Nat.reduceEqDiff, ite_true, ite_false, mIf, mLst, mSlice, mPart, mNoPart, mItS, mItL, mItT, asSeq, asList, asTup, mFor, mPar, mPass, mBrk, mCnt, mRetN, f2, l1])
  have e : (decide (0 ≤ a) && decide (a < (ax.length : Int))) = false := by
    rw [Bool.and_eq_false_iff, decide_eq_false_iff_not, decide_eq_false_iff_not]
    omega
  rw [e] at c
  simp only [ite_self] at c
  have rz := raise1 (A := A) (C := A.c .AxisError) (f := "axis") (m := mCons (O A) (mVar (O A) 1) (mNil (O A))) (ρ := [.sh (vD A o ax), .sh (.int a)]) (s := s) (s1 := s) (d := .int a) (by simp only [runF, mSeq, seqS, mAsg, mBin, mUn, mVar, mC, mRet, mNext, mIfS, mTest, mTruth, mAnd, mOr, mNot, mAndV, mOrV, mNotV, mCl, mCons, mNil, mCall, mDrop, mDrI, mDrNe, mDrIx, mDrLen, mDrSet, mDrPop, drL, isDr0, toS, fName, R.lift, bind_ok, bind_err, bind_bad, eAdd, eSub, eMul, eDiv, eMod, ePow, eNeg, eLt, eLe, eGt, eGe, eEqI, eNeI, eEqS, eEqB, eNeB, eIdxL, eIdxT, eBool, eAbs, Bool.false_eq_true, dList, dTup, if_true, if_false, if_pos, List.map_cons, List.map_nil, List.length_cons, List.length_nil, List.replicate, List.cons_append, List.nil_append, List.getElem?_cons_zero, List.getElem?_cons_succ, List.set_cons_zero, List.set_cons_succ, Nat.reduceAdd, Nat.reduceSub, Nat.reduceLeDiff, Nat.reduceLT, Nat.reduceMul, Int.reduceToNat, Int.reduceEq, Int.reduceAdd, Int.reduceSub, Int.reduceNeg, Bool.not_true, Bool.not_false, decide_true, decide_false, reduceIte, Nat.reduceEqDiff, ite_true, ite_false, mIf, mLst, mSlice, mPart, mNoPart, mItS, mItL, mItT, asSeq, asList, asTup, mFor, mPar, mPass, mBrk, mCnt, mRetN]) ha.fmt
  simp only [m_check_axis, mb_check_axis, runF, mSeq, seqS, mAsg, mBin, mUn, mVar, mC, mRet, mNext, mIfS, mTest, mTruth, mAnd, mOr, mNot, mAndV, mOrV, mNotV, mCl, mCons, mNil, mCall, mDrop, mDrI, mDrNe, mDrIx, mDrLen, mDrSet, mDrPop, drL, isDr0, toS, fName, R.lift, bind_ok, bind_err, bind_bad, eAdd, eSub, eMul, eDiv, eMod, ePow, eNeg, eLt, eLe, eGt, eGe, eEqI, eNeI, eEqS, eEqB, eNeB, eIdxL, eIdxT, eBool, eAbs, Bool.false_eq_true, dList, dTup, if_true, if_false, if_pos, List.map_cons, List.map_nil, List.length_cons, List.length_nil, List.replicate, List.cons_append, List.nil_append, List.getElem?_cons_zero, List.getElem?_cons_succ, List.set_cons_zero, List.set_cons_succ, Nat.reduceAdd, Nat.reduceSub, Nat.reduceLeDiff, Nat.reduceLT, Nat.reduceMul, Int.reduceToNat, Int.reduceEq, Int.reduceAdd, Int.reduceSub, Int.reduceNeg, Bool.not_true, Bool.not_false, decide_true, decide_false, reduceIte, Nat.reduceEqDiff, ite_true, ite_false, mIf, mLst, mSlice, mPart, mNoPart, mItS, mItL, mItT, asSeq, asList, asTup, mFor, mPar, mPass, mBrk, mCnt, mRetN, c, rz]
theorem axes_ofN_ok (A : Ad) {s : Dr} {o : Int} {ax : Ax} : m_axes_ofN A [vD A o ax] s = .ok (axD ax) s := by
  obtain ⟨_, f2, f3⟩ := fld_ok A (m := mVar (O A) 0) (ρ := [.sh (vD A o ax)]) (s := s) (s' := s) (o := o) (ax := ax) (by simp only [runF, mSeq, seqS, mAsg, mBin, mUn, mVar, mC, mRet, mNext, mIfS, mTest, mTruth, mAnd, mOr, mNot, mAndV, mOrV, mNotV, mCl, mCons, mNil, mCall, mDrop, mDrI, mDrNe, mDrIx, mDrLen, mDrSet, mDrPop, drL, isDr0, toS, fName, R.lift, bind_ok, bind_err, bind_bad, eAdd, eSub, eMul, eDiv, eMod, ePow, eNeg, eLt, eLe, eGt, eGe, eEqI, eNeI, eEqS, eEqB, eNeB, eIdxL, eIdxT, eBool, eAbs, Bool.false_eq_true, dList, dTup, if_true, if_false, if_pos, List.map_cons, List.map_nil, List.length_cons, List.length_nil, List.replicate, List.cons_append, List.nil_append, List.getElem?_cons_zero, List.getElem?_cons_succ, List.set_cons_zero, List.set_cons_succ, Nat.reduceAdd, Nat.reduceSub, Nat.reduceLeDiff, Nat.reduceLT, Nat.reduceMul, Int.reduceToNat, Int.reduceEq, Int.reduceAdd, Int.reduceSub, Int.reduceNeg, Bool.not_true, Bool.not_false, decide_true, decide_false, reduceIte, Nat.reduceEqDiff, ite_true, ite_false, mIf, mLst, mSlice, mPart, mNoPart, mItS, mItL, mItT, asSeq, asList, asTup, mFor, mPar, mPass, mBrk, mCnt, mRetN])
  have zp := sq2.zip (d := .tup (iD (shp ax))) (e := .tup (iD (strd ax))) (ax := ax) ⟨.inr rfl, .inr rfl⟩
  simp only [m_axes_ofN, Mr.runN, mb_axes_ofN, mRetNew, mZipL, runF, mSeq, seqS, mAsg, mBin, mUn, mVar, mC, mRet, mNext, mIfS, mTest, mTruth, mAnd, mOr, mNot, mAndV, mOrV, mNotV, mCl, mCons, mNil, mCall, mDrop, mDrI, mDrNe, mDrIx, mDrLen, mDrSet, mDrPop, drL, isDr0, toS, fName, R.lift, bind_ok, bind_err, bind_bad, eAdd, eSub, eMul, eDiv, eMod, ePow, eNeg, eLt, eLe, eGt, eGe, eEqI, eNeI, eEqS, eEqB, eNeB, eIdxL, eIdxT, eBool, eAbs, Bool.false_eq_true, dList, dTup, if_true, if_false, if_pos, List.map_cons, List.map_nil, List.length_cons, List.length_nil, List.replicate, List.cons_append, List.nil_append, List.getElem?_cons_zero, List.getElem?_cons_succ, List.set_cons_zero, List.set_cons_succ, Nat.reduceAdd, Nat.reduceSub, Nat.reduceLeDiff, Nat.reduceLT, Nat.reduceMul, Int.reduceToNat, Int.reduceEq, Int.reduceAdd, Int.reduceSub, Int.reduceNeg, Bool.not_true, Bool.not_false, decide_true, decide_false, reduceIte, Nat.reduceEqDiff, ite_true, ite_false, mIf, mLst, mSlice, mPart, mNoPart, mItS, mItL, mItT, asSeq, asList, asTup, mFor, mPar, mPass, mBrk, mCnt, mRetN, f2, f3, zp]
end S

namespace S
open PySem PySem.Spec PyProof.Rows L2 RZ Mr
/-! ### the cell of an index -/
def dot : Ax → List Int → Int
  | a :: ax, k :: ks => k * a.2 + dot ax ks
  | _, _ => 0
theorem dot_app : ∀ (pre : Ax) (i : List Int) (a : Int × Int) (k : Int), i.length = pre.length → dot (pre ++ [a]) (i ++ [k]) = dot pre i + k * a.2
  | [], [], a, k, _ => by simp [dot]
  | b :: pre, j :: i, a, k, h => by
    show j * b.2 + dot (pre ++ [a]) (i ++ [k]) = j * b.2 + dot pre i + k * a.2
    rw [dot_app pre i a k (by simpa using h)]
    omega
  | [], _ :: _, _, _, h => by simp at h
  | _ :: _, [], _, _, h => by simp at h
theorem flat_congr {α β : Type} {f g : α → List β} : ∀ (xs : List α), (∀ x ∈ xs, f x = g x) → xs.flatMap f = xs.flatMap g
  | [], _ => rfl
  | x :: xs, h => by rw [List.flatMap_cons, List.flatMap_cons, h x List.mem_cons_self, flat_congr xs fun y hy => h y (List.mem_cons_of_mem _ hy)]
theorem cells_indsF (o : Int) : ∀ (ax pre : Ax) (is : List (List Int)), (∀ i ∈ is, i.length = pre.length) → cellsF ax (is.map fun i => o + dot pre i) = (indsF (shp ax) is).map fun i => o + dot (pre ++ ax) i
  | [], pre, is, _ => by simp [cellsF, shp, indsF]
  | a :: ax, pre, is, h => by
    have e1 : (is.map fun i => o + dot pre i).flatMap (fun c => (rng a.1).map fun k => c + k * a.2) = (is.flatMap fun i => (rng a.1).map fun k => i ++ [k]).map fun i => o + dot (pre ++ [a]) i := by
      rw [List.flatMap_map, List.map_flatMap]
      refine flat_congr _ fun i hi => ?_
      rw [List.map_map]
      refine List.map_congr_left fun k _ => ?_
      show o + dot pre i + k * a.2 = o + dot (pre ++ [a]) (i ++ [k])
      rw [dot_app pre i a k (h i hi)]
      omega
    show cellsF ax ((is.map fun i => o + dot pre i).flatMap fun c => (rng a.1).map fun k => c + k * a.2) = (indsF (shp ax) (is.flatMap fun i => (rng a.1).map fun k => i ++ [k])).map fun i => o + dot (pre ++ a :: ax) i
    rw [e1, cells_indsF o ax (pre ++ [a]) _ (by
      intro i hi
      rw [List.mem_flatMap] at hi
      obtain ⟨j, hj, hi⟩ := hi
      rw [List.mem_map] at hi
      obtain ⟨k, _, rfl⟩ := hi
      simp [h j hj])]
    simp
theorem cells_inds (o : Int) (ax : Ax) : cellsL o ax = (indsL (shp ax)).map fun i => o + dot ax i := by
  have := cells_indsF o ax [] [[]] (by simp)
  simpa [dot, cellsL, indsL] using this
/-- an index of a view -/
def InR (ax : Ax) (i : List Int) : Prop := i.length = ax.length ∧ ∀ (n : Nat) (k : Int) (a : Int × Int), i[n]? = some k → ax[n]? = some a → 0 ≤ k ∧ k < a.1
theorem InR.nil : InR [] [] := ⟨rfl, fun n k a h => by simp at h⟩
theorem InR.cons {ax : Ax} {i : List Int} {a : Int × Int} {k : Int} (h0 : 0 ≤ k) (h1 : k < a.1) (h : InR ax i) : InR (a :: ax) (k :: i) := by
  refine ⟨by simp [h.1], fun n => ?_⟩
  cases n with
  | zero => intro k' a' e1 e2; simp at e1 e2; subst e1; subst e2; exact ⟨h0, h1⟩
  | succ n => intro k' a' e1 e2; exact h.2 n k' a' (by simpa using e1) (by simpa using e2)
theorem InR.head {ax : Ax} {i : List Int} {a : Int × Int} {k : Int} (h : InR (a :: ax) (k :: i)) : (0 ≤ k ∧ k < a.1) ∧ InR ax i := ⟨h.2 0 k a rfl rfl, by simpa using h.1, fun n k' a' e1 e2 => h.2 (n + 1) k' a' (by simpa using e1) (by simpa using e2)⟩
theorem inds_inR : ∀ (ax : Ax) (is : List (List Int)) (pre : Ax), (∀ i ∈ is, InR pre i) → ∀ i ∈ indsF (shp ax) is, InR (pre ++ ax) i
  | [], is, pre, h, i, hi => by simpa using h i hi
  | a :: ax, is, pre, h, i, hi => by
    have := inds_inR ax (is.flatMap fun i => (rng a.1).map fun k => i ++ [k]) (pre ++ [a]) (by
      intro j hj
      rw [List.mem_flatMap] at hj
      obtain ⟨j0, hj0, hj⟩ := hj
      rw [List.mem_map] at hj
      obtain ⟨k, hk, rfl⟩ := hj
      obtain ⟨k0, k1⟩ := mem_rng hk
      have hh := h j0 hj0
      refine ⟨by simp [hh.1], fun n k' a' e1 e2 => ?_⟩
      by_cases hn : n < pre.length
      · rw [List.getElem?_append_left (by rw [hh.1]; exact hn)] at e1
        rw [List.getElem?_append_left hn] at e2
        exact hh.2 n k' a' e1 e2
      · rw [List.getElem?_append_right (by rw [hh.1]; omega), hh.1] at e1
        rw [List.getElem?_append_right (by omega)] at e2
        cases hm : n - pre.length with
        | zero => rw [hm] at e1 e2; simp at e1 e2; subst e1; subst e2; exact ⟨k0, k1⟩
        | succ m => rw [hm] at e1; simp at e1) i hi
    simpa using this
/-- three lists together -/
def ixD (ax : Ax) (i : List Int) : List D := (i.zip ax).map fun p => D.tup [.int p.1, .int p.2.1, .int p.2.2]
theorem zip3_ok {d : D} {ax : Ax} {i : List Int} (hd : isSq d i) : dZip3 [d, .tup (iD (shp ax)), .tup (iD (strd ax))] = some (ixD ax i) := by
  have e : zip3D (iD i) (iD (shp ax)) (iD (strd ax)) = ixD ax i := by
    unfold zip3D ixD iD shp strd
    rw [List.map_map, List.map_map]
    have : ∀ (i : List Int) (ax : Ax), ((i.map D.int).zip ((ax.map (D.int ∘ Prod.fst)).zip (ax.map (D.int ∘ Prod.snd)))).map (fun p => D.tup [p.1, p.2.1, p.2.2]) = (i.zip ax).map fun p => D.tup [.int p.1, .int p.2.1, .int p.2.2] := by
      intro i
      induction i with
      | nil => intro ax; rfl
      | cons k i ih =>
        intro ax
        cases ax with
        | nil => rfl
        | cons a ax => simp only [List.map_cons, List.zip_cons_cons, ih ax]; rfl
    exact this i ax
  rcases hd with rfl | rfl
  · exact congrArg some e
  · exact congrArg some e
theorem cell_loop (A : Ad) {x0 x1 : Sl} {s : Dr} : ∀ (ax : Ax) (i : List Int) (c : Int) (x3 x4 x5 : Sl), InR ax i → (∀ a ∈ ax, a.1 ≤ 64 ∧ -64 < a.2 ∧ a.2 < 64) → ∃ y3 y4 y5, forL (O A).S (fTup 3 (fCons (fName 3) (fCons (fName 4) (fCons (fName 5) fNil)))) (bd_View_cell_0 A) (ixD ax i) [x0, x1, .sh (.int c), x3, x4, x5] s = .nx [x0, x1, .sh (.int (c + dot ax i)), y3, y4, y5] s
  | [], [], c, x3, x4, x5, _, _ => ⟨x3, x4, x5, by simp [ixD, forL, dot]⟩
  | a :: ax, k :: i, c, x3, x4, x5, h, hb => by
    obtain ⟨⟨k0, k1⟩, h'⟩ := h.head
    have ha := hb a List.mem_cons_self
    obtain ⟨y3, y4, y5, e⟩ := cell_loop A (x0 := x0) (x1 := x1) (s := s) ax i (c + k * a.2) (.sh (.int k)) (.sh (.int a.1)) (.sh (.int a.2)) h' fun b hb' => hb b (List.mem_cons_of_mem _ hb')
    have m1 : CMulG k a.2 := mulG (by omega) (by omega) (by omega) (by omega)
    have ch := chain_ok (A := A) (a := mC (O A) (.int 0)) (b := mVar (O A) 3) (c := mVar (O A) 4) (ρ := [x0, x1, .sh (.int c), .sh (.int k), .sh (.int a.1), .sh (.int a.2)]) (s := s) (s1 := s) (s2 := s) (s3 := s) (i := 0) (j := k) (k := a.1) (by simp only [runF, mSeq, seqS, mAsg, mBin, mUn, mVar, mC, mRet, mNext, mIfS, mTest, mTruth, mAnd, mOr, mNot, mAndV, mOrV, mNotV, mCl, mCons, mNil, mCall, mDrop, mDrI, mDrNe, mDrIx, mDrLen, mDrSet, mDrPop, drL, isDr0, toS, fName, R.lift, bind_ok, bind_err, bind_bad, eAdd, eSub, eMul, eDiv, eMod, ePow, eNeg, eLt, eLe, eGt, eGe, eEqI, eNeI, eEqS, eEqB, eNeB, eIdxL, eIdxT, eBool, eAbs, Bool.false_eq_true, dList, dTup, if_true, if_false, if_pos, List.map_cons, List.map_nil, List.length_cons, List.length_nil, List.replicate, List.cons_append, List.nil_append, List.getElem?_cons_zero, List.getElem?_cons_succ, List.set_cons_zero, List.set_cons_succ, Nat.reduceAdd, Nat.reduceSub, Nat.reduceLeDiff, Nat.reduceLT, Nat.reduceMul, Int.reduceToNat, Int.reduceEq, Int.reduceAdd, Int.reduceSub, Int.reduceNeg, Bool.not_true, Bool.not_false, decide_true, decide_false, reduceIte, Nat.reduceEqDiff, ite_true, ite_false, mIf, mLst, mSlice, mPart, mNoPart, mItS, mItL, mItT, asSeq, asList, asTup, mFor, mPar, mPass, mBrk, mCnt, mRetN]) (by simp only [runF, mSeq, seqS, mAsg, mBin, mUn, mVar, mC, mRet, mNext, mIfS, mTest, mTruth, mAnd, mOr, mNot, mAndV, mOrV, mNotV, mCl, mCons, mNil, mCall, mDrop, mDrI, mDrNe, mDrIx, mDrLen, mDrSet, mDrPop, drL, isDr0, toS, fName, R.lift, bind_ok, bind_err, bind_bad, eAdd, eSub, eMul, eDiv, eMod, ePow, eNeg, eLt, eLe, eGt, eGe, eEqI, eNeI, eEqS, eEqB, eNeB, eIdxL, eIdxT, eBool, eAbs, Bool.false_eq_true, dList, dTup, if_true, if_false, if_pos, List.map_cons, List.map_nil, List.length_cons, List.length_nil, List.replicate, List.cons_append, List.nil_append, List.getElem?_cons_zero, List.getElem?_cons_succ, List.set_cons_zero, List.set_cons_succ, Nat.reduceAdd, Nat.reduceSub, Nat.reduceLeDiff, Nat.reduceLT, Nat.reduceMul, Int.reduceToNat, Int.reduceEq, Int.reduceAdd, Int.reduceSub, Int.reduceNeg, Bool.not_true, Bool.not_false, decide_true, decide_false, reduceIte, Nat.reduceEqDiff, ite_true, ite_false, mIf, mLst, mSlice, mPart, mNoPart, mItS, mItL, mItT, asSeq, asList, asTup, mFor, mPar, mPass, mBrk, mCnt, mRetN]) (by simp only [runF, mSeq, seqS, mAsg, mBin, mUn, mVar, mC, mRet, mNext, mIfS, mTest, mTruth, mAnd, mOr, mNot, mAndV, mOrV, mNotV, mCl, mCons, mNil, mCall, mDrop, mDrI, mDrNe, mDrIx, mDrLen, mDrSet, mDrPop, drL, isDr0, toS, fName, R.lift, bind_ok, bind_err, bind_bad, eAdd, eSub, eMul, eDiv, eMod, ePow, eNeg, eLt, eLe, eGt, eGe, eEqI, eNeI, eEqS, eEqB, eNeB, eIdxL, eIdxT, eBool, eAbs, Bool.false_eq_true, dList, dTup, if_true, if_false, if_pos, List.map_cons, List.map_nil, List.length_cons, List.length_nil, List.replicate, List.cons_append, List.nil_append, List.getElem?_cons_zero, List.getElem?_cons_succ, List.set_cons_zero, List.set_cons_succ, Nat.reduceAdd, Nat.reduceSub, Nat.reduceLeDiff, Nat.reduceLT, Nat.reduceMul, Int.reduceToNat, Int.reduceEq, Int.reduceAdd, Int.reduceSub, Int.reduceNeg, Bool.not_true, Bool.not_false, decide_true, decide_false, reduceIte, Nat.reduceEqDiff, ite_true, ite_false, mIf, mLst, mSlice, mPart, mNoPart, mItS, mItL, mItT, asSeq, asList, asTup, mFor, mPar, mPass, mBrk, mCnt, mRetN])
    simp only [k0, k1, decide_true, Bool.and_self, ite_self] at ch
    refine ⟨y3, y4, y5, ?_⟩
    show forL (O A).S _ _ (D.tup [.int k, .int a.1, .int a.2] :: ixD ax i) _ s = _
    rw [forL_step (f3_ok _ _ _ _ _ _ _) (ρ2 := [x0, x1, .sh (.int (c + k * a.2)), .sh (.int k), .sh (.int a.1), .sh (.int a.2)]) (s2 := s) (by simp only [bd_View_cell_0, mAug, runF, mSeq, seqS, mAsg, mBin, mUn, mVar, mC, mRet, mNext, mIfS, mTest, mTruth, mAnd, mOr, mNot, mAndV, mOrV, mNotV, mCl, mCons, mNil, mCall, mDrop, mDrI, mDrNe, mDrIx, mDrLen, mDrSet, mDrPop, drL, isDr0, toS, fName, R.lift, bind_ok, bind_err, bind_bad, eAdd, eSub, eMul, eDiv, eMod, ePow, eNeg, eLt, eLe, eGt, eGe, eEqI, eNeI, eEqS, eEqB, eNeB, eIdxL, eIdxT, eBool, eAbs, Bool.false_eq_true, dList, dTup, if_true, if_false, if_pos, List.map_cons, List.map_nil, List.length_cons, List.length_nil, List.replicate, List.cons_append, List.nil_append, List.getElem?_cons_zero, List.getElem?_cons_succ, List.set_cons_zero, List.set_cons_succ, Nat.reduceAdd, Nat.reduceSub, Nat.reduceLeDiff, Nat.reduceLT, Nat.reduceMul, Int.reduceToNat, Int.reduceEq, Int.reduceAdd, Int.reduceSub, Int.reduceNeg, Bool.not_true, Bool.not_false, decide_true, decide_false, reduceIte, Nat.reduceEqDiff, ite_true, ite_false, mIf, mLst, mSlice, mPart, mNoPart, mItS, mItL, mItT, asSeq, asList, asTup, mFor, mPar, mPass, mBrk, mCnt, mRetN, ch, m1, dInt2]), e]
    show _ = RS.nx [x0, x1, .sh (.int (c + (k * a.2 + dot ax i))), y3, y4, y5] s
    rw [Int.add_assoc]
  | [], _ :: _, _, _, _, _, h, _ => by have := h.1; simp at this
  | _ :: _, [], _, _, _, _, h, _ => by have := h.1; simp at this
theorem cell_stop (A : Ad) {x0 : Sl} {s : Dr} {d : D} {w : List Int} (hd : isSq d w) (hf : fmtD (tD w) = true) : ∀ (ax : Ax) (i : List Int) (c : Int) (x3 x4 x5 : Sl), i.length = ax.length → ¬ InR ax i → (∀ a ∈ ax, 1 ≤ a.1 ∧ a.1 ≤ 64 ∧ -64 < a.2 ∧ a.2 < 64) → ∃ ρ', forL (O A).S (fTup 3 (fCons (fName 3) (fCons (fName 4) (fCons (fName 5) fNil)))) (bd_View_cell_0 A) (ixD ax i) [x0, .sh d, .sh (.int c), x3, x4, x5] s = .err (A.c .IndexRangeError) [("index", tD w)] ρ' s
  | [], [], c, x3, x4, x5, _, n, _ => absurd InR.nil n
  | a :: ax, k :: i, c, x3, x4, x5, hl, n, hb => by
    have ha := hb a List.mem_cons_self
    have ch := chain_ok (A := A) (a := mC (O A) (.int 0)) (b := mVar (O A) 3) (c := mVar (O A) 4) (ρ := [x0, .sh d, .sh (.int c), .sh (.int k), .sh (.int a.1), .sh (.int a.2)]) (s := s) (s1 := s) (s2 := s) (s3 := s) (i := 0) (j := k) (k := a.1) (by simp only [runF, mSeq, seqS, mAsg, mBin, mUn, mVar, mC, mRet, mNext, mIfS, mTest, mTruth, mAnd, mOr, mNot, mAndV, mOrV, mNotV, mCl, mCons, mNil, mCall, mDrop, mDrI, mDrNe, mDrIx, mDrLen, mDrSet, mDrPop, drL, isDr0, toS, fName, R.lift, bind_ok, bind_err, bind_bad, eAdd, eSub, eMul, eDiv, eMod, ePow, eNeg, eLt, eLe, eGt, eGe, eEqI, eNeI, eEqS, eEqB, eNeB, eIdxL, eIdxT, eBool, eAbs, Bool.false_eq_true, dList, dTup, if_true, if_false, if_pos, List.map_cons, List.map_nil, List.length_cons, List.length_nil, List.replicate, List.cons_append, List.nil_append, List.getElem?_cons_zero, List.getElem?_cons_succ, List.set_cons_zero, List.set_cons_succ, Nat.reduceAdd, Nat.reduceSub, Nat.reduceLeDiff, Nat.reduceLT, Nat.reduceMul, Int.reduceToNat, Int.reduceEq, Int.reduceAdd, Int.reduceSub, Int.reduceNeg, Bool.not_true, Bool.not_false, decide_true, decide_false, reduceIte, Nat.reduceEqDiff, ite_true, ite_false, mIf, mLst, mSlice, mPart, mNoPart, mItS, mItL, mItT, asSeq, asList, asTup, mFor, mPar, mPass, mBrk, mCnt, mRetN]) (by simp only [runF, mSeq, seqS, mAsg, mBin, mUn, mVar, mC, mRet, mNext, mIfS, mTest, mTruth, mAnd, mOr, mNot, mAndV, mOrV, mNotV, mCl, mCons, mNil, mCall, mDrop, mDrI, mDrNe, mDrIx, mDrLen, mDrSet, mDrPop, drL, isDr0, toS, fName, R.lift, bind_ok, bind_err, bind_bad, eAdd, eSub, eMul, eDiv, eMod, ePow, eNeg, eLt, eLe, eGt, eGe, eEqI, eNeI, eEqS, eEqB, eNeB, eIdxL, eIdxT, eBool, eAbs, Bool.false_eq_true, dList, dTup, if_true, if_false, if_pos, List.map_cons, List.map_nil, List.length_cons, List.length_nil, List.replicate, List.cons_append, List.nil_append, List.getElem?_cons_zero, List.getElem?_cons_succ, List.set_cons_zero, List.set_cons_succ, Nat.reduceAdd, Nat.reduceSub, Nat.reduceLeDiff, Nat.reduceLT, Nat.reduceMul, Int.reduceToNat, Int.reduceEq, Int.reduceAdd, Int.reduceSub, Int.reduceNeg, Bool.not_true, Bool.not_false, decide_true, decide_false, reduceIte, Nat.reduceEqDiff, ite_true, ite_false, mIf, mLst, mSlice, mPart, mNoPart, mItS, mItL, mItT, asSeq, asList, asTup, mFor, mPar, mPass, mBrk, mCnt, mRetN]) (by simp only [runF, mSeq, seqS, mAsg, mBin, mUn, mVar, mC, mRet, mNext, mIfS, mTest, mTruth, mAnd, mOr, mNot, mAndV, mOrV, mNotV, mCl, mCons, mNil, mCall, mDrop, mDrI, mDrNe, mDrIx, mDrLen, mDrSet, mDrPop, drL, isDr0, toS, fName, R.lift, bind_ok, bind_err, bind_bad, eAdd, eSub, eMul, eDiv, eMod, ePow, eNeg, eLt, eLe, eGt, eGe, eEqI, eNeI, eEqS, eEqB, eNeB, eIdxL, eIdxT, eBool, eAbs, Bool.false_eq_true, dList, dTup, if_true, if_false, if_pos, List.map_cons, List.map_nil, List.length_cons, List.length_nil, List.replicate, List.cons_append, List.nil_append, List.getElem?_cons_zero, List.getElem?_cons_succ, List.set_cons_zero, List.set_cons_succ, Nat.reduceAdd, Nat.reduceSub, Nat.reduceLeDiff, Nat.reduceLT, Nat.reduceMul, Int.reduceToNat, Int.reduceEq, Int.reduceAdd, Int.reduceSub, Int.reduceNeg, Bool.not_true, Bool.not_false, decide_true, decide_false, reduceIte, Nat.reduceEqDiff, ite_true, ite_false, mIf, mLst, mSlice, mPart, mNoPart, mItS, mItL, mItT, asSeq, asList, asTup, mFor, mPar, mPass, mBrk, mCnt, mRetN])
    by_cases q : 0 ≤ k ∧ k < a.1
    · simp only [q.1, q.2, decide_true, Bool.and_self, ite_self] at ch
      have m1 : CMulG k a.2 := mulG (by omega) (by omega) (by omega) (by omega)
      obtain ⟨ρ', e⟩ := cell_stop A (x0 := x0) (s := s) hd hf ax i (c + k * a.2) (.sh (.int k)) (.sh (.int a.1)) (.sh (.int a.2)) (by simpa using hl) (fun z => n (z.cons q.1 q.2)) fun b hb' => hb b (List.mem_cons_of_mem _ hb')
      refine ⟨ρ', ?_⟩
      show forL (O A).S _ _ (D.tup [.int k, .int a.1, .int a.2] :: ixD ax i) _ s = _
      rw [forL_step (f3_ok _ _ _ _ _ _ _) (ρ2 := [x0, .sh d, .sh (.int (c + k * a.2)), .sh (.int k), .sh (.int a.1), .sh (.int a.2)]) (s2 := s) (by simp only [bd_View_cell_0, mAug, runF, mSeq, seqS, mAsg, mBin, mUn, mVar, mC, mRet, mNext, mIfS, mTest, mTruth, mAnd, mOr, mNot, mAndV, mOrV, mNotV, mCl, mCons, mNil, mCall, mDrop, mDrI, mDrNe, mDrIx, mDrLen, mDrSet, mDrPop, drL, isDr0, toS, fName, R.lift, bind_ok, bind_err, bind_bad, eAdd, eSub, eMul, eDiv, eMod, ePow, eNeg, eLt, eLe, eGt, eGe, eEqI, eNeI, eEqS, eEqB, eNeB, eIdxL, eIdxT, eBool, eAbs, Bool.false_eq_true, dList, dTup, if_true, if_false, if_pos, List.map_cons, List.map_nil, List.length_cons, List.length_nil, List.replicate, List.cons_append, List.nil_append, List.getElem?_cons_zero, List.getElem?_cons_succ, List.set_cons_zero, List.set_cons_succ, Nat.reduceAdd, Nat.reduceSub, Nat.reduceLeDiff, Nat.reduceLT, Nat.reduceMul, Int.reduceToNat, Int.reduceEq, Int.reduceAdd, Int.reduceSub, Int.reduceNeg, Bool.not_true, Bool.not_false, decide_true, decide_false, reduceIte, Nat.reduceEqDiff, ite_true, ite_false, mIf, mLst, mSlice, mPart, mNoPart, mItS, mItL, mItT, asSeq, asList, asTup, mFor, mPar, mPass, mBrk, mCnt, mRetN, ch, m1, dInt2]), e]
    · have e : (decide (0 ≤ k) && decide (k < a.1)) = false := by
        rw [Bool.and_eq_false_iff, decide_eq_false_iff_not, decide_eq_false_iff_not]
        omega
      rw [e] at ch
      simp only [ite_self] at ch
      have to := tupOf_sq hd
      have rz := raise1 (A := A) (C := A.c .IndexRangeError) (f := "index") (m := mCons (O A) (mCl (O A) dTupOf (mCons (O A) (mVar (O A) 1) (mNil (O A)))) (mNil (O A))) (ρ := [x0, .sh d, .sh (.int c), .sh (.int k), .sh (.int a.1), .sh (.int a.2)]) (s := s) (s1 := s) (d := tD w) (by simp only [runF, mSeq, seqS, mAsg, mBin, mUn, mVar, mC, mRet, mNext, mIfS, mTest, mTruth, mAnd, mOr, mNot, mAndV, mOrV, mNotV, mCl, mCons, mNil, mCall, mDrop, mDrI, mDrNe, mDrIx, mDrLen, mDrSet, mDrPop, drL, isDr0, toS, fName, R.lift, bind_ok, bind_err, bind_bad, eAdd, eSub, eMul, eDiv, eMod, ePow, eNeg, eLt, eLe, eGt, eGe, eEqI, eNeI, eEqS, eEqB, eNeB, eIdxL, eIdxT, eBool, eAbs, Bool.false_eq_true, dList, dTup, if_true, if_false, if_pos, List.map_cons, List.map_nil, List.length_cons, List.length_nil, List.replicate, List.cons_append, List.nil_append, List.getElem?_cons_zero, List.getElem?_cons_succ, List.set_cons_zero, List.set_cons_succ, Nat.reduceAdd, Nat.reduceSub, Nat.reduceLeDiff, Nat.reduceLT, Nat.reduceMul, Int.reduceToNat, Int.reduceEq, Int.reduceAdd, Int.reduceSub, Int.reduceNeg, Bool.not_true, Bool.not_false, decide_true, decide_false, reduceIte, Nat.reduceEqDiff, ite_true, ite_false, mIf, mLst, mSlice, mPart, mNoPart, mItS, mItL, mItT, asSeq, asList, asTup, mFor, mPar, mPass, mBrk, mCnt, mRetN, to]) hf
      refine ⟨[x0, .sh d, .sh (.int c), .sh (.int k), .sh (.int a.1), .sh (.int a.2)], ?_⟩
      show forL (O A).S _ _ (D.tup [.int k, .int a.1, .int a.2] :: ixD ax i) _ s = _
      simp only [forL, f3_ok, bd_View_cell_0, runF, mSeq, seqS, mAsg, mBin, mUn, mVar, mC, mRet, mNext, mIfS, mTest, mTruth, mAnd, mOr, mNot, mAndV, mOrV, mNotV, mCl, mCons, mNil, mCall, mDrop, mDrI, mDrNe, mDrIx, mDrLen, mDrSet, mDrPop, drL, isDr0, toS, fName, R.lift, bind_ok, bind_err, bind_bad, eAdd, eSub, eMul, eDiv, eMod, ePow, eNeg, eLt, eLe, eGt, eGe, eEqI, eNeI, eEqS, eEqB, eNeB, eIdxL, eIdxT, eBool, eAbs, Bool.false_eq_true, dList, dTup, if_true, if_false, if_pos, List.map_cons, List.map_nil, List.length_cons, List.length_nil, List.replicate, List.cons_append, List.nil_append, List.getElem?_cons_zero, List.getElem?_cons_succ, List.set_cons_zero, List.set_cons_succ, Nat.reduceAdd, Nat.reduceSub, Nat.reduceLeDiff, Nat.reduceLT, Nat.reduceMul, Int.reduceToNat, Int.reduceEq, Int.reduceAdd, Int.reduceSub, Int.reduceNeg, Bool.not_true, Bool.not_false, decide_true, decide_false, reduceIte, Nat.reduceEqDiff, ite_true, ite_false, mIf, mLst, mSlice, mPart, mNoPart, mItS, mItL, mItT, asSeq, asList, asTup, mFor, mPar, mPass, mBrk, mCnt, mRetN, ch, rz]
  | [], _ :: _, _, _, _, _, h, _, _ => by simp at h
  | _ :: _, [], _, _, _, _, h, _, _ => by simp at h
theorem Vw.ent {o : Int} {ax : Ax} (hv : Vw 64 64 o ax) : ∀ a ∈ ax, 1 ≤ a.1 ∧ a.1 ≤ 64 ∧ -64 < a.2 ∧ a.2 < 64 := by
  intro a ha
  have := Int.le_trans (view_reason_ok.le_prod (fun l hl => (hv.shp (by decide) l hl).1) (show a.1 ∈ S.shp ax from List.mem_map_of_mem ha)) hv.prd
  have := hv.str (by decide) a ha
  exact ⟨hv.pos a ha, by omega, by omega, by omega⟩
theorem cell_ok (A : Ad) {s : Dr} {o : Int} {ax : Ax} {d : D} {i : List Int} (hv : Vw 64 64 o ax) (hd : isSq d i) (h : InR ax i) : m_View_cell A [vD A o ax, d] s = .ok (.int (o + dot ax i)) s := by
  obtain ⟨f1, f2, f3⟩ := fld_ok A (m := mVar (O A) 0) (ρ := [.sh (vD A o ax), .sh d, .no, .no, .no, .no]) (s := s) (s' := s) (o := o) (ax := ax) (by simp only [runF, mSeq, seqS, mAsg, mBin, mUn, mVar, mC, mRet, mNext, mIfS, mTest, mTruth, mAnd, mOr, mNot, mAndV, mOrV, mNotV, mCl, mCons, mNil, mCall, mDrop, mDrI, mDrNe, mDrIx, mDrLen, mDrSet, mDrPop, drL, isDr0, toS, fName, R.lift, bind_ok, bind_err, bind_bad, eAdd, eSub, eMul, eDiv, eMod, ePow, eNeg, eLt, eLe, eGt, eGe, eEqI, eNeI, eEqS, eEqB, eNeB, eIdxL, eIdxT, eBool, eAbs, Bool.false_eq_true, dList, dTup, if_true, if_false, if_pos, List.map_cons, List.map_nil, List.length_cons, List.length_nil, List.replicate, List.cons_append, List.nil_append, List.getElem?_cons_zero, List.getElem?_cons_succ, List.set_cons_zero, List.set_cons_succ, Nat.reduceAdd, Nat.reduceSub, Nat.reduceLeDiff, Nat.reduceLT, Nat.reduceMul, Int.reduceToNat, Int.reduceEq, Int.reduceAdd, Int.reduceSub, Int.reduceNeg, Bool.not_true, Bool.not_false, decide_true, decide_false, reduceIte, Nat.reduceEqDiff, ite_true, ite_false, mIf, mLst, mSlice, mPart, mNoPart, mItS, mItL, mItT, asSeq, asList, asTup, mFor, mPar, mPass, mBrk, mCnt, mRetN])
  obtain ⟨_, g2, g3⟩ := fld_ok A (m := mVar (O A) 0) (ρ := [.sh (vD A o ax), .sh d, .sh (.int o), .no, .no, .no]) (s := s) (s' := s) (o := o) (ax := ax) (by simp only [runF, mSeq, seqS, mAsg, mBin, mUn, mVar, mC, mRet, mNext, mIfS, mTest, mTruth, mAnd, mOr, mNot, mAndV, mOrV, mNotV, mCl, mCons, mNil, mCall, mDrop, mDrI, mDrNe, mDrIx, mDrLen, mDrSet, mDrPop, drL, isDr0, toS, fName, R.lift, bind_ok, bind_err, bind_bad, eAdd, eSub, eMul, eDiv, eMod, ePow, eNeg, eLt, eLe, eGt, eGe, eEqI, eNeI, eEqS, eEqB, eNeB, eIdxL, eIdxT, eBool, eAbs, Bool.false_eq_true, dList, dTup, if_true, if_false, if_pos, List.map_cons, List.map_nil, List.length_cons, List.length_nil, List.replicate, List.cons_append, List.nil_append, List.getElem?_cons_zero, List.getElem?_cons_succ, List.set_cons_zero, List.set_cons_succ, Nat.reduceAdd, Nat.reduceSub, Nat.reduceLeDiff, Nat.reduceLT, Nat.reduceMul, Int.reduceToNat, Int.reduceEq, Int.reduceAdd, Int.reduceSub, Int.reduceNeg, Bool.not_true, Bool.not_false, decide_true, decide_false, reduceIte, Nat.reduceEqDiff, ite_true, ite_false, mIf, mLst, mSlice, mPart, mNoPart, mItS, mItL, mItT, asSeq, asList, asTup, mFor, mPar, mPass, mBrk, mCnt, mRetN])
  have l1 : dLen [.tup (iD (shp ax))] = some (.int ax.length) := by simp [dLen, shp]
  have l2 := hd.len
  rw [h.1] at l2
  obtain ⟨y3, y4, y5, e⟩ := cell_loop A (x0 := .sh (vD A o ax)) (x1 := .sh d) (s := s) ax i o .no .no .no h fun a ha => (Vw.ent hv a ha).2
  simp only [m_View_cell, mb_View_cell, mItA, runF, mSeq, seqS, mAsg, mBin, mUn, mVar, mC, mRet, mNext, mIfS, mTest, mTruth, mAnd, mOr, mNot, mAndV, mOrV, mNotV, mCl, mCons, mNil, mCall, mDrop, mDrI, mDrNe, mDrIx, mDrLen, mDrSet, mDrPop, drL, isDr0, toS, fName, R.lift, bind_ok, bind_err, bind_bad, eAdd, eSub, eMul, eDiv, eMod, ePow, eNeg, eLt, eLe, eGt, eGe, eEqI, eNeI, eEqS, eEqB, eNeB, eIdxL, eIdxT, eBool, eAbs, Bool.false_eq_true, dList, dTup, if_true, if_false, if_pos, List.map_cons, List.map_nil, List.length_cons, List.length_nil, List.replicate, List.cons_append, List.nil_append, List.getElem?_cons_zero, List.getElem?_cons_succ, List.set_cons_zero, List.set_cons_succ, Nat.reduceAdd, Nat.reduceSub, Nat.reduceLeDiff, Nat.reduceLT, Nat.reduceMul, Int.reduceToNat, Int.reduceEq, Int.reduceAdd, Int.reduceSub, Int.reduceNeg, Bool.not_true, Bool.not_false, decide_true, decide_false, reduceIte, Nat.reduceEqDiff, ite_true, ite_false, mIf, mLst, mSlice, mPart, mNoPart, mItS, mItL, mItT, asSeq, asList, asTup, mFor, mPar, mPass, mBrk, mCnt, mRetN, f1, f2, f3, g2, g3, l1, l2, zip3_ok hd, e]
theorem cell_no (A : Ad) {s : Dr} {o : Int} {ax : Ax} {d : D} {i : List Int} (hv : Vw 64 64 o ax) (hd : isSq d i) (hf : fmtD (tD i) = true) (h : ¬ InR ax i) : m_View_cell A [vD A o ax, d] s = .err (A.c .IndexRangeError) [("index", tD i)] s := by
  obtain ⟨f1, f2, f3⟩ := fld_ok A (m := mVar (O A) 0) (ρ := [.sh (vD A o ax), .sh d, .no, .no, .no, .no]) (s := s) (s' := s) (o := o) (ax := ax) (by simp only [runF, mSeq, seqS, mAsg, mBin, mUn, mVar, mC, mRet, mNext, mIfS, mTest, mTruth, mAnd, mOr, mNot, mAndV, mOrV, mNotV, mCl, mCons, mNil, mCall, mDrop, mDrI, mDrNe, mDrIx, mDrLen, mDrSet, mDrPop, drL, isDr0, toS, fName, R.lift, bind_ok, bind_err, bind_bad, eAdd, eSub, eMul, eDiv, eMod, ePow, eNeg, eLt, eLe, eGt, eGe, eEqI, eNeI, eEqS, eEqB, eNeB, eIdxL, eIdxT, eBool, eAbs, Bool.false_eq_true, dList, dTup, if_true, if_false, if_pos, List.map_cons, List.map_nil, List.length_cons, List.length_nil, List.replicate, List.cons_append, List.nil_append, List.getElem?_cons_zero, List.getElem?_cons_succ, List.set_cons_zero, List.set_cons_succ, Nat.reduceAdd, Nat.reduceSub, Nat.reduceLeDiff, Nat.reduceLT, Nat.reduceMul, Int.reduceToNat, Int.reduceEq, Int.reduceAdd, Int.reduceSub, Int.reduceNeg, Bool.not_true, Bool.not_false, decide_true, decide_false, reduceIte, Nat.reduceEqDiff, ite_true, ite_false, mIf, mLst, mSlice, mPart, mNoPart, mItS, mItL, mItT, asSeq, asList, asTup, mFor, mPar, mPass, mBrk, mCnt, mRetN])
  obtain ⟨_, g2, g3⟩ := fld_ok A (m := mVar (O A) 0) (ρ := [.sh (vD A o ax), .sh d, .sh (.int o), .no, .no, .no]) (s := s) (s' := s) (o := o) (ax := ax) (by simp only [runF, mSeq, seqS, mAsg, mBin, mUn, mVar, mC, mRet, mNext, mIfS, mTest, mTruth, mAnd, mOr, mNot, mAndV, mOrV, mNotV, mCl, mCons, mNil, mCall, mDrop, mDrI, mDrNe, mDrIx, mDrLen, mDrSet, mDrPop, drL, isDr0, toS, fName, R.lift, bind_ok, bind_err, bind_bad, eAdd, eSub, eMul, eDiv, eMod, ePow, eNeg, eLt, eLe, eGt, eGe, eEqI, eNeI, eEqS, eEqB, eNeB, eIdxL, eIdxT, eBool, eAbs, Bool.false_eq_true, dList, dTup, if_true, if_false, if_pos, List.map_cons, List.map_nil, List.length_cons, List.length_nil, List.replicate, List.cons_append, List.nil_append, List.getElem?_cons_zero, List.getElem?_cons_succ, List.set_cons_zero, List.set_cons_succ, Nat.reduceAdd, Nat.reduceSub, Nat.reduceLeDiff, Nat.reduceLT, Nat.reduceMul, Int.reduceToNat, Int.reduceEq, Int.reduceAdd, Int.reduceSub, Int.reduceNeg, Bool.not_true, Bool.not_false, decide_true, decide_false, reduceIte, Nat.reduceEqDiff, ite_true, ite_false, mIf, mLst, mSlice, mPart, mNoPart, mItS, mItL, mItT, asSeq, asList, asTup, mFor, mPar, mPass, mBrk, mCnt, mRetN])
  have l1 : dLen [.tup (iD (shp ax))] = some (.int ax.length) := by simp [dLen, shp]
  have l2 := hd.len
  by_cases q : i.length = ax.length
  · rw [q] at l2
    obtain ⟨ρ', e⟩ := cell_stop A (x0 := .sh (vD A o ax)) (s := s) hd hf ax i o .no .no .no q h (Vw.ent hv)
    simp only [m_View_cell, mb_View_cell, mItA, runF, mSeq, seqS, mAsg, mBin, mUn, mVar, mC, mRet, mNext, mIfS, mTest, mTruth, mAnd, mOr, mNot, mAndV, mOrV, mNotV, mCl, mCons, mNil, mCall, mDrop, mDrI, mDrNe, mDrIx, mDrLen, mDrSet, mDrPop, drL, isDr0, toS, fName, R.lift, bind_ok, bind_err, bind_bad, eAdd, eSub, eMul, eDiv, eMod, ePow, eNeg, eLt, eLe, eGt, eGe, eEqI, eNeI, eEqS, eEqB, eNeB, eIdxL, eIdxT, eBool, eAbs, Bool.false_eq_true, dList, dTup, if_true, if_false, if_pos, List.map_cons, List.map_nil, List.length_cons, List.length_nil, List.replicate, List.cons_append, List.nil_append, List.getElem?_cons_zero, List.getElem?_cons_succ, List.set_cons_zero, List.set_cons_succ, Nat.reduceAdd, Nat.reduceSub, Nat.reduceLeDiff, Nat.reduceLT, Nat.reduceMul, Int.reduceToNat, Int.reduceEq, Int.reduceAdd, Int.reduceSub, Int.reduceNeg, Bool.not_true, Bool.not_false, decide_true, decide_false, reduceIte, Nat.reduceEqDiff, ite_true, ite_false, mIf, mLst, mSlice, mPart, mNoPart, mItS, mItL, mItT, asSeq, asList, asTup, mFor, mPar, mPass, mBrk, mCnt, mRetN, f1, f2, f3, g2, g3, l1, l2, zip3_ok hd, e]
  · have q' : ¬ ((i.length : Int) = ax.length) := by omega
    have to := tupOf_sq hd
    have rz := raise1 (A := A) (C := A.c .IndexRangeError) (f := "index") (m := mCons (O A) (mCl (O A) dTupOf (mCons (O A) (mVar (O A) 1) (mNil (O A)))) (mNil (O A))) (ρ := [.sh (vD A o ax), .sh d, .no, .no, .no, .no]) (s := s) (s1 := s) (d := tD i) (by simp only [runF, mSeq, seqS, mAsg, mBin, mUn, mVar, mC, mRet, mNext, mIfS, mTest, mTruth, mAnd, mOr, mNot, mAndV, mOrV, mNotV, mCl, mCons, mNil, mCall, mDrop, mDrI, mDrNe, mDrIx, mDrLen, mDrSet, mDrPop, drL, isDr0, toS, fName, R.lift, bind_ok, bind_err, bind_bad, eAdd, eSub, eMul, eDiv, eMod, ePow, eNeg, eLt, eLe, eGt, eGe, eEqI, eNeI, eEqS, eEqB, eNeB, eIdxL, eIdxT, eBool, eAbs, Bool.false_eq_true, dList, dTup, if_true, if_false, if_pos, List.map_cons, List.map_nil, List.length_cons, List.length_nil, List.replicate, List.cons_append, List.nil_append, List.getElem?_cons_zero, List.getElem?_cons_succ, List.set_cons_zero, List.set_cons_succ, Nat.reduceAdd, Nat.reduceSub, Nat.reduceLeDiff, Nat.reduceLT, Nat.reduceMul, Int.reduceToNat, Int.reduceEq, Int.reduceAdd, Int.reduceSub, Int.reduceNeg, Bool.not_true, Bool.not_false, decide_true, decide_false, reduceIte, Nat.reduceEqDiff, ite_true, ite_false, mIf, mLst, mSlice, mPart, mNoPart, mItS, mItL, mItT, asSeq, asList, asTup, mFor, mPar, mPass, mBrk, mCnt, mRetN, to]) hf
    simp only [m_View_cell, mb_View_cell, runF, mSeq, seqS, mAsg, mBin, mUn, mVar, mC, mRet, mNext, mIfS, mTest, mTruth, mAnd, mOr, mNot, mAndV, mOrV, mNotV, mCl, mCons, mNil, mCall, mDrop, mDrI, mDrNe, mDrIx, mDrLen, mDrSet, mDrPop, drL, isDr0, toS, fName, R.lift, bind_ok, bind_err, bind_bad, eAdd, eSub, eMul, eDiv, eMod, ePow, eNeg, eLt, eLe, eGt, eGe, eEqI, eNeI, eEqS, eEqB, eNeB, eIdxL, eIdxT, eBool, eAbs, Bool.false_eq_true, dList, dTup, if_true, if_false, if_pos, List.map_cons, List.map_nil, List.length_cons, List.length_nil, List.replicate, List.cons_append, List.nil_append, List.getElem?_cons_zero, List.getElem?_cons_succ, List.set_cons_zero, List.set_cons_succ, Nat.reduceAdd, Nat.reduceSub, Nat.reduceLeDiff, Nat.reduceLT, Nat.reduceMul, Int.reduceToNat, Int.reduceEq, Int.reduceAdd, Int.reduceSub, Int.reduceNeg, Bool.not_true, Bool.not_false, decide_true, decide_false, reduceIte, Nat.reduceEqDiff, ite_true, ite_false, mIf, mLst, mSlice, mPart, mNoPart, mItS, mItL, mItT, asSeq, asList, asTup, mFor, mPar, mPass, mBrk, mCnt, mRetN, f2, l1, l2, q', rz]
/-! ### cells() as a new list; size, lowest, highest -/
theorem cells_loopN (A : Ad) {x0 x1 x2 : Sl} {s : Dr} : ∀ (ax : Ax) (cs : List Int) (j : Int) (x4 x5 x6 x7 : Sl), Bd ax → 0 ≤ j → j + ax.length ≤ 1000 → (∀ c ∈ cs, -(10 ^ 62 * j) < c ∧ c < 10 ^ 62 * j) → (cs.length : Int) * prodL (shp ax) ≤ 64 → 0 < cs.length →
    ∃ y4 y5 y6 y7, forL (O A).S (fTup 2 (fCons (fName 4) (fCons (fName 5) fNil))) (bd_cells_ofN_1 A) (axD ax) [x0, x1, x2, .own (iD cs), x4, x5, x6, x7] s = .nx [x0, x1, x2, .own (iD (cellsF ax cs)), y4, y5, y6, y7] s
  | [], cs, j, x4, x5, x6, x7, _, _, _, _, _, _ => ⟨x4, x5, x6, x7, rfl⟩
  | a :: ax, cs, j, x4, x5, x6, x7, hb, j0, hj, hc, hp, h0 => by
    have p1 := prod_pos hb.tail.shp
    have a1 := hb.pos a List.mem_cons_self
    have a2 := hb.str a List.mem_cons_self
    have e1 : prodL (shp (a :: ax)) = a.1 * prodL (shp ax) := rfl
    rw [e1, ← Int.mul_assoc] at hp
    have hcs : (1 : Int) ≤ cs.length := by omega
    have hca : (cs.length : Int) * a.1 ≤ 64 := by
      have h1 : (0 : Int) ≤ (cs.length : Int) * a.1 := Int.mul_nonneg (by omega) (by omega)
      have := Int.mul_le_mul_of_nonneg_left p1 h1
      omega
    have ha64 : a.1 ≤ 64 := by
      have := Int.mul_le_mul_of_nonneg_right hcs (show (0 : Int) ≤ a.1 by omega)
      omega
    have hln : cs.length * a.1.toNat ≤ 64 := by
      have : ((cs.length * a.1.toNat : Nat) : Int) = (cs.length : Int) * a.1 := by
        rw [Int.natCast_mul, Int.toNat_of_nonneg (by omega)]
      omega
    have hlen := cells_step_len cs a
    rw [List.length_cons] at hj
    obtain ⟨y4, y5, y6, y7, e⟩ := cells_loopN A (x0 := x0) (x1 := x1) (x2 := x2) (s := s) ax (cs.flatMap fun c => (rng a.1).map fun k => c + k * a.2) (j + 1) (.sh (.int a.1)) (.sh (.int a.2)) x6 x7 hb.tail (by omega) (by omega) (step_bd ha64 a2 hc)
      (by
        rw [hlen, Int.natCast_mul, Int.toNat_of_nonneg (by omega)]
        exact hp) (by rw [hlen]; exact Nat.mul_pos h0 (by omega))
    refine ⟨y4, y5, y6, y7, ?_⟩
    have lc := lc_cells A (x0 := x0) (x1 := x1) (x2 := x2) (x6 := x6) (x7 := x7) (s := s) (cs := cs) (a := a) (j := j) (by omega) a1 ha64 a2 hc hln
    have lcN : lc_cells_ofN_0 A = lc_cells_of_0 A := rfl
    rw [← lcN] at lc
    show forL (O A).S _ _ (D.tup [.int a.1, .int a.2] :: axD ax) _ s = _
    rw [forL_step (f2_ok _ _ _ _ _) (by simp only [bd_cells_ofN_1, mFrz, frzE, mOwn, runF, mSeq, seqS, mAsg, mBin, mUn, mVar, mC, mRet, mNext, mIfS, mTest, mTruth, mAnd, mOr, mNot, mAndV, mOrV, mNotV, mCl, mCons, mNil, mCall, mDrop, mDrI, mDrNe, mDrIx, mDrLen, mDrSet, mDrPop, drL, isDr0, toS, fName, R.lift, bind_ok, bind_err, bind_bad, eAdd, eSub, eMul, eDiv, eMod, ePow, eNeg, eLt, eLe, eGt, eGe, eEqI, eNeI, eEqS, eEqB, eNeB, eIdxL, eIdxT, eBool, eAbs, Bool.false_eq_true, dList, dTup, if_true, if_false, if_pos, List.map_cons, List.map_nil, List.length_cons, List.length_nil, List.replicate, List.cons_append, List.nil_append, List.getElem?_cons_zero, List.getElem?_cons_succ, List.set_cons_zero, List.set_cons_succ, Nat.reduceAdd, Nat.reduceSub, Nat.reduceLeDiff, Nat.reduceLT, Nat.reduceMul, Int.reduceToNat, Int.reduceEq, Int.reduceAdd, Int.reduceSub, Int.reduceNeg, Bool.not_true, Bool.not_false, decide_true, decide_false, reduceIte, Nat.reduceEqDiff, ite_true, ite_false, mIf, mLst, mSlice, mPart, mNoPart, mItS, mItL, mItT, asSeq, asList, asTup, mFor, mPar, mPass, mBrk, mCnt, mRetN, lc]; rfl), e]
    rfl
theorem cellsN_ok (A : Ad) {s : Dr} {o : Int} {ax : Ax} (hv : Vw 64 64 o ax) : m_View_cellsN A [vD A o ax] s = .ok (iD (cellsL o ax)) s := by
  obtain ⟨f1, f2, f3⟩ := fld_ok A (m := mVar (O A) 0) (ρ := [.sh (vD A o ax)]) (s := s) (s' := s) (o := o) (ax := ax) (by simp only [runF, mSeq, seqS, mAsg, mBin, mUn, mVar, mC, mRet, mNext, mIfS, mTest, mTruth, mAnd, mOr, mNot, mAndV, mOrV, mNotV, mCl, mCons, mNil, mCall, mDrop, mDrI, mDrNe, mDrIx, mDrLen, mDrSet, mDrPop, drL, isDr0, toS, fName, R.lift, bind_ok, bind_err, bind_bad, eAdd, eSub, eMul, eDiv, eMod, ePow, eNeg, eLt, eLe, eGt, eGe, eEqI, eNeI, eEqS, eEqB, eNeB, eIdxL, eIdxT, eBool, eAbs, Bool.false_eq_true, dList, dTup, if_true, if_false, if_pos, List.map_cons, List.map_nil, List.length_cons, List.length_nil, List.replicate, List.cons_append, List.nil_append, List.getElem?_cons_zero, List.getElem?_cons_succ, List.set_cons_zero, List.set_cons_succ, Nat.reduceAdd, Nat.reduceSub, Nat.reduceLeDiff, Nat.reduceLT, Nat.reduceMul, Int.reduceToNat, Int.reduceEq, Int.reduceAdd, Int.reduceSub, Int.reduceNeg, Bool.not_true, Bool.not_false, decide_true, decide_false, reduceIte, Nat.reduceEqDiff, ite_true, ite_false, mIf, mLst, mSlice, mPart, mNoPart, mItS, mItL, mItT, asSeq, asList, asTup, mFor, mPar, mPass, mBrk, mCnt, mRetN])
  have ob := hv.off (by decide)
  have hd : sq2 (.tup (iD (shp ax))) (.tup (iD (strd ax))) (shp ax) (strd ax) := ⟨.inr rfl, .inr rfl⟩
  obtain ⟨y4, y5, y6, y7, e1⟩ := cells_loopN A (x0 := .sh (.int o)) (x1 := .sh (.tup (iD (shp ax)))) (x2 := .sh (.tup (iD (strd ax)))) (s := s) ax [o] 1 .no .no .no .no (hv.bd (by decide)) (by decide) (by have := hv.len; omega) (by intro c hc; rw [List.mem_singleton] at hc; subst hc; omega) (by simpa using hv.prd) (by simp)
  simp only [iD, List.map_cons, List.map_nil] at e1
  have c : m_cells_ofN A [.int o, .tup (iD (shp ax)), .tup (iD (strd ax))] s = .ok (iD (cellsL o ax)) s := by
    simp only [m_cells_ofN, Mr.runN, mb_cells_ofN, mOwn, mDisp, listMax, mRetO, mItA, runF, mSeq, seqS, mAsg, mBin, mUn, mVar, mC, mRet, mNext, mIfS, mTest, mTruth, mAnd, mOr, mNot, mAndV, mOrV, mNotV, mCl, mCons, mNil, mCall, mDrop, mDrI, mDrNe, mDrIx, mDrLen, mDrSet, mDrPop, drL, isDr0, toS, fName, R.lift, bind_ok, bind_err, bind_bad, eAdd, eSub, eMul, eDiv, eMod, ePow, eNeg, eLt, eLe, eGt, eGe, eEqI, eNeI, eEqS, eEqB, eNeB, eIdxL, eIdxT, eBool, eAbs, Bool.false_eq_true, dList, dTup, if_true, if_false, if_pos, List.map_cons, List.map_nil, List.length_cons, List.length_nil, List.replicate, List.cons_append, List.nil_append, List.getElem?_cons_zero, List.getElem?_cons_succ, List.set_cons_zero, List.set_cons_succ, Nat.reduceAdd, Nat.reduceSub, Nat.reduceLeDiff, Nat.reduceLT, Nat.reduceMul, Int.reduceToNat, Int.reduceEq, Int.reduceAdd, Int.reduceSub, Int.reduceNeg, Bool.not_true, Bool.not_false, decide_true, decide_false, reduceIte, Nat.reduceEqDiff, ite_true, ite_false, mIf, mLst, mSlice, mPart, mNoPart, mItS, mItL, mItT, asSeq, asList, asTup, mFor, mPar, mPass, mBrk, mCnt, mRetN, hd.zip, e1]
    rfl
  simp only [m_View_cellsN, Mr.runN, mb_View_cellsN, mRetNew, mCallN, runF, mSeq, seqS, mAsg, mBin, mUn, mVar, mC, mRet, mNext, mIfS, mTest, mTruth, mAnd, mOr, mNot, mAndV, mOrV, mNotV, mCl, mCons, mNil, mCall, mDrop, mDrI, mDrNe, mDrIx, mDrLen, mDrSet, mDrPop, drL, isDr0, toS, fName, R.lift, bind_ok, bind_err, bind_bad, eAdd, eSub, eMul, eDiv, eMod, ePow, eNeg, eLt, eLe, eGt, eGe, eEqI, eNeI, eEqS, eEqB, eNeB, eIdxL, eIdxT, eBool, eAbs, Bool.false_eq_true, dList, dTup, if_true, if_false, if_pos, List.map_cons, List.map_nil, List.length_cons, List.length_nil, List.replicate, List.cons_append, List.nil_append, List.getElem?_cons_zero, List.getElem?_cons_succ, List.set_cons_zero, List.set_cons_succ, Nat.reduceAdd, Nat.reduceSub, Nat.reduceLeDiff, Nat.reduceLT, Nat.reduceMul, Int.reduceToNat, Int.reduceEq, Int.reduceAdd, Int.reduceSub, Int.reduceNeg, Bool.not_true, Bool.not_false, decide_true, decide_false, reduceIte, Nat.reduceEqDiff, ite_true, ite_false, mIf, mLst, mSlice, mPart, mNoPart, mItS, mItL, mItT, asSeq, asList, asTup, mFor, mPar, mPass, mBrk, mCnt, mRetN, f1, f2, f3, c]
theorem size_ok (A : Ad) {s : Dr} {o : Int} {ax : Ax} (hv : Vw 64 64 o ax) : m_View_size A [vD A o ax] s = .ok (.int (prodL (shp ax))) s := by
  obtain ⟨f1, f2, f3⟩ := fld_ok A (m := mVar (O A) 0) (ρ := [.sh (vD A o ax)]) (s := s) (s' := s) (o := o) (ax := ax) (by simp only [runF, mSeq, seqS, mAsg, mBin, mUn, mVar, mC, mRet, mNext, mIfS, mTest, mTruth, mAnd, mOr, mNot, mAndV, mOrV, mNotV, mCl, mCons, mNil, mCall, mDrop, mDrI, mDrNe, mDrIx, mDrLen, mDrSet, mDrPop, drL, isDr0, toS, fName, R.lift, bind_ok, bind_err, bind_bad, eAdd, eSub, eMul, eDiv, eMod, ePow, eNeg, eLt, eLe, eGt, eGe, eEqI, eNeI, eEqS, eEqB, eNeB, eIdxL, eIdxT, eBool, eAbs, Bool.false_eq_true, dList, dTup, if_true, if_false, if_pos, List.map_cons, List.map_nil, List.length_cons, List.length_nil, List.replicate, List.cons_append, List.nil_append, List.getElem?_cons_zero, List.getElem?_cons_succ, List.set_cons_zero, List.set_cons_succ, Nat.reduceAdd, Nat.reduceSub, Nat.reduceLeDiff, Nat.reduceLT, Nat.reduceMul, Int.reduceToNat, Int.reduceEq, Int.reduceAdd, Int.reduceSub, Int.reduceNeg, Bool.not_true, Bool.not_false, decide_true, decide_false, reduceIte, Nat.reduceEqDiff, ite_true, ite_false, mIf, mLst, mSlice, mPart, mNoPart, mItS, mItL, mItT, asSeq, asList, asTup, mFor, mPar, mPass, mBrk, mCnt, mRetN])
  have p := product_of_ok A (s := s) (d := .tup (iD (shp ax))) (.inr rfl) (fun l hl => (hv.shp (by decide) l hl).1) (by have := hv.prd; omega)
  simp only [m_View_size, mb_View_size, runF, mSeq, seqS, mAsg, mBin, mUn, mVar, mC, mRet, mNext, mIfS, mTest, mTruth, mAnd, mOr, mNot, mAndV, mOrV, mNotV, mCl, mCons, mNil, mCall, mDrop, mDrI, mDrNe, mDrIx, mDrLen, mDrSet, mDrPop, drL, isDr0, toS, fName, R.lift, bind_ok, bind_err, bind_bad, eAdd, eSub, eMul, eDiv, eMod, ePow, eNeg, eLt, eLe, eGt, eGe, eEqI, eNeI, eEqS, eEqB, eNeB, eIdxL, eIdxT, eBool, eAbs, Bool.false_eq_true, dList, dTup, if_true, if_false, if_pos, List.map_cons, List.map_nil, List.length_cons, List.length_nil, List.replicate, List.cons_append, List.nil_append, List.getElem?_cons_zero, List.getElem?_cons_succ, List.set_cons_zero, List.set_cons_succ, Nat.reduceAdd, Nat.reduceSub, Nat.reduceLeDiff, Nat.reduceLT, Nat.reduceMul, Int.reduceToNat, Int.reduceEq, Int.reduceAdd, Int.reduceSub, Int.reduceNeg, Bool.not_true, Bool.not_false, decide_true, decide_false, reduceIte, Nat.reduceEqDiff, ite_true, ite_false, mIf, mLst, mSlice, mPart, mNoPart, mItS, mItL, mItT, asSeq, asList, asTup, mFor, mPar, mPass, mBrk, mCnt, mRetN, f2, p]
theorem Vw.wd {o : Int} {ax : Ax} (hv : Vw 64 64 o ax) : Wd ax := ⟨fun a ha => by have := Vw.ent hv a ha; omega, fun a ha => by have := Vw.ent hv a ha; omega, by have := hv.len; omega⟩
theorem low_ok (A : Ad) {s : Dr} {o : Int} {ax : Ax} (hv : Vw 64 64 o ax) : m_View_lowest A [vD A o ax] s = .ok (.int (o + lowS ax)) s ∧ m_View_highest A [vD A o ax] s = .ok (.int (o + highS ax)) s := by
  obtain ⟨f1, f2, f3⟩ := fld_ok A (m := mVar (O A) 0) (ρ := [.sh (vD A o ax)]) (s := s) (s' := s) (o := o) (ax := ax) (by simp only [runF, mSeq, seqS, mAsg, mBin, mUn, mVar, mC, mRet, mNext, mIfS, mTest, mTruth, mAnd, mOr, mNot, mAndV, mOrV, mNotV, mCl, mCons, mNil, mCall, mDrop, mDrI, mDrNe, mDrIx, mDrLen, mDrSet, mDrPop, drL, isDr0, toS, fName, R.lift, bind_ok, bind_err, bind_bad, eAdd, eSub, eMul, eDiv, eMod, ePow, eNeg, eLt, eLe, eGt, eGe, eEqI, eNeI, eEqS, eEqB, eNeB, eIdxL, eIdxT, eBool, eAbs, Bool.false_eq_true, dList, dTup, if_true, if_false, if_pos, List.map_cons, List.map_nil, List.length_cons, List.length_nil, List.replicate, List.cons_append, List.nil_append, List.getElem?_cons_zero, List.getElem?_cons_succ, List.set_cons_zero, List.set_cons_succ, Nat.reduceAdd, Nat.reduceSub, Nat.reduceLeDiff, Nat.reduceLT, Nat.reduceMul, Int.reduceToNat, Int.reduceEq, Int.reduceAdd, Int.reduceSub, Int.reduceNeg, Bool.not_true, Bool.not_false, decide_true, decide_false, reduceIte, Nat.reduceEqDiff, ite_true, ite_false, mIf, mLst, mSlice, mPart, mNoPart, mItS, mItL, mItT, asSeq, asList, asTup, mFor, mPar, mPass, mBrk, mCnt, mRetN])
  have p := ends_of_ok A (s := s) (o := o) (ax := ax) (d := .tup (iD (shp ax))) (e := .tup (iD (strd ax))) ⟨.inr rfl, .inr rfl⟩ (Vw.wd hv)
  constructor
  · simp only [m_View_lowest, mb_View_lowest, runF, mSeq, seqS, mAsg, mBin, mUn, mVar, mC, mRet, mNext, mIfS, mTest, mTruth, mAnd, mOr, mNot, mAndV, mOrV, mNotV, mCl, mCons, mNil, mCall, mDrop, mDrI, mDrNe, mDrIx, mDrLen, mDrSet, mDrPop, drL, isDr0, toS, fName, R.lift, bind_ok, bind_err, bind_bad, eAdd, eSub, eMul, eDiv, eMod, ePow, eNeg, eLt, eLe, eGt, eGe, eEqI, eNeI, eEqS, eEqB, eNeB, eIdxL, eIdxT, eBool, eAbs, Bool.false_eq_true, dList, dTup, if_true, if_false, if_pos, List.map_cons, List.map_nil, List.length_cons, List.length_nil, List.replicate, List.cons_append, List.nil_append, List.getElem?_cons_zero, List.getElem?_cons_succ, List.set_cons_zero, List.set_cons_succ, Nat.reduceAdd, Nat.reduceSub, Nat.reduceLeDiff, Nat.reduceLT, Nat.reduceMul, Int.reduceToNat, Int.reduceEq, Int.reduceAdd, Int.reduceSub, Int.reduceNeg, Bool.not_true, Bool.not_false, decide_true, decide_false, reduceIte, Nat.reduceEqDiff, ite_true, ite_false, mIf, mLst, mSlice, mPart, mNoPart, mItS, mItL, mItT, asSeq, asList, asTup, mFor, mPar, mPass, mBrk, mCnt, mRetN, f1, f2, f3, p, at0]
  · simp only [m_View_highest, mb_View_highest, runF, mSeq, seqS, mAsg, mBin, mUn, mVar, mC, mRet, mNext, mIfS, mTest, mTruth, mAnd, mOr, mNot, mAndV, mOrV, mNotV, mCl, mCons, mNil, mCall, mDrop, mDrI, mDrNe, mDrIx, mDrLen, mDrSet, mDrPop, drL, isDr0, toS, fName, R.lift, bind_ok, bind_err, bind_bad, eAdd, eSub, eMul, eDiv, eMod, ePow, eNeg, eLt, eLe, eGt, eGe, eEqI, eNeI, eEqS, eEqB, eNeB, eIdxL, eIdxT, eBool, eAbs, Bool.false_eq_true, dList, dTup, if_true, if_false, if_pos, List.map_cons, List.map_nil, List.length_cons, List.length_nil, List.replicate, List.cons_append, List.nil_append, List.getElem?_cons_zero, List.getElem?_cons_succ, List.set_cons_zero, List.set_cons_succ, Nat.reduceAdd, Nat.reduceSub, Nat.reduceLeDiff, Nat.reduceLT, Nat.reduceMul, Int.reduceToNat, Int.reduceEq, Int.reduceAdd, Int.reduceSub, Int.reduceNeg, Bool.not_true, Bool.not_false, decide_true, decide_false, reduceIte, Nat.reduceEqDiff, ite_true, ite_false, mIf, mLst, mSlice, mPart, mNoPart, mItS, mItL, mItT, asSeq, asList, asTup, mFor, mPar, mPass, mBrk, mCnt, mRetN, f1, f2, f3, p, at1]
end S

namespace K03
open PySem PySem.Spec PyProof.Rows L2 RZ Mr S
def topS (i : Nat) : Stmt := PySem.Challenge.pw_latecopy_k03_cells_of_indices.main.body.getD i (.Pass ⟨0, 0, 0, 0⟩)
abbrev s_law_draws : Stmt := topS 14
theorem sc_law_draws : FnScope ["_law_script", "_law_cell"] ["_law_script"] (defScope s_law_draws) := ⟨rfl, rfl, rfl, by decide +kernel, rfl, by decide +kernel, by decide +kernel⟩
abbrev s_law_mixed : Stmt := topS 15
theorem sc_law_mixed : FnScope ["_law_seed", "_law_k", "_law_first"] ["_law_seed", "_law_k"] (defScope s_law_mixed) := ⟨rfl, rfl, rfl, by decide +kernel, rfl, by decide +kernel, by decide +kernel⟩
abbrev s_law_take : Stmt := topS 16
theorem sc_law_take : FnScope ["_law_draws_here", "_law_size", "_law_found", "_law_seed", "_law_reach"] ["_law_draws_here", "_law_size"] (defScope s_law_take) := ⟨rfl, rfl, rfl, by decide +kernel, rfl, by decide +kernel, by decide +kernel⟩
abbrev s_law_parts : Stmt := topS 17
theorem sc_law_parts : FnScope ["_law_draws_here", "_law_cells_here", "_law_most", "_law_shape", "_law_strides", "_law_room", "_law_left", "_law_below", "_law_k", "_law_length", "_law_reach", "_law_stride"] ["_law_draws_here", "_law_cells_here", "_law_most"] (defScope s_law_parts) := ⟨rfl, rfl, rfl, by decide +kernel, rfl, by decide +kernel, by decide +kernel⟩
abbrev s_product_of : Stmt := topS 8
theorem sc_product_of : FnScope ["numbers", "product", "number"] ["numbers"] (defScope s_product_of) := ⟨rfl, rfl, rfl, by decide +kernel, rfl, by decide +kernel, by decide +kernel⟩
abbrev s_ends_of : Stmt := topS 10
theorem sc_ends_of : FnScope ["offset", "shape", "strides", "reaches", "lowest", "highest", "length", "stride", "reach"] ["offset", "shape", "strides"] (defScope s_ends_of) := ⟨rfl, rfl, rfl, by decide +kernel, rfl, by decide +kernel, by decide +kernel⟩
abbrev s_view_reason : Stmt := topS 11
theorem sc_view_reason : FnScope ["offset", "shape", "strides", "lowest", "highest", "length"] ["offset", "shape", "strides"] (defScope s_view_reason) := ⟨rfl, rfl, rfl, by decide +kernel, rfl, by decide +kernel, by decide +kernel⟩
abbrev s_View_init : Stmt := inClass (topS 12) 0
theorem sc_View_init : FnScope ["self", "offset", "shape", "strides", "reason", "length", "stride"] ["self", "offset", "shape", "strides"] (defScope s_View_init) := ⟨rfl, rfl, rfl, by decide +kernel, rfl, by decide +kernel, by decide +kernel⟩
abbrev s_law_indices : Stmt := topS 19
theorem sc_law_indices : FnScope ["_law_shape", "_law_found", "_law_length", "_law_longer", "_law_index", "_law_k"] ["_law_shape"] (defScope s_law_indices) := ⟨rfl, rfl, rfl, by decide +kernel, rfl, by decide +kernel, by decide +kernel⟩
abbrev s_law_cells : Stmt := topS 18
theorem sc_law_cells : FnScope ["_law_parts_here", "_law_offset", "_law_shape", "_law_strides", "_law_cells_here", "_law_length", "_law_stride", "_law_longer", "_law_cell", "_law_k"] ["_law_parts_here"] (defScope s_law_cells) := ⟨rfl, rfl, rfl, by decide +kernel, rfl, by decide +kernel, by decide +kernel⟩
abbrev s_cells_of : Stmt := topS 9
theorem sc_cells_of : FnScope ["offset", "shape", "strides", "cells", "length", "stride", "cell", "position"] ["offset", "shape", "strides"] (defScope s_cells_of) := ⟨rfl, rfl, rfl, by decide +kernel, rfl, by decide +kernel, by decide +kernel⟩
abbrev s_View_cells : Stmt := inClass (topS 12) 5
theorem sc_View_cells : FnScope ["self"] ["self"] (defScope s_View_cells) := ⟨rfl, rfl, rfl, by decide +kernel, rfl, by decide +kernel, by decide +kernel⟩
abbrev s_law_same : Stmt := topS 20
theorem sc_law_same : FnScope ["_law_found", "_law_due", "_law_one", "_law_two"] ["_law_found", "_law_due"] (defScope s_law_same) := ⟨rfl, rfl, rfl, by decide +kernel, rfl, by decide +kernel, by decide +kernel⟩
abbrev s_View_size : Stmt := inClass (topS 12) 3
theorem sc_View_size : FnScope ["self"] ["self"] (defScope s_View_size) := ⟨rfl, rfl, rfl, by decide +kernel, rfl, by decide +kernel, by decide +kernel⟩
abbrev s_View_lowest : Stmt := inClass (topS 12) 6
theorem sc_View_lowest : FnScope ["self"] ["self"] (defScope s_View_lowest) := ⟨rfl, rfl, rfl, by decide +kernel, rfl, by decide +kernel, by decide +kernel⟩
abbrev s_View_highest : Stmt := inClass (topS 12) 7
theorem sc_View_highest : FnScope ["self"] ["self"] (defScope s_View_highest) := ⟨rfl, rfl, rfl, by decide +kernel, rfl, by decide +kernel, by decide +kernel⟩
abbrev s_View_cell : Stmt := inClass (topS 12) 4
theorem sc_View_cell : FnScope ["self", "index", "cell", "position", "length", "stride"] ["self", "index"] (defScope s_View_cell) := ⟨rfl, rfl, rfl, by decide +kernel, rfl, by decide +kernel, by decide +kernel⟩
abbrev s_law_wrong_index : Stmt := topS 21
theorem sc_law_wrong_index : FnScope ["_law_draws_here", "_law_shape", "_law_indices_here", "_law_index", "_law_way", "_law_at"] ["_law_draws_here", "_law_shape", "_law_indices_here"] (defScope s_law_wrong_index) := ⟨rfl, rfl, rfl, by decide +kernel, rfl, by decide +kernel, by decide +kernel⟩
abbrev s_law_refused : Stmt := topS 22
theorem sc_law_refused : FnScope ["_law_view", "_law_index", "_law_found", "e"] ["_law_view", "_law_index"] (defScope s_law_refused) := ⟨rfl, rfl, rfl, by decide +kernel, rfl, by decide +kernel, by decide +kernel⟩
abbrev s_View_parts : Stmt := inClass (topS 12) 2
theorem sc_View_parts : FnScope ["self"] ["self"] (defScope s_View_parts) := ⟨rfl, rfl, rfl, by decide +kernel, rfl, by decide +kernel, by decide +kernel⟩
abbrev s_law : Stmt := topS 23
theorem sc_law : FnScope ["_law_script", "_law_draws_here", "_law_parts_here", "_law_view", "_law_cells_here", "_law_indices_here", "_law_told", "_law_index", "_law_cell", "_law_turn"] ["_law_script"] (defScope s_law) := ⟨rfl, rfl, rfl, by decide +kernel, rfl, by decide +kernel, by decide +kernel⟩
abbrev s_iViewError : Stmt := inClass (topS 2) 0
theorem sc_iViewError : FnScope ["self", "reason"] ["self", "reason"] (defScope s_iViewError) := ⟨rfl, rfl, rfl, by decide +kernel, rfl, by decide +kernel, by decide +kernel⟩
abbrev s_iIndexRangeError : Stmt := inClass (topS 3) 0
theorem sc_iIndexRangeError : FnScope ["self", "index"] ["self", "index"] (defScope s_iIndexRangeError) := ⟨rfl, rfl, rfl, by decide +kernel, rfl, by decide +kernel, by decide +kernel⟩
def mb_law_wrong_index (A : Ad) : MS (O A) :=
  (mSeq (O A) (mOwn (O A) 3 (mListN (O A) (mCons (O A) (mBin (O A) dIdx (mVar (O A) 2) (mCall (O A) 2 (m_law_take A) (mCons (O A) (mVar (O A) 0) (mCons (O A) (mCl (O A) dLen (mCons (O A) (mVar (O A) 2) (mNil (O A)))) (mNil (O A)))))) (mNil (O A)))))
  (mSeq (O A) (mAsg (O A) (mCall (O A) 2 (m_law_take A) (mCons (O A) (mVar (O A) 0) (mCons (O A) (mC (O A) (.int 4)) (mNil (O A))))) (fName 4))
  (mSeq (O A) (mIfS (O A) (mOr (O A) (mTest (O A) (mBin (O A) dEq (mVar (O A) 4) (mC (O A) (.int 0)))) (mTest (O A) (mBin (O A) dEq (mLenO (O A) 3) (mC (O A) (.int 0)))))
  (mSeq (O A) (mOwnM (O A) 3 lIns (mCons (O A) (mCall (O A) 2 (m_law_take A) (mCons (O A) (mVar (O A) 0) (mCons (O A) (mBin (O A) dAdd (mLenO (O A) 3) (mC (O A) (.int 1))) (mNil (O A))))) (mCons (O A) (mCall (O A) 2 (m_law_take A) (mCons (O A) (mVar (O A) 0) (mCons (O A) (mC (O A) (.int 2)) (mNil (O A))))) (mNil (O A)))) fDrop)
  (mFrz (O A) 3 (mRet (O A) (mVar (O A) 3))))
  (mNext (O A)))
  (mSeq (O A) (mAsg (O A) (mCall (O A) 2 (m_law_take A) (mCons (O A) (mVar (O A) 0) (mCons (O A) (mLenO (O A) 3) (mNil (O A))))) (fName 5))
  (mSeq (O A) (mIfS (O A) (mTest (O A) (mBin (O A) dEq (mVar (O A) 4) (mC (O A) (.int 1))))
  (mOwnM (O A) 3 lPop (mCons (O A) (mVar (O A) 5) (mNil (O A))) fDrop)
  (mNext (O A)))
  (mSeq (O A) (mIfS (O A) (mTest (O A) (mBin (O A) dEq (mVar (O A) 4) (mC (O A) (.int 2))))
  (mSetI (O A) 3 (mVar (O A) 5) (mBin (O A) dIdx (mCl (O A) dList (mCons (O A) (mUn (O A) dNeg (mC (O A) (.int 1))) (mCons (O A) (mBin (O A) dSub (mC (O A) (.int 0)) (mBin (O A) dIdx (mVar (O A) 1) (mVar (O A) 5))) (mCons (O A) (mBin (O A) dSub (mC (O A) (.int 0)) (mBin (O A) dPow (mC (O A) (.int 10)) (mC (O A) (.int 30)))) (mNil (O A)))))) (mCall (O A) 2 (m_law_take A) (mCons (O A) (mVar (O A) 0) (mCons (O A) (mC (O A) (.int 3)) (mNil (O A)))))))
  (mNext (O A)))
  (mSeq (O A) (mIfS (O A) (mTest (O A) (mBin (O A) dEq (mVar (O A) 4) (mC (O A) (.int 3))))
  (mSetI (O A) 3 (mVar (O A) 5) (mBin (O A) dAdd (mBin (O A) dIdx (mVar (O A) 1) (mVar (O A) 5)) (mBin (O A) dIdx (mCl (O A) dList (mCons (O A) (mC (O A) (.int 0)) (mCons (O A) (mC (O A) (.int 1)) (mCons (O A) (mBin (O A) dPow (mC (O A) (.int 10)) (mC (O A) (.int 30))) (mNil (O A)))))) (mCall (O A) 2 (m_law_take A) (mCons (O A) (mVar (O A) 0) (mCons (O A) (mC (O A) (.int 3)) (mNil (O A))))))))
  (mNext (O A)))
  (mFrz (O A) 3 (mRet (O A) (mVar (O A) 3))))))))))
def m_law_wrong_index (A : Ad) : List D → Dr → R Dr D := runF (O A) 6 (mb_law_wrong_index A)
def mb_law_refused (A : Ad) : MS (O A) :=
  (mSeq (O A) (mAsg (O A) (mC (O A) .non) (fName 2))
  (mSeq (O A) (mTryAs (O A) (A.t .IndexRangeError) 3
  (mDrop (O A) (mMeth (O A) A.v "cell" 2 (m_View_cell A) (mVar (O A) 0) (mCons (O A) (mVar (O A) 1) (mNil (O A)))))
  (mAsg (O A) (mCl (O A) dList (mCons (O A) (mXf (O A) 3 (A.c .IndexRangeError) "index") (mCons (O A) (mIsX (O A) 3 A.tL) (mNil (O A))))) (fName 2)))
  (mRet (O A) (mVar (O A) 2))))
def m_law_refused (A : Ad) : List D → Dr → R Dr D := runF (O A) 4 (mb_law_refused A)
def bd_law_0 (A : Ad) : MS (O A) :=
  (mIfS (O A) (mOr (O A) (mNot (O A) (mTruth (O A) (mCall (O A) 2 (m_law_same A) (mCons (O A) (mMeth (O A) A.v "cell" 2 (m_View_cell A) (mVar (O A) 3) (mCons (O A) (mVar (O A) 7) (mNil (O A)))) (mCons (O A) (mVar (O A) 8) (mNil (O A))))))) (mNot (O A) (mTruth (O A) (mCall (O A) 2 (m_law_same A) (mCons (O A) (mMeth (O A) A.v "cell" 2 (m_View_cell A) (mVar (O A) 3) (mCons (O A) (mCl (O A) dListOf (mCons (O A) (mVar (O A) 7) (mNil (O A)))) (mNil (O A)))) (mCons (O A) (mVar (O A) 8) (mNil (O A))))))))
  (mRet (O A) (mC (O A) (.bl false)))
  (mNext (O A)))
def bd_law_1 (A : Ad) : MS (O A) :=
  (mSeq (O A) (mAsg (O A) (mCall (O A) 3 (m_law_wrong_index A) (mCons (O A) (mVar (O A) 1) (mCons (O A) (mBin (O A) dIdx (mVar (O A) 2) (mC (O A) (.int 1))) (mCons (O A) (mVar (O A) 5) (mNil (O A)))))) (fName 7))
  (mIfS (O A) (mNot (O A) (mTruth (O A) (mCall (O A) 2 (m_law_same A) (mCons (O A) (mCall (O A) 2 (m_law_refused A) (mCons (O A) (mVar (O A) 3) (mCons (O A) (mVar (O A) 7) (mNil (O A))))) (mCons (O A) (mCl (O A) dList (mCons (O A) (mCl (O A) dTupOf (mCons (O A) (mVar (O A) 7) (mNil (O A)))) (mCons (O A) (mC (O A) (.bl true)) (mNil (O A))))) (mNil (O A)))))))
  (mRet (O A) (mC (O A) (.bl false)))
  (mNext (O A))))
def mb_law (A : Ad) : MS (O A) :=
  (mSeq (O A) (mAsg (O A) (mCall (O A) 3 (m_law_parts A) (mCons (O A) (mVar (O A) 1) (mCons (O A) (mC (O A) (.int 64)) (mCons (O A) (mC (O A) (.int 64)) (mNil (O A)))))) (fName 2))
  (mSeq (O A) (mAsg (O A) (mMake (O A) A.v 3 (m_View_init A) (mCons (O A) (mBin (O A) dIdx (mVar (O A) 2) (mC (O A) (.int 0))) (mCons (O A) (mBin (O A) dIdx (mVar (O A) 2) (mC (O A) (.int 1))) (mCons (O A) (mBin (O A) dIdx (mVar (O A) 2) (mC (O A) (.int 2))) (mNil (O A)))))) (fName 3))
  (mSeq (O A) (mPar (O A) 4 5 (mCons (O A) (mCall (O A) 1 (m_law_cells A) (mCons (O A) (mVar (O A) 2) (mNil (O A)))) (mCons (O A) (mCall (O A) 1 (m_law_indices A) (mCons (O A) (mBin (O A) dIdx (mVar (O A) 2) (mC (O A) (.int 1))) (mNil (O A)))) (mNil (O A)))))
  (mSeq (O A) (mOwn (O A) 6 (mMethN (O A) A.v "cells" 1 (m_View_cellsN A) (mVar (O A) 3) (mNil (O A))))
  (mSeq (O A) (mIfS (O A) (mLendQ (O A) 6 (mOr (O A) (mNot (O A) (mTruth (O A) (mCall (O A) 2 (m_law_same A) (mCons (O A) (mVar (O A) 6) (mCons (O A) (mVar (O A) 4) (mNil (O A))))))) (mNot (O A) (mTruth (O A) (mCall (O A) 2 (m_law_same A) (mCons (O A) (mMeth (O A) A.v "size" 1 (m_View_size A) (mVar (O A) 3) (mNil (O A))) (mCons (O A) (mCl (O A) dLen (mCons (O A) (mVar (O A) 4) (mNil (O A)))) (mNil (O A)))))))))
  (mRet (O A) (mC (O A) (.bl false)))
  (mNext (O A)))
  (mSeq (O A) (mAppend (O A) 6 (mUn (O A) dNeg (mC (O A) (.int 1))))
  (mSeq (O A) (mIfS (O A) (mOr (O A) (mNot (O A) (mTruth (O A) (mCall (O A) 2 (m_law_same A) (mCons (O A) (mMeth (O A) A.v "lowest" 1 (m_View_lowest A) (mVar (O A) 3) (mNil (O A))) (mCons (O A) (mCl (O A) dMinL (mCons (O A) (mVar (O A) 4) (mNil (O A)))) (mNil (O A))))))) (mNot (O A) (mTruth (O A) (mCall (O A) 2 (m_law_same A) (mCons (O A) (mMeth (O A) A.v "highest" 1 (m_View_highest A) (mVar (O A) 3) (mNil (O A))) (mCons (O A) (mCl (O A) dMaxL (mCons (O A) (mVar (O A) 4) (mNil (O A)))) (mNil (O A))))))))
  (mRet (O A) (mC (O A) (.bl false)))
  (mNext (O A)))
  (mSeq (O A) (mFor (O A) (mItA (O A) dZip (mCons (O A) (mVar (O A) 5) (mCons (O A) (mVar (O A) 4) (mNil (O A))))) (fTup 2 (fCons (fName 7) (fCons (fName 8) fNil)))
  (bd_law_0 A))
  (mSeq (O A) (mFor (O A) (mRng1 (O A) (mCons (O A) (mC (O A) (.int 8)) (mNil (O A)))) (fName 9)
  (bd_law_1 A))
  (mRet (O A) (mAndV (O A) (mCall (O A) 2 (m_law_same A) (mCons (O A) (mMeth (O A) A.v "cells" 1 (m_View_cells A) (mVar (O A) 3) (mNil (O A))) (mCons (O A) (mVar (O A) 4) (mNil (O A))))) (mCall (O A) 2 (m_law_same A) (mCons (O A) (mMeth (O A) A.v "parts" 1 (m_View_parts A) (mVar (O A) 3) (mNil (O A))) (mCons (O A) (mVar (O A) 2) (mNil (O A))))))))))))))))
/-! ### what the top has left -/
structure Txt (P : Program) (w : World) (K : PySem.W.Frag) (mg : Str → Option Value) (base : Heap) (A : Ca) : Prop where
  f_law_draws : ∃ f fd, Fun K "_law_draws" "_law_draws" s_law_draws f fd ∧ mg "_law_draws" = some (.ref f)
  f_law_mixed : ∃ f fd, Fun K "_law_mixed" "_law_mixed" s_law_mixed f fd ∧ mg "_law_mixed" = some (.ref f)
  f_law_take : ∃ f fd, Fun K "_law_take" "_law_take" s_law_take f fd ∧ mg "_law_take" = some (.ref f)
  f_law_parts : ∃ f fd, Fun K "_law_parts" "_law_parts" s_law_parts f fd ∧ mg "_law_parts" = some (.ref f)
  f_product_of : ∃ f fd, Fun K "product_of" "product_of" s_product_of f fd ∧ mg "product_of" = some (.ref f)
  f_ends_of : ∃ f fd, Fun K "ends_of" "ends_of" s_ends_of f fd ∧ mg "ends_of" = some (.ref f)
  f_view_reason : ∃ f fd, Fun K "view_reason" "view_reason" s_view_reason f fd ∧ mg "view_reason" = some (.ref f)
  f_law_indices : ∃ f fd, Fun K "_law_indices" "_law_indices" s_law_indices f fd ∧ mg "_law_indices" = some (.ref f)
  f_law_cells : ∃ f fd, Fun K "_law_cells" "_law_cells" s_law_cells f fd ∧ mg "_law_cells" = some (.ref f)
  f_cells_of : ∃ f fd, Fun K "cells_of" "cells_of" s_cells_of f fd ∧ mg "cells_of" = some (.ref f)
  f_law_same : ∃ f fd, Fun K "_law_same" "_law_same" s_law_same f fd ∧ mg "_law_same" = some (.ref f)
  f_law_wrong_index : ∃ f fd, Fun K "_law_wrong_index" "_law_wrong_index" s_law_wrong_index f fd ∧ mg "_law_wrong_index" = some (.ref f)
  f_law_refused : ∃ f fd, Fun K "_law_refused" "_law_refused" s_law_refused f fd ∧ mg "_law_refused" = some (.ref f)
  f_law : ∃ f fd, Fun K "law" "law" s_law f fd ∧ mg "law" = some (.ref f)
  b_abs : mg "abs" = none
  b_all : mg "all" = none
  b_any : mg "any" = none
  b_bool : mg "bool" = none
  b_int : mg "int" = none
  b_isinstance : mg "isinstance" = none
  b_len : mg "len" = none
  b_list : mg "list" = none
  b_max : mg "max" = none
  b_min : mg "min" = none
  b_range : mg "range" = none
  b_sum : mg "sum" = none
  b_tuple : mg "tuple" = none
  b_zip : mg "zip" = none
  e_ViewError : ErT P w K mg base "ViewError" (A.c .ViewError) ["reason"]
  e_IndexRangeError : ErT P w K mg base "IndexRangeError" (A.c .IndexRangeError) ["index"]
  x_IndexRangeError : ∀ c b, (A.t .IndexRangeError) c = some b → PySem.W.exmOne K (.ref c) (.ref (A.c .IndexRangeError)) = some b
  es : A.es = [.ViewError, .IndexRangeError]
  inj : A.Inj
  gc_LateCopyError : mg "LateCopyError" = some (.ref A.L)
  is_LateCopyError : ∀ c b, A.tL c = some b → IsC K c ∧ PySem.W.kitOne K (.ref c) (.ref A.L) = some b
  g_AXES : ∃ v, GC K mg "AXES" v k_AXES
  g_ELEMENTS : ∃ v, GC K mg "ELEMENTS" v k_ELEMENTS
  g_LAST_CELL : ∃ v, GC K mg "LAST_CELL" v k_LAST_CELL
  c_View : ClT K mg "View" A.v ["offset", "shape", "strides"]
  m_View_init : ∃ f fd, Fun K "__init__" "View.__init__" s_View_init f fd ∧ Meth K A.v "__init__" f
  m_View_cells : ∃ f fd, Fun K "cells" "View.cells" s_View_cells f fd ∧ Meth K A.v "cells" f
  m_View_size : ∃ f fd, Fun K "size" "View.size" s_View_size f fd ∧ Meth K A.v "size" f
  m_View_lowest : ∃ f fd, Fun K "lowest" "View.lowest" s_View_lowest f fd ∧ Meth K A.v "lowest" f
  m_View_highest : ∃ f fd, Fun K "highest" "View.highest" s_View_highest f fd ∧ Meth K A.v "highest" f
  m_View_cell : ∃ f fd, Fun K "cell" "View.cell" s_View_cell f fd ∧ Meth K A.v "cell" f
  m_View_parts : ∃ f fd, Fun K "parts" "View.parts" s_View_parts f fd ∧ Meth K A.v "parts" f
section
variable {P : Program} {w : World} {K : PySem.W.Frag} {mg : Str → Option Value} {base : Heap} {A : Ad}
/-! law_mixed -/
theorem fo_law_mixed (T : Txt P w K mg base A.toCa) : Fo P w K mg base (O A) 1 "_law_mixed" 2 (m_law_mixed A) := by
  obtain ⟨f, fd, F, hg⟩ := T.f_law_mixed
  refine fo_mk (N := ["_law_seed", "_law_k", "_law_first"]) F sc_law_mixed hg (F.binds (ps := ["_law_seed", "_law_k"]) fun _ _ _ _ _ _ us hl => match us, hl with | [_, _], _ => rfl) (fun cdv Ar outer s H E hr c => ?_)
  exact ⟨_, ((db_cons (ds_set 2 c.nd (de_mod (de_pow (de_add (de_add (de_mod (de_var 0 c.cn) (de_int c.cn)) (de_mul (de_int c.cn) (de_var 1 c.cn))) (de_int c.cn)) (de_int c.cn)) (de_int c.cn)))
  (db_one (ds_ret (de_mod (de_pow (de_add (de_add (de_mul (de_var 2 c.cn) (de_int c.cn)) (de_mul (de_mul (de_int c.cn) (de_var 1 c.cn)) (de_var 1 c.cn))) (de_int c.cn)) (de_int c.cn)) (de_int c.cn))))))⟩
/-! law_take -/
theorem fo_law_take (T : Txt P w K mg base A.toCa) : Fo P w K mg base (O A) 2 "_law_take" 2 (m_law_take A) := by
  have F_law_mixed := fo_law_mixed (A := A) T
  obtain ⟨f, fd, F, hg⟩ := T.f_law_take
  refine fo_mk (N := ["_law_draws_here", "_law_size", "_law_found", "_law_seed", "_law_reach"]) F sc_law_take hg (F.binds (ps := ["_law_draws_here", "_law_size"]) fun _ _ _ _ _ _ us hl => match us, hl with | [_, _], _ => rfl) (fun cdv Ar outer s H E hr c => ?_)
  exact ⟨_, (db_cons (ds_drSet 0 (de_add (de_drI 0 c.cn) (de_int c.cn)))
  (db_cons (ds_if (DW.dt (dw_and (dt_eq hr (de_drI 0 c.cn) (de_int c.cn)) (dw_and1 (dt_drNe 0 c.cn hr)))) (db_one (ds_drPop 0 c.cn)) db_nil)
  (db_cons (ds_if (dt_gt (de_drI 0 c.cn) (de_int c.cn))
    (db_cons (ds_set 2 c.nd (de_mod (de_drI 0 c.cn) (de_var 1 c.cn)))
    (db_cons (ds_drSet 0 (de_div (de_drI 0 c.cn) (de_var 1 c.cn))) (db_one (ds_ret (de_var 2 c.cn))))) db_nil)
  (db_cons (ds_set 3 c.nd (de_int c.cn))
  (db_cons (ds_if (dt_drNe 0 c.cn hr) (db_one (ds_set 3 c.nd (de_drIx 0 (de_mod (de_drI 0 c.cn) (de_drLen 0 c.cn T.b_len)) take_hw))) db_nil)
  (db_cons (ds_set 2 c.nd (de_int c.cn))
  (db_cons (ds_set 4 c.nd (de_int c.cn))
  (db_cons (ds_while (fun _ _ => 100) c (dt_lt (de_var 4 c.cn) (de_var 1 c.cn))
    (db_cons (ds_set 2 c.nd (de_add (de_mul (de_var 2 c.cn) (de_int c.cn)) (de_call F_law_mixed hr (by decide) (da_cons (de_var 3 c.cn) (da_cons (de_add (de_drI 0 c.cn) (de_mul (de_int c.cn) (de_mod (de_var 2 c.cn) (de_int c.cn)))) (da_nil c.cn))))))
    (db_one (ds_set 4 c.nd (de_mul (de_var 4 c.cn) (de_int c.cn))))))
  (db_one (ds_ret (de_mod (de_var 2 c.cn) (de_var 1 c.cn))))))))))))⟩
/-! law_parts -/
theorem fo_law_parts (T : Txt P w K mg base A.toCa) : Fo P w K mg base (O A) 3 "_law_parts" 3 (m_law_parts A) := by
  have F_law_take := fo_law_take (A := A) T
  obtain ⟨f, fd, F, hg⟩ := T.f_law_parts
  refine fo_mk (N := ["_law_draws_here", "_law_cells_here", "_law_most", "_law_shape", "_law_strides", "_law_room", "_law_left", "_law_below", "_law_k", "_law_length", "_law_reach", "_law_stride"]) F sc_law_parts hg (F.binds (ps := ["_law_draws_here", "_law_cells_here", "_law_most"]) fun _ _ _ _ _ _ us hl => match us, hl with | [_, _, _], _ => rfl) (fun cdv Ar outer s H E hr c => ?_)
  exact ⟨_, ((db_cons (ds_own 3 c.nd (dn_list (da_nil c.cn)))
  (db_cons (ds_own 4 c.nd (dn_list (da_nil c.cn)))
  (db_cons (ds_set 5 c.nd (de_var 2 c.cn))
  (db_cons (ds_set 6 c.nd (de_sub (de_var 1 c.cn) (de_int c.cn)))
  (db_cons (ds_set 7 c.nd (de_int c.cn))
  (db_cons (ds_for c (di_range1 T.b_range (da_cons (de_call F_law_take hr (by decide) (da_cons (de_var 0 c.cn) (da_cons (de_int c.cn) (da_nil c.cn)))) (da_nil c.cn))) (dg_name 8 c.nd)
  (db_cons (ds_set 9 c.nd (de_add (de_int c.cn) (de_call F_law_take hr (by decide) (da_cons (de_var 0 c.cn) (da_cons (de_callB (f := dMin2) (call_min2 c.hc) vcl_i2 T.b_min (by decide +kernel) (da_cons (de_var 5 c.cn) (da_cons (de_idx (de_list (da_cons (de_int c.cn) (da_cons (de_int c.cn) (da_cons (de_int c.cn) (da_cons (de_int c.cn) (da_nil c.cn)))))) (de_call F_law_take hr (by decide) (da_cons (de_var 0 c.cn) (da_cons (de_int c.cn) (da_nil c.cn))))) (da_nil c.cn)))) (da_nil c.cn))))))
  (db_cons (ds_set 10 c.nd (de_int c.cn))
  (db_cons (ds_if (dt_gt (de_var 9 c.cn) (de_int c.cn))
  (db_one (ds_set 10 c.nd (de_div (de_var 6 c.cn) (de_sub (de_var 9 c.cn) (de_int c.cn)))))
  db_nil)
  (db_cons (ds_set 11 c.nd (de_sub (de_call F_law_take hr (by decide) (da_cons (de_var 0 c.cn) (da_cons (de_add (de_mul (de_int c.cn) (de_var 10 c.cn)) (de_int c.cn)) (da_nil c.cn)))) (de_var 10 c.cn)))
  (db_cons (ds_set 5 c.nd (de_div (de_var 5 c.cn) (de_var 9 c.cn)))
  (db_cons (ds_set 6 c.nd (de_sub (de_var 6 c.cn) (de_mul (de_callB (f := dAbs) (call_abs) vcl_abs T.b_abs (by decide +kernel) (da_cons (de_var 11 c.cn) (da_nil c.cn))) (de_sub (de_var 9 c.cn) (de_int c.cn)))))
  (db_cons (ds_if (dt_lt (de_var 11 c.cn) (de_int c.cn))
  (db_one (ds_set 7 c.nd (de_sub (de_var 7 c.cn) (de_mul (de_var 11 c.cn) (de_sub (de_var 9 c.cn) (de_int c.cn))))))
  db_nil)
  (db_cons (ds_append 3 (de_var 9 c.cn))
  (db_one (ds_append 4 (de_var 11 c.cn))))))))))))
  (db_frz 4 (db_frz 3 (db_one (ds_ret (de_tup (da_cons (de_add (de_var 7 c.cn) (de_call F_law_take hr (by decide) (da_cons (de_var 0 c.cn) (da_cons (de_add (de_var 6 c.cn) (de_int c.cn)) (da_nil c.cn))))) (da_cons (de_callT (f := dTupOf) (call_tupG c.cn.hK) vcl_tupOf T.b_tuple (by decide +kernel) (da_cons (de_var 3 c.cn) (da_nil c.cn))) (da_cons (de_callT (f := dTupOf) (call_tupG c.cn.hK) vcl_tupOf T.b_tuple (by decide +kernel) (da_cons (de_var 4 c.cn) (da_nil c.cn))) (da_nil c.cn))))))))))))))))⟩
/-! product_of -/
theorem fo_product_of (T : Txt P w K mg base A.toCa) : Fo P w K mg base (O A) 1 "product_of" 1 (m_product_of A) := by
  obtain ⟨f, fd, F, hg⟩ := T.f_product_of
  refine fo_mk (N := ["numbers", "product", "number"]) F sc_product_of hg (F.binds (ps := ["numbers"]) fun _ _ _ _ _ _ us hl => match us, hl with | [_], _ => rfl) (fun cdv Ar outer s H E hr c => ?_)
  exact ⟨_, ((db_cons (ds_set 1 c.nd (de_int c.cn))
  (db_cons (ds_for c (di_seq (de_var 0 c.cn)) (dg_name 2 c.nd)
  (db_one (ds_aug 1 (f := dMul) c.nd iop_mulG vop_mul (de_var 2 c.cn))))
  (db_one (ds_ret (de_var 1 c.cn))))))⟩
/-! ends_of -/
theorem fo_ends_of (T : Txt P w K mg base A.toCa) : Fo P w K mg base (O A) 1 "ends_of" 3 (m_ends_of A) := by
  obtain ⟨f, fd, F, hg⟩ := T.f_ends_of
  refine fo_mk (N := ["offset", "shape", "strides", "reaches", "lowest", "highest", "length", "stride", "reach"]) F sc_ends_of hg (F.binds (ps := ["offset", "shape", "strides"]) fun _ _ _ _ _ _ us hl => match us, hl with | [_, _, _], _ => rfl) (fun cdv Ar outer s H E hr c => ?_)
  exact ⟨_, ((db_cons (ds_setLc 3 c.nd (dlc (own := [("length", 6), ("stride", 7)]) c (di_zip T.b_zip (da_cons (de_var 1 c.cn) (da_cons (de_var 2 c.cn) (da_nil c.cn)))) (blkOk_by (N := ["offset", "shape", "strides", "reaches", "lowest", "highest", "length", "stride", "reach"]) (sc := defScope s_ends_of) (by decide +kernel)) (fun _ _ _ _ _ => (dg_tup (n := 2) c.cn.hK c.hc (dgs_cons (dg_name 6 c.nd) (dgs_cons (dg_name 7 c.nd) dgs_nil)))) (fun _ _ _ _ _ cn => dts_nil) (fun _ _ _ _ _ cn => (de_mul (de_sub (de_var 6 cn) (de_int cn)) (de_var 7 cn)))))
  (db_cons (ds_set 4 c.nd (de_add (de_var 0 c.cn) (de_callB (f := dSum) (call_sumG c.cn.hK c.hc) vcl_sum T.b_sum (by decide +kernel) (da_cons (dlc (own := [("reach", 8)]) c (di_seq (de_var 3 c.cn)) (blkOk_by (N := ["offset", "shape", "strides", "reaches", "lowest", "highest", "length", "stride", "reach"]) (sc := defScope s_ends_of) (by decide +kernel)) (fun _ _ _ _ _ => (dg_name 8 c.nd)) (fun _ _ _ _ _ cn => (dts_one (dt_lt (de_var 8 cn) (de_int cn)))) (fun _ _ _ _ _ cn => (de_var 8 cn))).dn.de (da_nil c.cn)))))
  (db_cons (ds_set 5 c.nd (de_add (de_var 0 c.cn) (de_callB (f := dSum) (call_sumG c.cn.hK c.hc) vcl_sum T.b_sum (by decide +kernel) (da_cons (dlc (own := [("reach", 8)]) c (di_seq (de_var 3 c.cn)) (blkOk_by (N := ["offset", "shape", "strides", "reaches", "lowest", "highest", "length", "stride", "reach"]) (sc := defScope s_ends_of) (by decide +kernel)) (fun _ _ _ _ _ => (dg_name 8 c.nd)) (fun _ _ _ _ _ cn => (dts_one (dt_gt (de_var 8 cn) (de_int cn)))) (fun _ _ _ _ _ cn => (de_var 8 cn))).dn.de (da_nil c.cn)))))
  (db_one (ds_ret (de_tup (da_cons (de_var 4 c.cn) (da_cons (de_var 5 c.cn) (da_nil c.cn))))))))))⟩
/-! view_reason -/
theorem fo_view_reason (T : Txt P w K mg base A.toCa) : Fo P w K mg base (O A) 2 "view_reason" 3 (m_view_reason A) := by
  have F_ends_of := fo_ends_of (A := A) T
  have F_product_of := fo_product_of (A := A) T
  obtain ⟨f, fd, F, hg⟩ := T.f_view_reason
  refine fo_mk (N := ["offset", "shape", "strides", "lowest", "highest", "length"]) F sc_view_reason hg (F.binds (ps := ["offset", "shape", "strides"]) fun _ _ _ _ _ _ us hl => match us, hl with | [_, _, _], _ => rfl) (fun cdv Ar outer s H E hr c => ?_)
  exact ⟨_, ((db_cons (ds_if (DW.dt (dw_or (dt_ne hr (de_callB (f := dLen) (call_lenG c.cn.hK) vcl_len T.b_len (by decide +kernel) (da_cons (de_var 1 c.cn) (da_nil c.cn))) (de_callB (f := dLen) (call_lenG c.cn.hK) vcl_len T.b_len (by decide +kernel) (da_cons (de_var 2 c.cn) (da_nil c.cn)))) (dw_or1 (dt_gt (de_callB (f := dLen) (call_lenG c.cn.hK) vcl_len T.b_len (by decide +kernel) (da_cons (de_var 1 c.cn) (da_nil c.cn))) (T.g_AXES.choose_spec.de c.cn)))))
  (db_one (ds_ret (de_str c.cn)))
  db_nil)
  (db_cons (ds_if (dt_truth (de_callB (f := dAny) (call_anyG c.cn.hK c.hc) vcl_any T.b_any (by decide +kernel) (da_cons (dlc (own := [("length", 5)]) c (di_seq (de_var 1 c.cn)) (blkOk_by (N := ["offset", "shape", "strides", "lowest", "highest", "length"]) (sc := defScope s_view_reason) (by decide +kernel)) (fun _ _ _ _ _ => (dg_name 5 c.nd)) (fun _ _ _ _ _ cn => dts_nil) (fun _ _ _ _ _ cn => (de_lt (de_var 5 cn) (de_int cn)))).dn.de (da_nil c.cn))))
  (db_one (ds_ret (de_str c.cn)))
  db_nil)
  (db_cons (ds_if (dt_gt (de_call F_product_of hr (by decide) (da_cons (de_var 1 c.cn) (da_nil c.cn))) (T.g_ELEMENTS.choose_spec.de c.cn))
  (db_one (ds_ret (de_str c.cn)))
  db_nil)
  (db_cons (ds_asg (de_call F_ends_of hr (by decide) (da_cons (de_var 0 c.cn) (da_cons (de_var 1 c.cn) (da_cons (de_var 2 c.cn) (da_nil c.cn))))) (dg_tup (n := 2) c.cn.hK c.hc (dgs_cons (dg_name 3 c.nd) (dgs_cons (dg_name 4 c.nd) dgs_nil))))
  (db_cons (ds_if (DW.dt (dw_or (dt_lt (de_var 3 c.cn) (de_int c.cn)) (dw_or1 (dt_gt (de_var 4 c.cn) (T.g_LAST_CELL.choose_spec.de c.cn)))))
  (db_one (ds_ret (de_str c.cn)))
  db_nil)
  (db_one (ds_ret (de_non c.cn)))))))))⟩
/-! View_init -/
theorem fo_View_init (T : Txt P w K mg base A.toCa) : FoI P w K mg base (O A) A.v 3 3 (m_View_init A) := by
  obtain ⟨f, fd, F, hM⟩ := T.m_View_init
  refine foI_mk (N := ["self", "offset", "shape", "strides", "reason", "length", "stride"]) (ps := ["offset", "shape", "strides"]) F sc_View_init rfl ⟨T.c_View.mks, hM.at_, hM.fn, T.c_View.kp⟩ (F.binds (ps := ["self", "offset", "shape", "strides"]) fun _ _ _ _ _ _ us hl => match us, hl with | [_, _, _, _], _ => rfl) (fun xx cdv Ar outer s H E hr c => ?_)
  have F_view_reason := (fo_view_reason (A := A) T).self xx
  exact ⟨_, _, ((db_cons (ds_set 4 c.nd (de_call F_view_reason hr (by decide) (da_cons (de_var 1 c.cn) (da_cons (de_var 2 c.cn) (da_cons (de_var 3 c.cn) (da_nil c.cn))))))
  (db_cons (ds_if (dt_notIs (de_var 4 c.cn) (de_non c.cn))
  (db_one (ds_raise c T.e_ViewError hr (by decide) (da_cons (de_var 4 c.cn) (da_nil c.cn))))
  db_nil)
  (db_cons (ds_setF 0 T.c_View (by simp) (de_var 1 c.cn))
  (db_cons (ds_setF 0 T.c_View (by simp) (de_callT (f := dTupOf) (call_tupG c.cn.hK) vcl_tupOf T.b_tuple (by decide +kernel) (da_cons (de_var 2 c.cn) (da_nil c.cn))))
  (db_one (ds_setF 0 T.c_View (by simp) (de_callT (f := dTupOf) (call_tupG c.cn.hK) vcl_tupOf T.b_tuple (by decide +kernel) (da_cons (dlc (own := [("length", 5), ("stride", 6)]) c (di_zip T.b_zip (da_cons (de_var 2 c.cn) (da_cons (de_var 3 c.cn) (da_nil c.cn)))) (blkOk_by (N := ["self", "offset", "shape", "strides", "reason", "length", "stride"]) (sc := defScope s_View_init) (by decide +kernel)) (fun _ _ _ _ _ => (dg_tup (n := 2) c.cn.hK c.hc (dgs_cons (dg_name 5 c.nd) (dgs_cons (dg_name 6 c.nd) dgs_nil)))) (fun _ _ _ _ _ cn => dts_nil) (fun _ _ _ _ _ cn => (de_if (dt_gt (de_var 5 cn) (de_int cn)) (de_var 6 cn) (de_int cn)))).dn.de (da_nil c.cn)))))))))), rfl⟩
/-! law_indices -/
theorem fo_law_indices (T : Txt P w K mg base A.toCa) : Fo P w K mg base (O A) 1 "_law_indices" 1 (m_law_indices A) := by
  obtain ⟨f, fd, F, hg⟩ := T.f_law_indices
  refine fo_mk (N := ["_law_shape", "_law_found", "_law_length", "_law_longer", "_law_index", "_law_k"]) F sc_law_indices hg (F.binds (ps := ["_law_shape"]) fun _ _ _ _ _ _ us hl => match us, hl with | [_], _ => rfl) (fun cdv Ar outer s H E hr c => ?_)
  exact ⟨_, ((db_cons (ds_set 1 c.nd (de_list (da_cons (de_tup (da_nil c.cn)) (da_nil c.cn))))
  (db_cons (ds_for c (di_seq (de_var 0 c.cn)) (dg_name 2 c.nd)
  (db_cons (ds_own 3 c.nd (dn_list (da_nil c.cn)))
  (db_cons (ds_for c (di_seq (de_var 1 c.cn)) (dg_name 4 c.nd)
  (db_one (ds_extend 3 (dlc (own := [("_law_k", 5)]) c (di_range1 T.b_range (da_cons (de_var 2 c.cn) (da_nil c.cn))) (blkOk_by (N := ["_law_shape", "_law_found", "_law_length", "_law_longer", "_law_index", "_law_k"]) (sc := defScope s_law_indices) (by decide +kernel)) (fun _ _ _ _ _ => (dg_name 5 c.nd)) (fun _ _ _ _ _ cn => dts_nil) (fun _ _ _ _ _ cn => (de_add (de_var 4 cn) (de_tup (da_cons (de_var 5 cn) (da_nil cn)))))).dn)))
  (db_frz 3 (db_one (ds_set 1 c.nd (de_var 3 c.cn)))))))
  (db_one (ds_ret (de_var 1 c.cn))))))⟩
/-! law_cells -/
theorem fo_law_cells (T : Txt P w K mg base A.toCa) : Fo P w K mg base (O A) 1 "_law_cells" 1 (m_law_cells A) := by
  obtain ⟨f, fd, F, hg⟩ := T.f_law_cells
  refine fo_mk (N := ["_law_parts_here", "_law_offset", "_law_shape", "_law_strides", "_law_cells_here", "_law_length", "_law_stride", "_law_longer", "_law_cell", "_law_k"]) F sc_law_cells hg (F.binds (ps := ["_law_parts_here"]) fun _ _ _ _ _ _ us hl => match us, hl with | [_], _ => rfl) (fun cdv Ar outer s H E hr c => ?_)
  exact ⟨_, ((db_cons (ds_asg (de_var 0 c.cn) (dg_tup (n := 3) c.cn.hK c.hc (dgs_cons (dg_name 1 c.nd) (dgs_cons (dg_name 2 c.nd) (dgs_cons (dg_name 3 c.nd) dgs_nil)))))
  (db_cons (ds_set 4 c.nd (de_list (da_cons (de_var 1 c.cn) (da_nil c.cn))))
  (db_cons (ds_for c (di_zip T.b_zip (da_cons (de_var 2 c.cn) (da_cons (de_var 3 c.cn) (da_nil c.cn)))) (dg_tup (n := 2) c.cn.hK c.hc (dgs_cons (dg_name 5 c.nd) (dgs_cons (dg_name 6 c.nd) dgs_nil)))
  (db_cons (ds_own 7 c.nd (dn_list (da_nil c.cn)))
  (db_cons (ds_for c (di_seq (de_var 4 c.cn)) (dg_name 8 c.nd)
  (db_one (ds_extend 7 (dlc (own := [("_law_k", 9)]) c (di_range1 T.b_range (da_cons (de_var 5 c.cn) (da_nil c.cn))) (blkOk_by (N := ["_law_parts_here", "_law_offset", "_law_shape", "_law_strides", "_law_cells_here", "_law_length", "_law_stride", "_law_longer", "_law_cell", "_law_k"]) (sc := defScope s_law_cells) (by decide +kernel)) (fun _ _ _ _ _ => (dg_name 9 c.nd)) (fun _ _ _ _ _ cn => dts_nil) (fun _ _ _ _ _ cn => (de_add (de_var 8 cn) (de_mul (de_var 9 cn) (de_var 6 cn))))).dn)))
  (db_frz 7 (db_one (ds_set 4 c.nd (de_var 7 c.cn)))))))
  (db_one (ds_ret (de_var 4 c.cn)))))))⟩
/-! cells_ofN -/
theorem fo_cells_ofN (T : Txt P w K mg base A.toCa) : FoN P w K mg base (O A) 1 "cells_of" 3 (m_cells_ofN A) := by
  obtain ⟨f, fd, F, hg⟩ := T.f_cells_of
  exact ⟨f, fd, _, fnN_mk (N := ["offset", "shape", "strides", "cells", "length", "stride", "cell", "position"]) F sc_cells_of (fun cdv Ar outer s H E hr c => ⟨_, ((db_cons (ds_own 3 c.nd (dn_list (da_cons (de_var 0 c.cn) (da_nil c.cn))))
  (db_cons (ds_for c (di_zip T.b_zip (da_cons (de_var 1 c.cn) (da_cons (de_var 2 c.cn) (da_nil c.cn)))) (dg_tup (n := 2) c.cn.hK c.hc (dgs_cons (dg_name 4 c.nd) (dgs_cons (dg_name 5 c.nd) dgs_nil)))
  (db_frz 3 (db_one (ds_ownLc2 3 (dlc2 (own := [("cell", 6), ("position", 7)]) (vs1 := [7]) c (di_seq (de_var 3 c.cn)) (blkOk_by (N := ["offset", "shape", "strides", "cells", "length", "stride", "cell", "position"]) (sc := defScope s_cells_of) (by decide +kernel)) (fun _ _ _ _ _ => (dg_name 6 c.nd)) (fun _ _ _ _ _ cn => dts_nil) (fun _ _ _ _ _ cn => (di_range1 T.b_range (da_cons (de_var 4 cn) (da_nil cn)))) (fun _ _ _ _ _ => (dg_name 7 c.nd)) (fun _ _ _ _ _ cn => dts_nil) (fun _ _ _ _ _ cn => (de_add (de_var 6 cn) (de_mul (de_var 7 cn) (de_var 5 cn)))))))))
  (db_one (ds_retO 3)))))⟩), hg, F.kp, F.binds (ps := ["offset", "shape", "strides"]) fun _ _ _ _ _ _ us hl => match us, hl with | [_, _, _], _ => rfl⟩
/-! View_cellsN -/
theorem fo_View_cellsN (T : Txt P w K mg base A.toCa) : FoMN P w K mg base (O A) A.v 2 "cells" 1 (m_View_cellsN A) := by
  have F_cells_ofN := fo_cells_ofN (A := A) T
  obtain ⟨f, fd, F, hM⟩ := T.m_View_cells
  exact ⟨f, fd, _, fnN_mk (N := ["self"]) F sc_View_cells (fun cdv Ar outer s H E hr c => ⟨_, ((db_one (ds_retNew (dn_call F_cells_ofN hr (by decide) (da_cons (de_fld T.c_View (by simp) (de_var 0 c.cn)) (da_cons (de_fld T.c_View (by simp) (de_var 0 c.cn)) (da_cons (de_fld T.c_View (by simp) (de_var 0 c.cn)) (da_nil c.cn))))))))⟩), hM, F.binds (ps := ["self"]) fun _ _ _ _ _ _ us hl => match us, hl with | [_], _ => rfl⟩
/-! law_same -/
theorem foN_law_same (T : Txt P w K mg base A.toCa) : ∀ n, Fo P w K mg base (O A) (1 + n) "_law_same" 2 (mN_law_same A n)
  | 0 => by
    obtain ⟨f, fd, F, hg⟩ := T.f_law_same
    exact Fo.never hg F.kp (F.binds (ps := ["_law_found", "_law_due"]) fun _ _ _ _ _ _ us hl => match us, hl with | [_, _], _ => rfl) rfl
  | n + 1 => by
    have F_rec := foN_law_same T n
    obtain ⟨f, fd, F, hg⟩ := T.f_law_same
    refine fo_mk (N := ["_law_found", "_law_due", "_law_one", "_law_two"]) F sc_law_same hg (F.binds (ps := ["_law_found", "_law_due"]) fun _ _ _ _ _ _ us hl => match us, hl with | [_, _], _ => rfl) (fun cdv Ar outer s H E hr c => ?_)
    exact ⟨_, ((db_cons (ds_if (dt_truth (de_isT T.b_isinstance (de_var 1 c.cn) (da_cons (de_bltn (v := .ty "list") c.cn T.b_list (by decide +kernel) rfl (fun _ => .ty "list")) (da_cons (de_bltn (v := .ty "tuple") c.cn T.b_tuple (by decide +kernel) rfl (fun _ => .ty "tuple")) (da_nil c.cn)))))
  (db_cons (ds_if (DW.dt (dw_or (dt_ne hr (de_callB (f := dIsI) (call_isiG c.cn.hK) vcl_isI T.b_isinstance (by decide +kernel) (da_cons (de_var 0 c.cn) (da_cons (de_bltn (v := .ty "list") c.cn T.b_list (by decide +kernel) rfl (fun _ => .ty "list")) (da_nil c.cn)))) (de_callB (f := dIsI) (call_isiG c.cn.hK) vcl_isI T.b_isinstance (by decide +kernel) (da_cons (de_var 1 c.cn) (da_cons (de_bltn (v := .ty "list") c.cn T.b_list (by decide +kernel) rfl (fun _ => .ty "list")) (da_nil c.cn))))) (dw_or1 (dt_ne hr (de_callB (f := dIsI) (call_isiG c.cn.hK) vcl_isI T.b_isinstance (by decide +kernel) (da_cons (de_var 0 c.cn) (da_cons (de_bltn (v := .ty "tuple") c.cn T.b_tuple (by decide +kernel) rfl (fun _ => .ty "tuple")) (da_nil c.cn)))) (de_callB (f := dIsI) (call_isiG c.cn.hK) vcl_isI T.b_isinstance (by decide +kernel) (da_cons (de_var 1 c.cn) (da_cons (de_bltn (v := .ty "tuple") c.cn T.b_tuple (by decide +kernel) rfl (fun _ => .ty "tuple")) (da_nil c.cn))))))))
  (db_one (ds_ret (de_bl c.cn)))
  db_nil)
  (db_one (ds_ret (de_and (de_eq hr (de_callB (f := dLen) (call_lenG c.cn.hK) vcl_len T.b_len (by decide +kernel) (da_cons (de_var 0 c.cn) (da_nil c.cn))) (de_callB (f := dLen) (call_lenG c.cn.hK) vcl_len T.b_len (by decide +kernel) (da_cons (de_var 1 c.cn) (da_nil c.cn)))) (de_one (de_callB (f := dAll) (call_allG c.cn.hK c.hc) vcl_all T.b_all (by decide +kernel) (da_cons (dlc (own := [("_law_one", 2), ("_law_two", 3)]) c (di_zip T.b_zip (da_cons (de_var 0 c.cn) (da_cons (de_var 1 c.cn) (da_nil c.cn)))) (blkOk_by (N := ["_law_found", "_law_due", "_law_one", "_law_two"]) (sc := defScope s_law_same) (by decide +kernel)) (fun _ _ _ _ _ => (dg_tup (n := 2) c.cn.hK c.hc (dgs_cons (dg_name 2 c.nd) (dgs_cons (dg_name 3 c.nd) dgs_nil)))) (fun _ _ _ _ _ cn => dts_nil) (fun _ _ _ _ _ cn => (de_call F_rec hr (Nat.le_refl _) (da_cons (de_var 2 cn) (da_cons (de_var 3 cn) (da_nil cn)))))).dn.de (da_nil c.cn))))))))
  db_nil)
  (db_cons (ds_if (dt_truth (de_isT T.b_isinstance (de_var 1 c.cn) (da_cons (de_bltn (v := .ty "bool") c.cn T.b_bool (by decide +kernel) rfl (fun _ => .ty "bool")) (da_cons (de_bltn (v := .ty "int") c.cn T.b_int (by decide +kernel) rfl (fun _ => .ty "int")) (da_nil c.cn)))))
  (db_one (ds_ret (de_and (de_callB (f := dIsI) (call_isiG c.cn.hK) vcl_isI T.b_isinstance (by decide +kernel) (da_cons (de_var 0 c.cn) (da_cons (de_bltn (v := .ty "int") c.cn T.b_int (by decide +kernel) rfl (fun _ => .ty "int")) (da_nil c.cn)))) (de_and (de_eq hr (de_callB (f := dIsI) (call_isiG c.cn.hK) vcl_isI T.b_isinstance (by decide +kernel) (da_cons (de_var 0 c.cn) (da_cons (de_bltn (v := .ty "bool") c.cn T.b_bool (by decide +kernel) rfl (fun _ => .ty "bool")) (da_nil c.cn)))) (de_callB (f := dIsI) (call_isiG c.cn.hK) vcl_isI T.b_isinstance (by decide +kernel) (da_cons (de_var 1 c.cn) (da_cons (de_bltn (v := .ty "bool") c.cn T.b_bool (by decide +kernel) rfl (fun _ => .ty "bool")) (da_nil c.cn))))) (de_one (de_eq hr (de_var 0 c.cn) (de_var 1 c.cn)))))))
  db_nil)
  (db_one (ds_ret (de_and (de_is (de_callB (f := dIsI) (call_isiG c.cn.hK) vcl_isI T.b_isinstance (by decide +kernel) (da_cons (de_var 0 c.cn) (da_cons (de_bltn (v := .ty "bool") c.cn T.b_bool (by decide +kernel) rfl (fun _ => .ty "bool")) (da_nil c.cn)))) (de_bl c.cn)) (de_one (de_eq hr (de_var 0 c.cn) (de_var 1 c.cn)))))))))⟩
theorem fo_law_same (T : Txt P w K mg base A.toCa) : Fo P w K mg base (O A) 5 "_law_same" 2 (m_law_same A) := foN_law_same T 4
/-! View_size -/
theorem fo_View_size (T : Txt P w K mg base A.toCa) : FoM P w K mg base (O A) A.v 2 "size" 1 (m_View_size A) := by
  have F_product_of := fo_product_of (A := A) T
  obtain ⟨f, fd, F, hM⟩ := T.m_View_size
  exact ⟨f, fd, _, fn_mk (N := ["self"]) F sc_View_size (fun cdv Ar outer s H E hr c => ⟨_, ((db_one (ds_ret (de_call F_product_of hr (by decide) (da_cons (de_fld T.c_View (by simp) (de_var 0 c.cn)) (da_nil c.cn))))))⟩), hM, F.binds (ps := ["self"]) fun _ _ _ _ _ _ us hl => match us, hl with | [_], _ => rfl⟩
/-! View_lowest -/
theorem fo_View_lowest (T : Txt P w K mg base A.toCa) : FoM P w K mg base (O A) A.v 2 "lowest" 1 (m_View_lowest A) := by
  have F_ends_of := fo_ends_of (A := A) T
  obtain ⟨f, fd, F, hM⟩ := T.m_View_lowest
  exact ⟨f, fd, _, fn_mk (N := ["self"]) F sc_View_lowest (fun cdv Ar outer s H E hr c => ⟨_, ((db_one (ds_ret (de_idx (de_call F_ends_of hr (by decide) (da_cons (de_fld T.c_View (by simp) (de_var 0 c.cn)) (da_cons (de_fld T.c_View (by simp) (de_var 0 c.cn)) (da_cons (de_fld T.c_View (by simp) (de_var 0 c.cn)) (da_nil c.cn))))) (de_int c.cn)))))⟩), hM, F.binds (ps := ["self"]) fun _ _ _ _ _ _ us hl => match us, hl with | [_], _ => rfl⟩
/-! View_highest -/
theorem fo_View_highest (T : Txt P w K mg base A.toCa) : FoM P w K mg base (O A) A.v 2 "highest" 1 (m_View_highest A) := by
  have F_ends_of := fo_ends_of (A := A) T
  obtain ⟨f, fd, F, hM⟩ := T.m_View_highest
  exact ⟨f, fd, _, fn_mk (N := ["self"]) F sc_View_highest (fun cdv Ar outer s H E hr c => ⟨_, ((db_one (ds_ret (de_idx (de_call F_ends_of hr (by decide) (da_cons (de_fld T.c_View (by simp) (de_var 0 c.cn)) (da_cons (de_fld T.c_View (by simp) (de_var 0 c.cn)) (da_cons (de_fld T.c_View (by simp) (de_var 0 c.cn)) (da_nil c.cn))))) (de_int c.cn)))))⟩), hM, F.binds (ps := ["self"]) fun _ _ _ _ _ _ us hl => match us, hl with | [_], _ => rfl⟩
/-! View_cell -/
theorem fo_View_cell (T : Txt P w K mg base A.toCa) : FoM P w K mg base (O A) A.v 3 "cell" 2 (m_View_cell A) := by
  obtain ⟨f, fd, F, hM⟩ := T.m_View_cell
  exact ⟨f, fd, _, fn_mk (N := ["self", "index", "cell", "position", "length", "stride"]) F sc_View_cell (fun cdv Ar outer s H E hr c => ⟨_, ((db_cons (ds_if (dt_ne hr (de_callB (f := dLen) (call_lenG c.cn.hK) vcl_len T.b_len (by decide +kernel) (da_cons (de_var 1 c.cn) (da_nil c.cn))) (de_callB (f := dLen) (call_lenG c.cn.hK) vcl_len T.b_len (by decide +kernel) (da_cons (de_fld T.c_View (by simp) (de_var 0 c.cn)) (da_nil c.cn))))
  (db_one (ds_raise c T.e_IndexRangeError hr (by decide) (da_cons (de_callT (f := dTupOf) (call_tupG c.cn.hK) vcl_tupOf T.b_tuple (by decide +kernel) (da_cons (de_var 1 c.cn) (da_nil c.cn))) (da_nil c.cn))))
  db_nil)
  (db_cons (ds_set 2 c.nd (de_fld T.c_View (by simp) (de_var 0 c.cn)))
  (db_cons (ds_for c (di_zip3 T.b_zip (da_cons (de_var 1 c.cn) (da_cons (de_fld T.c_View (by simp) (de_var 0 c.cn)) (da_cons (de_fld T.c_View (by simp) (de_var 0 c.cn)) (da_nil c.cn))))) (dg_tup (n := 3) c.cn.hK c.hc (dgs_cons (dg_name 3 c.nd) (dgs_cons (dg_name 4 c.nd) (dgs_cons (dg_name 5 c.nd) dgs_nil))))
  (db_cons (ds_if (dt_not (dt_chain (f := dLe) (g := dLt) op_le op_lt vop_intB vop_intB (de_int c.cn) (de_var 3 c.cn) (de_var 4 c.cn)))
  (db_one (ds_raise c T.e_IndexRangeError hr (by decide) (da_cons (de_callT (f := dTupOf) (call_tupG c.cn.hK) vcl_tupOf T.b_tuple (by decide +kernel) (da_cons (de_var 1 c.cn) (da_nil c.cn))) (da_nil c.cn))))
  db_nil)
  (db_one (ds_aug 2 (f := (dInt2 fun i j => some (.int (i + j)))) c.nd iop_add vop_int0 (de_mul (de_var 3 c.cn) (de_var 5 c.cn))))))
  (db_one (ds_ret (de_var 2 c.cn)))))))⟩), hM, F.binds (ps := ["self", "index"]) fun _ _ _ _ _ _ us hl => match us, hl with | [_, _], _ => rfl⟩
/-! law_wrong_index -/
theorem fo_law_wrong_index (T : Txt P w K mg base A.toCa) : Fo P w K mg base (O A) 3 "_law_wrong_index" 3 (m_law_wrong_index A) := by
  have F_law_take := fo_law_take (A := A) T
  obtain ⟨f, fd, F, hg⟩ := T.f_law_wrong_index
  refine fo_mk (N := ["_law_draws_here", "_law_shape", "_law_indices_here", "_law_index", "_law_way", "_law_at"]) F sc_law_wrong_index hg (F.binds (ps := ["_law_draws_here", "_law_shape", "_law_indices_here"]) fun _ _ _ _ _ _ us hl => match us, hl with | [_, _, _], _ => rfl) (fun cdv Ar outer s H E hr c => ?_)
  exact ⟨_, ((db_cons (ds_own 3 c.nd (dn_listOf T.b_list (da_cons (de_idx (de_var 2 c.cn) (de_call F_law_take hr (by decide) (da_cons (de_var 0 c.cn) (da_cons (de_callB (f := dLen) (call_lenG c.cn.hK) vcl_len T.b_len (by decide +kernel) (da_cons (de_var 2 c.cn) (da_nil c.cn))) (da_nil c.cn))))) (da_nil c.cn))))
  (db_cons (ds_set 4 c.nd (de_call F_law_take hr (by decide) (da_cons (de_var 0 c.cn) (da_cons (de_int c.cn) (da_nil c.cn)))))
  (db_cons (ds_if (DW.dt (dw_or (dt_eq hr (de_var 4 c.cn) (de_int c.cn)) (dw_or1 (dt_eq hr (de_lenO 3 c.cn T.b_len) (de_int c.cn)))))
  (db_cons (ds_ownM 3 own_ins PySem.F.slot_list_insert PySem.F.type_list_insert mt_ins (da_cons (de_call F_law_take hr (by decide) (da_cons (de_var 0 c.cn) (da_cons (de_add (de_lenO 3 c.cn T.b_len) (de_int c.cn)) (da_nil c.cn)))) (da_cons (de_call F_law_take hr (by decide) (da_cons (de_var 0 c.cn) (da_cons (de_int c.cn) (da_nil c.cn)))) (da_nil c.cn))))
  (db_frz 3 (db_one (ds_ret (de_var 3 c.cn)))))
  db_nil)
  (db_cons (ds_set 5 c.nd (de_call F_law_take hr (by decide) (da_cons (de_var 0 c.cn) (da_cons (de_lenO 3 c.cn T.b_len) (da_nil c.cn)))))
  (db_cons (ds_if (dt_eq hr (de_var 4 c.cn) (de_int c.cn))
  (db_one (ds_ownM 3 own_pop PySem.F.slot_list_pop PySem.F.type_list_pop mt_popA (da_cons (de_var 5 c.cn) (da_nil c.cn))))
  db_nil)
  (db_cons (ds_if (dt_eq hr (de_var 4 c.cn) (de_int c.cn))
  (db_one (ds_setI 3 (de_idx (de_list (da_cons (de_neg (de_int c.cn)) (da_cons (de_sub (de_int c.cn) (de_idx (de_var 1 c.cn) (de_var 5 c.cn))) (da_cons (de_sub (de_int c.cn) (de_pow (de_int c.cn) (de_int c.cn))) (da_nil c.cn))))) (de_call F_law_take hr (by decide) (da_cons (de_var 0 c.cn) (da_cons (de_int c.cn) (da_nil c.cn))))) (de_var 5 c.cn)))
  db_nil)
  (db_cons (ds_if (dt_eq hr (de_var 4 c.cn) (de_int c.cn))
  (db_one (ds_setI 3 (de_add (de_idx (de_var 1 c.cn) (de_var 5 c.cn)) (de_idx (de_list (da_cons (de_int c.cn) (da_cons (de_int c.cn) (da_cons (de_pow (de_int c.cn) (de_int c.cn)) (da_nil c.cn))))) (de_call F_law_take hr (by decide) (da_cons (de_var 0 c.cn) (da_cons (de_int c.cn) (da_nil c.cn)))))) (de_var 5 c.cn)))
  db_nil)
  (db_frz 3 (db_one (ds_ret (de_var 3 c.cn))))))))))))⟩
/-! law_refused -/
theorem fo_law_refused (T : Txt P w K mg base A.toCa) : Fo P w K mg base (O A) 4 "_law_refused" 2 (m_law_refused A) := by
  have F_View_cell := fo_View_cell (A := A) T
  obtain ⟨f, fd, F, hg⟩ := T.f_law_refused
  refine fo_mk (N := ["_law_view", "_law_index", "_law_found", "e"]) F sc_law_refused hg (F.binds (ps := ["_law_view", "_law_index"]) fun _ _ _ _ _ _ us hl => match us, hl with | [_, _], _ => rfl) (fun cdv Ar outer s H E hr c => ?_)
  exact ⟨_, ((db_cons (ds_set 2 c.nd (de_non c.cn))
  (db_cons (by exact ds_tryE 3 c (T.x_IndexRangeError) (by exact ⟨rfl, by decide, .inl T.e_IndexRangeError.gC⟩) (by exact ⟨_, fun _ _ _ c => (db_one (ds_expr (de_meth F_View_cell T.c_View hr (by decide) (de_var 0 c.cn) (da_cons (de_var 1 c.cn) (da_nil c.cn)))))⟩) (by exact ⟨_, _, fun _ _ _ _ _ hz hf cn => (db_one (ds_set 2 (by exact c.nd) (de_list (da_cons (de_xf 3 cn T.e_IndexRangeError.xf (by exact T.e_IndexRangeError.no _ (by decide)) hz hf) (da_cons (de_isX 3 (t := A.tL) cn List.mem_cons_self hz hf T.b_isinstance (de_glob (O := O A) (v := .ref A.L) (d := .ref A.L) cn T.gc_LateCopyError rfl (fun _ => .ref _)).pe (fun _ h => h) T.is_LateCopyError) (da_nil cn)))))), fun _ _ _ => rfl⟩))
  (db_one (ds_ret (de_var 2 c.cn))))))⟩
/-! cells_of -/
theorem fo_cells_of (T : Txt P w K mg base A.toCa) : Fo P w K mg base (O A) 1 "cells_of" 3 (m_cells_of A) := by
  obtain ⟨f, fd, F, hg⟩ := T.f_cells_of
  refine fo_mk (N := ["offset", "shape", "strides", "cells", "length", "stride", "cell", "position"]) F sc_cells_of hg (F.binds (ps := ["offset", "shape", "strides"]) fun _ _ _ _ _ _ us hl => match us, hl with | [_, _, _], _ => rfl) (fun cdv Ar outer s H E hr c => ?_)
  exact ⟨_, ((db_cons (ds_set 3 c.nd (de_list (da_cons (de_var 0 c.cn) (da_nil c.cn))))
  (db_cons (ds_for c (di_zip T.b_zip (da_cons (de_var 1 c.cn) (da_cons (de_var 2 c.cn) (da_nil c.cn)))) (dg_tup (n := 2) c.cn.hK c.hc (dgs_cons (dg_name 4 c.nd) (dgs_cons (dg_name 5 c.nd) dgs_nil)))
  (db_one (ds_setLc2 3 c.nd (dlc2 (own := [("cell", 6), ("position", 7)]) (vs1 := [7]) c (di_seq (de_var 3 c.cn)) (blkOk_by (N := ["offset", "shape", "strides", "cells", "length", "stride", "cell", "position"]) (sc := defScope s_cells_of) (by decide +kernel)) (fun _ _ _ _ _ => (dg_name 6 c.nd)) (fun _ _ _ _ _ cn => dts_nil) (fun _ _ _ _ _ cn => (di_range1 T.b_range (da_cons (de_var 4 cn) (da_nil cn)))) (fun _ _ _ _ _ => (dg_name 7 c.nd)) (fun _ _ _ _ _ cn => dts_nil) (fun _ _ _ _ _ cn => (de_add (de_var 6 cn) (de_mul (de_var 7 cn) (de_var 5 cn))))))))
  (db_one (ds_ret (de_var 3 c.cn))))))⟩
/-! View_cells -/
theorem fo_View_cells (T : Txt P w K mg base A.toCa) : FoM P w K mg base (O A) A.v 2 "cells" 1 (m_View_cells A) := by
  have F_cells_of := fo_cells_of (A := A) T
  obtain ⟨f, fd, F, hM⟩ := T.m_View_cells
  exact ⟨f, fd, _, fn_mk (N := ["self"]) F sc_View_cells (fun cdv Ar outer s H E hr c => ⟨_, ((db_one (ds_ret (de_call F_cells_of hr (by decide) (da_cons (de_fld T.c_View (by simp) (de_var 0 c.cn)) (da_cons (de_fld T.c_View (by simp) (de_var 0 c.cn)) (da_cons (de_fld T.c_View (by simp) (de_var 0 c.cn)) (da_nil c.cn))))))))⟩), hM, F.binds (ps := ["self"]) fun _ _ _ _ _ _ us hl => match us, hl with | [_], _ => rfl⟩
/-! View_parts -/
theorem fo_View_parts (T : Txt P w K mg base A.toCa) : FoM P w K mg base (O A) A.v 1 "parts" 1 (m_View_parts A) := by
  obtain ⟨f, fd, F, hM⟩ := T.m_View_parts
  exact ⟨f, fd, _, fn_mk (N := ["self"]) F sc_View_parts (fun cdv Ar outer s H E hr c => ⟨_, ((db_one (ds_ret (de_tup (da_cons (de_fld T.c_View (by simp) (de_var 0 c.cn)) (da_cons (de_fld T.c_View (by simp) (de_var 0 c.cn)) (da_cons (de_fld T.c_View (by simp) (de_var 0 c.cn)) (da_nil c.cn))))))))⟩), hM, F.binds (ps := ["self"]) fun _ _ _ _ _ _ us hl => match us, hl with | [_], _ => rfl⟩
/-! the law itself -/
def eD (i : Nat) : Expr := match defBody s_law_draws with
  | [.Return (some (.List es _)) _] => es.getD i (.Constant .none 0 ⟨0, 0, 0, 0⟩)
  | _ => .Constant .none 0 ⟨0, 0, 0, 0⟩
theorem ok_draws {f : Addr} {fd : FuncData} (F : Fun K "_law_draws" "_law_draws" s_law_draws f fd) : FnOk P w K mg base (L2.CX P w) 1 f fd ["_law_script"] (spDraws K) := by
  refine F.okX sc_law_draws (fun vs H Q E h => by obtain ⟨l, ns, rfl, _⟩ := h; rfl) (fun cdv Ar outer s H vs Q E hr h => ?_)
  obtain ⟨l, ns, rfl, hS, hl, q⟩ := h
  have tk : Takes (cxOf (L2.CX P w) P w K mg base ["_law_script", "_law_cell"] "_law_draws" (defScope s_law_draws) f cdv Ar outer s H E) (fun cls d _ H => E cls d H) := takes_of rfl rfl rfl rfl
  have c : Cs K (fun cls d _ H => E cls d H) (cxOf (L2.CX P w) P w K mg base ["_law_script", "_law_cell"] "_law_draws" (defScope s_law_draws) f cdv Ar outer s H E) := ⟨⟨rfl, tk⟩, passes_of rfl, rfl, sc_law_draws.nd⟩
  have d1 : ∃ t, DN K W0 (fun cls d _ H => E cls d H) (cxOf (L2.CX P w) P w K mg base ["_law_script", "_law_cell"] "_law_draws" (defScope s_law_draws) f cdv Ar outer s H E) (eD 0) t (mLc W0 (mItS W0 (mVar W0 0)) (fName 1) (mTest W0 (mBin W0 dGe (mVar W0 1) (mBin W0 dPow (mC W0 (.int 10)) (mC W0 (.int 18))))) (mVar W0 1) [1]) := ⟨_, (dlc (K := K) (O := W0) (own := [("_law_cell", 1)]) c (di_seq (de_var 0 c.cn)) (blkOk_by (N := ["_law_script", "_law_cell"]) (sc := defScope s_law_draws) (by decide +kernel)) (fun _ _ _ _ _ => (dg_name 1 c.nd)) (fun _ _ _ _ _ cn => (dts_one (dt_ge (de_var 1 cn) (de_pow (de_int cn) (de_int cn))))) (fun _ _ _ _ _ cn => (de_var 1 cn))).dn⟩
  obtain ⟨t1, d1⟩ := d1
  have d2 : ∃ t, DN K W0 (fun cls d _ H => E cls d H) (cxOf (L2.CX P w) P w K mg base ["_law_script", "_law_cell"] "_law_draws" (defScope s_law_draws) f cdv Ar outer s H E) (eD 2) t (mLc W0 (mItS W0 (mVar W0 0)) (fName 1) (mTest W0 (mBin W0 dLt (mVar W0 1) (mBin W0 dPow (mC W0 (.int 10)) (mC W0 (.int 18))))) (mVar W0 1) [1]) := ⟨_, (dlc (K := K) (O := W0) (own := [("_law_cell", 1)]) c (di_seq (de_var 0 c.cn)) (blkOk_by (N := ["_law_script", "_law_cell"]) (sc := defScope s_law_draws) (by decide +kernel)) (fun _ _ _ _ _ => (dg_name 1 c.nd)) (fun _ _ _ _ _ cn => (dts_one (dt_lt (de_var 1 cn) (de_pow (de_int cn) (de_int cn))))) (fun _ _ _ _ _ cn => (de_var 1 cn))).dn⟩
  obtain ⟨t2, d2⟩ := d2
  refine ⟨_, pss_one (ps_ret (pe_lst (pa_cons d1.pe (pa_cons pe_int (pa_cons d2.pe (pa_cons pe_int pa_nil)))))), ?_⟩
  exact draws_read (E := E) rfl d1.sn d2.sn rfl hS (draws_m1 hl) (draws_m2 hl) q
theorem ok_law {C : Ca} {f : Addr} {fd : FuncData} (T : Txt P w K mg base C) (F : Fun K "law" "law" s_law f fd)
    (hm : ∀ (A : Ad) (ns : List Int), A.es = [.ViewError, .IndexRangeError] → A.toCa.Inj → ns.length ≤ 63 → ∃ s, mb_law A (.sh (.lst (ns.map D.int)) :: .sh (.ref A.d) :: List.replicate 8 .no) ⟨ns.filter (fun n => decide (10 ^ 18 ≤ n)), 0, ns.filter (fun n => decide (n < 10 ^ 18)), 0⟩ = .rt (.bl true) s) :
    FnOk P w K mg base (L2.CX P w) 6 f fd ["_law_script"] (spLaw K) := by
  obtain ⟨fD, fdD, FD, gD⟩ := T.f_law_draws
  have GD : FnOk P w K mg base (L2.CX P w) 1 fD fdD ["_law_script"] (spDraws K) := ok_draws FD
  have bD := FD.binds (ps := ["_law_script"]) fun _ _ _ _ _ _ us hl => match us, hl with | [_], _ => rfl
  refine F.okX (N := ["_law_script", "_law_draws_here", "_law_parts_here", "_law_view", "_law_cells_here", "_law_indices_here", "_law_told", "_law_index", "_law_cell", "_law_turn"]) sc_law (fun vs H Q E h => by obtain ⟨l, ns, rfl, _⟩ := h; rfl) (fun cdv Ar outer s H vs Q E hr h => ?_)
  obtain ⟨l, ns, rfl, hS, hl, q⟩ := h
  have tk : Takes (cxOf (L2.CX P w) P w K mg base ["_law_script", "_law_draws_here", "_law_parts_here", "_law_view", "_law_cells_here", "_law_indices_here", "_law_told", "_law_index", "_law_cell", "_law_turn"] "law" (defScope s_law) f cdv Ar outer s H E) (fun cls d _ H => E cls d H) := takes_of rfl rfl rfl rfl
  have c : Cs K (fun cls d _ H => E cls d H) (cxOf (L2.CX P w) P w K mg base ["_law_script", "_law_draws_here", "_law_parts_here", "_law_view", "_law_cells_here", "_law_indices_here", "_law_told", "_law_index", "_law_cell", "_law_turn"] "law" (defScope s_law) f cdv Ar outer s H E) := ⟨⟨rfl, tk⟩, passes_of rfl, rfl, sc_law.nd⟩
  have D : ∀ o : Addr × Addr × Addr, ∃ t, DB K (O ⟨C, o.1, o.2.1, o.2.2⟩) (fun cls d _ H => E cls d H) (cxOf (L2.CX P w) P w K mg base ["_law_script", "_law_draws_here", "_law_parts_here", "_law_view", "_law_cells_here", "_law_indices_here", "_law_told", "_law_index", "_law_cell", "_law_turn"] "law" (defScope s_law) f cdv Ar outer s H E) (defBody s_law).tail t (mb_law ⟨C, o.1, o.2.1, o.2.2⟩) := by
    intro o
    let A : Ad := ⟨C, o.1, o.2.1, o.2.2⟩
    have F_View_init := fo_View_init (A := A) T
    have F_View_cell := fo_View_cell (A := A) T
    have F_View_cells := fo_View_cells (A := A) T
    have F_View_cellsN := fo_View_cellsN (A := A) T
    have F_View_highest := fo_View_highest (A := A) T
    have F_View_lowest := fo_View_lowest (A := A) T
    have F_View_parts := fo_View_parts (A := A) T
    have F_View_size := fo_View_size (A := A) T
    have F_law_cells := fo_law_cells (A := A) T
    have F_law_indices := fo_law_indices (A := A) T
    have F_law_parts := fo_law_parts (A := A) T
    have F_law_refused := fo_law_refused (A := A) T
    have F_law_same := fo_law_same (A := A) T
    have F_law_wrong_index := fo_law_wrong_index (A := A) T
    exact ⟨_, (db_cons (ds_set 2 c.nd (de_call F_law_parts hr (by decide) (da_cons (de_var 1 c.cn) (da_cons (de_int c.cn) (da_cons (de_int c.cn) (da_nil c.cn))))))
  (db_cons (ds_set 3 c.nd (de_make F_View_init T.c_View hr (by decide) (da_cons (de_idx (de_var 2 c.cn) (de_int c.cn)) (da_cons (de_idx (de_var 2 c.cn) (de_int c.cn)) (da_cons (de_idx (de_var 2 c.cn) (de_int c.cn)) (da_nil c.cn))))))
  (db_cons (ds_par 4 5 c (da_cons (de_call F_law_cells hr (by decide) (da_cons (de_var 2 c.cn) (da_nil c.cn))) (da_cons (de_call F_law_indices hr (by decide) (da_cons (de_idx (de_var 2 c.cn) (de_int c.cn)) (da_nil c.cn))) (da_nil c.cn))))
  (db_cons (ds_own 6 c.nd (dn_meth0 F_View_cellsN T.c_View hr (by decide) (de_var 3 c.cn)))
  (db_cons (ds_if (dt_lendG 6 (DW.dt (dw_or (dt_not (dt_truth (de_call F_law_same hr (by decide) (da_cons (de_var 6 c.cn) (da_cons (de_var 4 c.cn) (da_nil c.cn)))))) (dw_or1 (dt_not (dt_truth (de_call F_law_same hr (by decide) (da_cons (de_meth0 F_View_size T.c_View hr (by decide) (de_var 3 c.cn)) (da_cons (de_callB (f := dLen) (call_lenG c.cn.hK) vcl_len T.b_len (by decide +kernel) (da_cons (de_var 4 c.cn) (da_nil c.cn))) (da_nil c.cn))))))))))
  (db_one (ds_ret (de_bl c.cn)))
  db_nil)
  (db_cons (ds_append 6 (de_neg (de_int c.cn)))
  (db_cons (ds_if (DW.dt (dw_or (dt_not (dt_truth (de_call F_law_same hr (by decide) (da_cons (de_meth0 F_View_lowest T.c_View hr (by decide) (de_var 3 c.cn)) (da_cons (de_callB (f := dMinL) (call_minG c.cn.hK c.hc) vcl_minL T.b_min (by decide +kernel) (da_cons (de_var 4 c.cn) (da_nil c.cn))) (da_nil c.cn)))))) (dw_or1 (dt_not (dt_truth (de_call F_law_same hr (by decide) (da_cons (de_meth0 F_View_highest T.c_View hr (by decide) (de_var 3 c.cn)) (da_cons (de_callB (f := dMaxL) (call_maxG c.cn.hK c.hc) vcl_maxL T.b_max (by decide +kernel) (da_cons (de_var 4 c.cn) (da_nil c.cn))) (da_nil c.cn)))))))))
  (db_one (ds_ret (de_bl c.cn)))
  db_nil)
  (db_cons (ds_for c (di_zip T.b_zip (da_cons (de_var 5 c.cn) (da_cons (de_var 4 c.cn) (da_nil c.cn)))) (dg_tup (n := 2) c.cn.hK c.hc (dgs_cons (dg_name 7 c.nd) (dgs_cons (dg_name 8 c.nd) dgs_nil)))
  (db_one (ds_if (DW.dt (dw_or (dt_not (dt_truth (de_call F_law_same hr (by decide) (da_cons (de_meth F_View_cell T.c_View hr (by decide) (de_var 3 c.cn) (da_cons (de_var 7 c.cn) (da_nil c.cn))) (da_cons (de_var 8 c.cn) (da_nil c.cn)))))) (dw_or1 (dt_not (dt_truth (de_call F_law_same hr (by decide) (da_cons (de_meth F_View_cell T.c_View hr (by decide) (de_var 3 c.cn) (da_cons (de_callT (f := dListOf) (call_listG c.cn.hK) vcl_listOf T.b_list (by decide +kernel) (da_cons (de_var 7 c.cn) (da_nil c.cn))) (da_nil c.cn))) (da_cons (de_var 8 c.cn) (da_nil c.cn)))))))))
  (db_one (ds_ret (de_bl c.cn)))
  db_nil)))
  (db_cons (ds_for c (di_range1 T.b_range (da_cons (de_int c.cn) (da_nil c.cn))) (dg_name 9 c.nd)
  (db_cons (ds_set 7 c.nd (de_call F_law_wrong_index hr (by decide) (da_cons (de_var 1 c.cn) (da_cons (de_idx (de_var 2 c.cn) (de_int c.cn)) (da_cons (de_var 5 c.cn) (da_nil c.cn))))))
  (db_one (ds_if (dt_not (dt_truth (de_call F_law_same hr (by decide) (da_cons (de_call F_law_refused hr (by decide) (da_cons (de_var 3 c.cn) (da_cons (de_var 7 c.cn) (da_nil c.cn)))) (da_cons (de_list (da_cons (de_callT (f := dTupOf) (call_tupG c.cn.hK) vcl_tupOf T.b_tuple (by decide +kernel) (da_cons (de_var 7 c.cn) (da_nil c.cn))) (da_cons (de_bl c.cn) (da_nil c.cn)))) (da_nil c.cn))))))
  (db_one (ds_ret (de_bl c.cn)))
  db_nil))))
  (db_one (ds_ret (de_and (de_call F_law_same hr (by decide) (da_cons (de_meth0 F_View_cells T.c_View hr (by decide) (de_var 3 c.cn)) (da_cons (de_var 4 c.cn) (da_nil c.cn)))) (de_one (de_call F_law_same hr (by decide) (da_cons (de_meth0 F_View_parts T.c_View hr (by decide) (de_var 3 c.cn)) (da_cons (de_var 2 c.cn) (da_nil c.cn)))))))))))))))))⟩
  refine ⟨_, pss_cons (rest := (defBody s_law).tail) (ps_set (i := 1) sc_law.nd rfl (by first | exact Or.inl rfl | exact Or.inr rfl) (pe_callS GD (hr.mono (by decide)) (by rfl) gD FD.kp bD (fun σ => passAt tk σ) (pa_cons (pv 0) pa_nil))) (pss_ex fun o => (D o).choose_spec.pe), ?_⟩
  refine ⟨.ref l, rfl, l, ns, rfl, hS, by omega, fun H1 d a b sm nd na nb ok => ⟨(d, a, b), ?_⟩⟩
  obtain ⟨s1, e⟩ := hm ⟨C, d, a, b⟩ ns T.es T.inj hl
  refine (D (d, a, b)).choose_spec.sn H H1 _ _ H H1 _ _ (law_fm (n := 8) hS sm nd na nb ok rfl rfl rfl) ?_
  rw [e]
  exact fun v G' H' _ _ _ r => by cases r; exact q H'
end
end K03

namespace K03
open PySem PySem.Spec PyProof.Rows L2 RZ Mr S
/-- an index that is none of the view's -/
structure Wrong (ax : Ax) (i : List Int) : Prop where
  no : ¬ InR ax i
  len : i.length ≤ 5
  ent : ∀ x ∈ i, -(10 ^ 40) < x ∧ x < 10 ^ 40
theorem Wrong.fmt {ax : Ax} {i : List Int} (h : Wrong ax i) : fmtD (tD i) = true := by
  simp only [fmtD, tD, toInts_iD, Bool.and_eq_true, decide_eq_true_eq, List.all_eq_true]
  refine ⟨by have := h.len; omega, fun x hx => ?_⟩
  have := h.ent x hx
  exact Nat.lt_trans (lg4 (by omega) (by omega)) (by decide)
theorem ix_ok {n : Nat} {z : Int} (h0 : 0 ≤ z) (h1 : z < n) : ixN n z = some z.toNat := by
  unfold ixN
  rw [if_pos h0, if_pos h1]
theorem sq_ok {n : Nat} {z : Int} (h0 : 0 ≤ z) (h1 : z < n) : seqIndex? z n = some z.toNat := by
  unfold seqIndex?
  have e : (if z < 0 then z + (n : Int) else z) = z := if_neg (by omega)
  simp only [e, h0, h1, decide_true, Bool.and_self, if_true]
theorem erase_map {α β : Type} (f : α → β) : ∀ (xs : List α) (n : Nat), (xs.map f).eraseIdx n = (xs.eraseIdx n).map f
  | [], _ => rfl
  | x :: xs, 0 => rfl
  | x :: xs, n + 1 => by simp only [List.map_cons, List.eraseIdx_cons_succ, erase_map f xs n]
theorem wrong_set {ax : Ax} {j : List Int} {at_ : Nat} {y : Int} {a : Int × Int} (hj : InR ax j) (hl : ax.length ≤ 4) (h64 : ∀ x ∈ j, 0 ≤ x ∧ x < 64) (ha : ax[at_]? = some a) (hy : ¬ (0 ≤ y ∧ y < a.1)) (hb : -(10 ^ 40) < y ∧ y < 10 ^ 40) : Wrong ax (j.set at_ y) := by
  have hlt : at_ < ax.length := (List.getElem?_eq_some_iff.mp ha).1
  refine ⟨fun z => ?_, by rw [List.length_set, hj.1]; omega, fun x hx => ?_⟩
  · exact hy (z.2 at_ y a (by rw [List.getElem?_set_self (by rw [hj.1]; exact hlt)]) ha)
  · rcases List.mem_or_eq_of_mem_set hx with q | q
    · have := h64 x q; omega
    · subst q; exact hb
theorem InR.lt {o : Int} {ax : Ax} {j : List Int} (hv : Vw 64 64 o ax) (hj : InR ax j) : ∀ x ∈ j, 0 ≤ x ∧ x < 64 := by
  intro x hx
  obtain ⟨n, hn⟩ := List.getElem?_of_mem hx
  have hlt : n < ax.length := by rw [← hj.1]; exact (List.getElem?_eq_some_iff.mp hn).1
  have := hj.2 n x ax[n] hn (List.getElem?_eq_getElem hlt)
  have := Vw.ent hv _ (List.getElem_mem hlt)
  omega
theorem wrong_ok (A : Ad) {b o : Int} {ax : Ax} {s : Dr} (hv : Vw 64 64 o ax) (ok : Ok b s) (hb : b + 8 ≤ 1000000) :
    ∃ i s', m_law_wrong_index A [.ref A.d, .tup (iD (shp ax)), .lst ((indsL (shp ax)).map tD)] s = .ok (.lst (iD i)) s' ∧ Wrong ax i ∧ Ok (b + 8) s' := by
  have il := inds_len (shp ax) fun l hl => (hv.shp (by decide) l hl).1
  have hp1 := prod_pos (fun l hl => (hv.shp (by decide) l hl).1)
  have hp2 := hv.prd
  have l4 := hv.len
  have ln : dLen [.lst ((indsL (shp ax)).map tD)] = some (.int (indsL (shp ax)).length) := by simp [dLen]
  obtain ⟨t, s1, e1, t0, t1, k1⟩ := take_ok A (n := ((indsL (shp ax)).length : Int)) ok (by omega) (by omega) (by omega)
  have ht : t.toNat < (indsL (shp ax)).length := by omega
  have gt : atI ((indsL (shp ax)).map tD) t = some (tD (indsL (shp ax))[t.toNat]) := by
    unfold atI
    rw [ix_ok t0 (by simpa using t1)]
    simp [List.getElem?_eq_getElem ht]
  have hj : InR ax (indsL (shp ax))[t.toNat] := by
    have := inds_inR ax [[]] [] (by simp [InR.nil]) _ (List.getElem_mem ht)
    simpa using this
  generalize (indsL (shp ax))[t.toNat] = j at gt hj
  have h64 := InR.lt hv hj
  have jl := hj.1
  have le : (iD j).length = j.length := by simp [iD]
  obtain ⟨w, s2, e2, w0, w1, k2⟩ := take_ok A (n := 4) k1 (by omega) (by decide) (by decide)
  by_cases hc : w = 0 ∨ j.length = 0
  · obtain ⟨u, s3, e3, u0, u1, k3⟩ := take_ok A (n := (j.length : Int) + 1) k2 (by omega) (by omega) (by omega)
    obtain ⟨v, s4, e4, v0, v1, k4⟩ := take_ok A (n := 2) k3 (by omega) (by decide) (by decide)
    have hin : lIns (iD j) [.int u, .int v] = some (.non, iD (j.take u.toNat ++ [v] ++ j.drop u.toNat)) := by
      simp only [lIns]
      rw [if_pos ⟨by omega, by omega, by rw [le]; omega⟩]
      simp [iD]
    refine ⟨j.take u.toNat ++ [v] ++ j.drop u.toNat, s4, ?_, ⟨fun z => ?_, ?_, fun x hx => ?_⟩, k4.mono (by omega)⟩
    · by_cases hw : w = 0
      · simp only [m_law_wrong_index, mb_law_wrong_index, mOwn, mListN, mLenO, mOwnM, fDrop, mFrz, frzE, runF, mSeq, seqS, mAsg, mBin, mUn, mVar, mC, mRet, mNext, mIfS, mTest, mTruth, mAnd, mOr, mNot, mAndV, mOrV, mNotV, mCl, mCons, mNil, mCall, mDrop, mDrI, mDrNe, mDrIx, mDrLen, mDrSet, mDrPop, drL, isDr0, toS, fName, R.lift, bind_ok, bind_err, bind_bad, eAdd, eSub, eMul, eDiv, eMod, ePow, eNeg, eLt, eLe, eGt, eGe, eEqI, eNeI, eEqS, eEqB, eNeB, eIdxL, eIdxT, eBool, eAbs, Bool.false_eq_true, dList, dTup, if_true, if_false, if_pos, List.map_cons, List.map_nil, List.length_cons, List.length_nil, List.replicate, List.cons_append, List.nil_append, List.getElem?_cons_zero, List.getElem?_cons_succ, List.set_cons_zero, List.set_cons_succ, Nat.reduceAdd, Nat.reduceSub, Nat.reduceLeDiff, Nat.reduceLT, Nat.reduceMul, Int.reduceToNat, Int.reduceEq, Int.reduceAdd, Int.reduceSub, Int.reduceNeg, Bool.not_true, Bool.not_false, decide_true, decide_false, reduceIte, Nat.reduceEqDiff, ite_true, ite_false, mIf, mLst, mSlice, mPart, mNoPart, mItS, mItL, mItT, asSeq, asList, asTup, mFor, mPar, mPass, mBrk, mCnt, mRetN, ln, e1, gt, e2, hw, le, e3, e4, hin]
      · have hj0 : ((j.length : Nat) : Int) = 0 := by omega
        rw [hj0, Int.zero_add] at e3
        simp only [m_law_wrong_index, mb_law_wrong_index, mOwn, mListN, mLenO, mOwnM, fDrop, mFrz, frzE, runF, mSeq, seqS, mAsg, mBin, mUn, mVar, mC, mRet, mNext, mIfS, mTest, mTruth, mAnd, mOr, mNot, mAndV, mOrV, mNotV, mCl, mCons, mNil, mCall, mDrop, mDrI, mDrNe, mDrIx, mDrLen, mDrSet, mDrPop, drL, isDr0, toS, fName, R.lift, bind_ok, bind_err, bind_bad, eAdd, eSub, eMul, eDiv, eMod, ePow, eNeg, eLt, eLe, eGt, eGe, eEqI, eNeI, eEqS, eEqB, eNeB, eIdxL, eIdxT, eBool, eAbs, Bool.false_eq_true, dList, dTup, if_true, if_false, if_pos, List.map_cons, List.map_nil, List.length_cons, List.length_nil, List.replicate, List.cons_append, List.nil_append, List.getElem?_cons_zero, List.getElem?_cons_succ, List.set_cons_zero, List.set_cons_succ, Nat.reduceAdd, Nat.reduceSub, Nat.reduceLeDiff, Nat.reduceLT, Nat.reduceMul, Int.reduceToNat, Int.reduceEq, Int.reduceAdd, Int.reduceSub, Int.reduceNeg, Bool.not_true, Bool.not_false, decide_true, decide_false, reduceIte, Nat.reduceEqDiff, ite_true, ite_false, mIf, mLst, mSlice, mPart, mNoPart, mItS, mItL, mItT, asSeq, asList, asTup, mFor, mPar, mPass, mBrk, mCnt, mRetN, ln, e1, gt, e2, hw, le, hj0, e3, e4, hin]
    · have := z.1
      simp only [List.length_append, List.length_take, List.length_drop, List.length_singleton] at this
      omega
    · simp only [List.length_append, List.length_take, List.length_drop, List.length_singleton]
      omega
    · simp only [List.mem_append, List.mem_singleton] at hx
      rcases hx with (hx | hx) | hx
      · have := h64 x (List.mem_of_mem_take hx); omega
      · omega
      · have := h64 x (List.mem_of_mem_drop hx); omega
  · have hw : ¬ w = 0 := fun z => hc (.inl z)
    have hj0 : ¬ ((j.length : Nat) : Int) = 0 := fun z => hc (.inr (by omega))
    obtain ⟨u, s3, e3, u0, u1, k3⟩ := take_ok A (n := (j.length : Int)) k2 (by omega) (by omega) (by omega)
    have hu : u.toNat < ax.length := by omega
    have ga := List.getElem?_eq_getElem hu
    generalize hA : ax[u.toNat] = a at ga
    have am : a ∈ ax := List.mem_of_getElem? ga
    have ae := Vw.ent hv a am
    have is : atI (iD (shp ax)) u = some (.int a.1) := at_map Prod.fst u0 ga
    have ixu : ixN j.length u = some u.toNat := ix_ok u0 (by omega)
    have squ : seqIndex? u (iD j).length = some u.toNat := sq_ok u0 (by rw [le]; omega)
    have e : w = 1 ∨ w = 2 ∨ w = 3 := by omega
    have st : ∀ y : Int, (iD j).set u.toNat (.int y) = iD (j.set u.toNat y) := fun y => by simp [iD, List.map_set]
    have p1 : dPow (.int 10) (.int 30) = some (.int (10 ^ 30)) := rfl
    rcases e with rfl | rfl | rfl
    · have hpop : lPop (iD j) [.int u] = some (.int (j.getD u.toNat 0), iD (j.eraseIdx u.toNat)) := by
        have hj2 : u.toNat < j.length := by omega
        simp only [lPop]
        rw [if_pos ⟨by omega, by omega⟩, squ]
        simp [iD, List.getElem?_eq_getElem hj2, erase_map]
      refine ⟨j.eraseIdx u.toNat, s3, ?_, ⟨fun z => ?_, ?_, fun x hx => ?_⟩, k3.mono (by omega)⟩
      · simp only [m_law_wrong_index, mb_law_wrong_index, mOwn, mListN, mLenO, mOwnM, fDrop, mFrz, frzE, runF, mSeq, seqS, mAsg, mBin, mUn, mVar, mC, mRet, mNext, mIfS, mTest, mTruth, mAnd, mOr, mNot, mAndV, mOrV, mNotV, mCl, mCons, mNil, mCall, mDrop, mDrI, mDrNe, mDrIx, mDrLen, mDrSet, mDrPop, drL, isDr0, toS, fName, R.lift, bind_ok, bind_err, bind_bad, eAdd, eSub, eMul, eDiv, eMod, ePow, eNeg, eLt, eLe, eGt, eGe, eEqI, eNeI, eEqS, eEqB, eNeB, eIdxL, eIdxT, eBool, eAbs, Bool.false_eq_true, dList, dTup, if_true, if_false, if_pos, List.map_cons, List.map_nil, List.length_cons, List.length_nil, List.replicate, List.cons_append, List.nil_append, List.getElem?_cons_zero, List.getElem?_cons_succ, List.set_cons_zero, List.set_cons_succ, Nat.reduceAdd, Nat.reduceSub, Nat.reduceLeDiff, Nat.reduceLT, Nat.reduceMul, Int.reduceToNat, Int.reduceEq, Int.reduceAdd, Int.reduceSub, Int.reduceNeg, Bool.not_true, Bool.not_false, decide_true, decide_false, reduceIte, Nat.reduceEqDiff, ite_true, ite_false, mIf, mLst, mSlice, mPart, mNoPart, mItS, mItL, mItT, asSeq, asList, asTup, mFor, mPar, mPass, mBrk, mCnt, mRetN, ln, e1, gt, e2, le, hj0, e3, hpop]
      · have := z.1
        rw [List.length_eraseIdx_of_lt (by omega)] at this
        omega
      · rw [List.length_eraseIdx_of_lt (by omega)]; omega
      · have := h64 x (List.mem_of_mem_eraseIdx hx); omega
    · obtain ⟨v, s4, e4, v0, v1, k4⟩ := take_ok A (n := 3) k3 (by omega) (by decide) (by decide)
      obtain ⟨y, ey, hy⟩ := atI_ok (xs := [D.int (-1), .int (0 - a.1), .int (0 - 10 ^ 30)]) (i := v) v0 (by simpa using v1)
      have hy2 : ∃ r : Int, y = .int r ∧ ¬ (0 ≤ r ∧ r < a.1) ∧ -(10 ^ 40) < r ∧ r < 10 ^ 40 := by
        simp only [List.mem_cons, List.not_mem_nil, or_false] at hy
        rcases hy with rfl | rfl | rfl <;> exact ⟨_, rfl, by omega, by omega, by omega⟩
      obtain ⟨r, rfl, r0, r1⟩ := hy2
      refine ⟨j.set u.toNat r, s4, ?_, wrong_set hj l4 h64 ga r0 r1, k4.mono (by omega)⟩
      simp only [m_law_wrong_index, mb_law_wrong_index, mOwn, mListN, mLenO, mSetI, mFrz, frzE, runF, mSeq, seqS, mAsg, mBin, mUn, mVar, mC, mRet, mNext, mIfS, mTest, mTruth, mAnd, mOr, mNot, mAndV, mOrV, mNotV, mCl, mCons, mNil, mCall, mDrop, mDrI, mDrNe, mDrIx, mDrLen, mDrSet, mDrPop, drL, isDr0, toS, fName, R.lift, bind_ok, bind_err, bind_bad, eAdd, eSub, eMul, eDiv, eMod, ePow, eNeg, eLt, eLe, eGt, eGe, eEqI, eNeI, eEqS, eEqB, eNeB, eIdxL, eIdxT, eBool, eAbs, Bool.false_eq_true, dList, dTup, if_true, if_false, if_pos, List.map_cons, List.map_nil, List.length_cons, List.length_nil, List.replicate, List.cons_append, List.nil_append, List.getElem?_cons_zero, List.getElem?_cons_succ, List.set_cons_zero, List.set_cons_succ, Nat.reduceAdd, Nat.reduceSub, Nat.reduceLeDiff, Nat.reduceLT, Nat.reduceMul, Int.reduceToNat, Int.reduceEq, Int.reduceAdd, Int.reduceSub, Int.reduceNeg, Bool.not_true, Bool.not_false, decide_true, decide_false, reduceIte, Nat.reduceEqDiff, ite_true, ite_false, mIf, mLst, mSlice, mPart, mNoPart, mItS, mItL, mItT, asSeq, asList, asTup, mFor, mPar, mPass, mBrk, mCnt, mRetN, ln, e1, gt, e2, le, hj0, e3, is, p1, e4, ey, ixu, st]
    · obtain ⟨v, s4, e4, v0, v1, k4⟩ := take_ok A (n := 3) k3 (by omega) (by decide) (by decide)
      obtain ⟨y, ey, hy⟩ := atI_ok (xs := [D.int 0, .int 1, .int (10 ^ 30)]) (i := v) v0 (by simpa using v1)
      have hy2 : ∃ r : Int, y = .int r ∧ 0 ≤ r ∧ r ≤ 10 ^ 30 := by
        simp only [List.mem_cons, List.not_mem_nil, or_false] at hy
        rcases hy with rfl | rfl | rfl <;> exact ⟨_, rfl, by omega, by omega⟩
      obtain ⟨r, rfl, r0, r1⟩ := hy2
      refine ⟨j.set u.toNat (a.1 + r), s4, ?_, wrong_set hj l4 h64 ga (by omega) (by omega), k4.mono (by omega)⟩
      simp only [m_law_wrong_index, mb_law_wrong_index, mOwn, mListN, mLenO, mSetI, mFrz, frzE, runF, mSeq, seqS, mAsg, mBin, mUn, mVar, mC, mRet, mNext, mIfS, mTest, mTruth, mAnd, mOr, mNot, mAndV, mOrV, mNotV, mCl, mCons, mNil, mCall, mDrop, mDrI, mDrNe, mDrIx, mDrLen, mDrSet, mDrPop, drL, isDr0, toS, fName, R.lift, bind_ok, bind_err, bind_bad, eAdd, eSub, eMul, eDiv, eMod, ePow, eNeg, eLt, eLe, eGt, eGe, eEqI, eNeI, eEqS, eEqB, eNeB, eIdxL, eIdxT, eBool, eAbs, Bool.false_eq_true, dList, dTup, if_true, if_false, if_pos, List.map_cons, List.map_nil, List.length_cons, List.length_nil, List.replicate, List.cons_append, List.nil_append, List.getElem?_cons_zero, List.getElem?_cons_succ, List.set_cons_zero, List.set_cons_succ, Nat.reduceAdd, Nat.reduceSub, Nat.reduceLeDiff, Nat.reduceLT, Nat.reduceMul, Int.reduceToNat, Int.reduceEq, Int.reduceAdd, Int.reduceSub, Int.reduceNeg, Bool.not_true, Bool.not_false, decide_true, decide_false, reduceIte, Nat.reduceEqDiff, ite_true, ite_false, mIf, mLst, mSlice, mPart, mNoPart, mItS, mItL, mItT, asSeq, asList, asTup, mFor, mPar, mPass, mBrk, mCnt, mRetN, ln, e1, gt, e2, le, hj0, e3, is, p1, e4, ey, ixu, st]
theorem no_cell (o : Int) (ax : Ax) : (List.lookup ("cell" : Str) (vFs o ax)).isNone = true := by
  simp only [vFs, List.lookup]
  rfl
theorem methA {A : Ad} {x : Str} {n : Nat} {f : List D → Dr → R Dr D} {m : ME (O A)} {ma : MA (O A)} {ρ : Ev} {s s' s2 : Dr} {o : Int} {ax : Ax} {ds : List D} (h : m ρ s = .ok (vD A o ax) s') (hx : (List.lookup x (vFs o ax)).isNone = true) (ha : ma ρ s' = .ok ds s2) (hn : ds.length + 1 = n) : mMeth (O A) A.v x n f m ma ρ s = f (vD A o ax :: ds) s2 := by
  simp only [mMeth, h, bind_ok, vD, hx, and_self, if_true, ha, hn]
theorem refused_ok (A : Ad) (he : A.es = [.ViewError, .IndexRangeError]) (J : A.toCa.Inj) {s : Dr} {o : Int} {ax : Ax} {i : List Int} (hv : Vw 64 64 o ax) (h : Wrong ax i) : m_law_refused A [vD A o ax, .lst (iD i)] s = .ok (.lst [tD i, .bl true]) s := by
  have c := cell_no A (s := s) (d := .lst (iD i)) hv (.inl rfl) h.fmt h.no
  have hm : Er.IndexRangeError ∈ A.es := by rw [he]; simp
  have t1 : A.t .IndexRangeError (A.c .IndexRangeError) = some true := Ca.t_c J hm _
  have t5 : A.toCa.tL (A.c .IndexRangeError) = some true := Ca.tL_c J hm
  have lk : List.lookup ("index" : Str) [(("index" : Str), tD i)] = some (tD i) := by simp [List.lookup]
  have m := methA (A := A) (x := "cell") (n := 2) (f := m_View_cell A) (m := mVar (O A) 0) (ma := mCons (O A) (mVar (O A) 1) (mNil (O A))) (ρ := [.sh (vD A o ax), .sh (.lst (iD i)), .sh .non, .no]) (s := s) (s' := s) (s2 := s) (o := o) (ax := ax) (ds := [.lst (iD i)]) (by simp only [runF, mSeq, seqS, mAsg, mBin, mUn, mVar, mC, mRet, mNext, mIfS, mTest, mTruth, mAnd, mOr, mNot, mAndV, mOrV, mNotV, mCl, mCons, mNil, mCall, mDrop, mDrI, mDrNe, mDrIx, mDrLen, mDrSet, mDrPop, drL, isDr0, toS, fName, R.lift, bind_ok, bind_err, bind_bad, eAdd, eSub, eMul, eDiv, eMod, ePow, eNeg, eLt, eLe, eGt, eGe, eEqI, eNeI, eEqS, eEqB, eNeB, eIdxL, eIdxT, eBool, eAbs, Bool.false_eq_true, dList, dTup, if_true, if_false, if_pos, List.map_cons, List.map_nil, List.length_cons, List.length_nil, List.replicate, List.cons_append, List.nil_append, List.getElem?_cons_zero, List.getElem?_cons_succ, List.set_cons_zero, List.set_cons_succ, Nat.reduceAdd, Nat.reduceSub, Nat.reduceLeDiff, Nat.reduceLT, Nat.reduceMul, Int.reduceToNat, Int.reduceEq, Int.reduceAdd, Int.reduceSub, Int.reduceNeg, Bool.not_true, Bool.not_false, decide_true, decide_false, reduceIte, Nat.reduceEqDiff, ite_true, ite_false, mIf, mLst, mSlice, mPart, mNoPart, mItS, mItL, mItT, asSeq, asList, asTup, mFor, mPar, mPass, mBrk, mCnt, mRetN]) (no_cell _ _) (by simp only [runF, mSeq, seqS, mAsg, mBin, mUn, mVar, mC, mRet, mNext, mIfS, mTest, mTruth, mAnd, mOr, mNot, mAndV, mOrV, mNotV, mCl, mCons, mNil, mCall, mDrop, mDrI, mDrNe, mDrIx, mDrLen, mDrSet, mDrPop, drL, isDr0, toS, fName, R.lift, bind_ok, bind_err, bind_bad, eAdd, eSub, eMul, eDiv, eMod, ePow, eNeg, eLt, eLe, eGt, eGe, eEqI, eNeI, eEqS, eEqB, eNeB, eIdxL, eIdxT, eBool, eAbs, Bool.false_eq_true, dList, dTup, if_true, if_false, if_pos, List.map_cons, List.map_nil, List.length_cons, List.length_nil, List.replicate, List.cons_append, List.nil_append, List.getElem?_cons_zero, List.getElem?_cons_succ, List.set_cons_zero, List.set_cons_succ, Nat.reduceAdd, Nat.reduceSub, Nat.reduceLeDiff, Nat.reduceLT, Nat.reduceMul, Int.reduceToNat, Int.reduceEq, Int.reduceAdd, Int.reduceSub, Int.reduceNeg, Bool.not_true, Bool.not_false, decide_true, decide_false, reduceIte, Nat.reduceEqDiff, ite_true, ite_false, mIf, mLst, mSlice, mPart, mNoPart, mItS, mItL, mItT, asSeq, asList, asTup, mFor, mPar, mPass, mBrk, mCnt, mRetN]) rfl
  simp only [m_law_refused, mb_law_refused, mTryAs, mXf, mIsX, clrS, runF, mSeq, seqS, mAsg, mBin, mUn, mVar, mC, mRet, mNext, mIfS, mTest, mTruth, mAnd, mOr, mNot, mAndV, mOrV, mNotV, mCl, mCons, mNil, mCall, mDrop, mDrI, mDrNe, mDrIx, mDrLen, mDrSet, mDrPop, drL, isDr0, toS, fName, R.lift, bind_ok, bind_err, bind_bad, eAdd, eSub, eMul, eDiv, eMod, ePow, eNeg, eLt, eLe, eGt, eGe, eEqI, eNeI, eEqS, eEqB, eNeB, eIdxL, eIdxT, eBool, eAbs, Bool.false_eq_true, dList, dTup, if_true, if_false, if_pos, List.map_cons, List.map_nil, List.length_cons, List.length_nil, List.replicate, List.cons_append, List.nil_append, List.getElem?_cons_zero, List.getElem?_cons_succ, List.set_cons_zero, List.set_cons_succ, Nat.reduceAdd, Nat.reduceSub, Nat.reduceLeDiff, Nat.reduceLT, Nat.reduceMul, Int.reduceToNat, Int.reduceEq, Int.reduceAdd, Int.reduceSub, Int.reduceNeg, Bool.not_true, Bool.not_false, decide_true, decide_false, reduceIte, Nat.reduceEqDiff, ite_true, ite_false, mIf, mLst, mSlice, mPart, mNoPart, mItS, mItL, mItT, asSeq, asList, asTup, mFor, mPar, mPass, mBrk, mCnt, mRetN, m, c, t1, t5, lk, List.all_cons, List.all_nil, noExc, Bool.and_true, Bool.and_self, Option.map_some]
abbrev Env (A : Ad) (x0 x2 x3 x4 x5 x6 x7 x8 x9 : Sl) : Ev := [x0, .sh (.ref A.d), x2, x3, x4, x5, x6, x7, x8, x9]
theorem pl_ix {i : List Int} (h : i.length ≤ 1000) : plD 3 (.lst [tD i, .bl true]) = true := by
  have key : plD 2 (.tup (iD i)) = true := by
    simp only [plD, iD, List.length_map, Bool.and_eq_true, decide_eq_true_eq, List.all_eq_true]
    refine ⟨by omega, fun d hd => ?_⟩
    rw [List.mem_map] at hd
    obtain ⟨i, _, rfl⟩ := hd
    rfl
  show (decide (2 ≤ 100000) && [tD i, D.bl true].all (plD 2)) = true
  rw [List.all_cons, List.all_cons, List.all_nil, key]
  rfl
theorem pl_lst (xs : List Int) (h : xs.length ≤ 1000) : plD 3 (.lst (iD xs)) = true := by
  simp only [plD, iD, List.length_map, Bool.and_eq_true, decide_eq_true_eq, List.all_eq_true]
  refine ⟨by omega, fun d hd => ?_⟩
  rw [List.mem_map] at hd
  obtain ⟨i, _, rfl⟩ := hd
  rfl
theorem turn_ok (A : Ad) (he : A.es = [.ViewError, .IndexRangeError]) (J : A.toCa.Inj) {x0 x4 x6 x7 x8 x9 : Sl} {b o : Int} {ax : Ax} {s : Dr} (hv : Vw 64 64 o ax) (ok : Ok b s) (hb : b + 10 ≤ 1000000) :
    Nx (fun ρ' s' => (∃ y7 y9, ρ' = Env A x0 (.sh (ptD o ax)) (.sh (vD A o ax)) x4 (.sh (.lst ((indsL (shp ax)).map tD))) x6 y7 x8 y9) ∧ Ok (b + 10) s') (bd_law_1 A (Env A x0 (.sh (ptD o ax)) (.sh (vD A o ax)) x4 (.sh (.lst ((indsL (shp ax)).map tD))) x6 x7 x8 x9) s) := by
  unfold bd_law_1
  have ix1 : dIdx (ptD o ax) (.int 1) = some (.tup (iD (shp ax))) := at1 _ _ _
  refine nx_seq (fun ρ' s' => ∃ i, Wrong ax i ∧ ρ' = Env A x0 (.sh (ptD o ax)) (.sh (vD A o ax)) x4 (.sh (.lst ((indsL (shp ax)).map tD))) x6 (.sh (.lst (iD i))) x8 x9 ∧ Ok (b + 8) s') ?_ ?_
  · obtain ⟨i, s1, e1, hw, k1⟩ := wrong_ok A hv ok (by omega)
    exact nx_of (by simp only [runF, mSeq, seqS, mAsg, mBin, mUn, mVar, mC, mRet, mNext, mIfS, mTest, mTruth, mAnd, mOr, mNot, mAndV, mOrV, mNotV, mCl, mCons, mNil, mCall, mDrop, mDrI, mDrNe, mDrIx, mDrLen, mDrSet, mDrPop, drL, isDr0, toS, fName, R.lift, bind_ok, bind_err, bind_bad, eAdd, eSub, eMul, eDiv, eMod, ePow, eNeg, eLt, eLe, eGt, eGe, eEqI, eNeI, eEqS, eEqB, eNeB, eIdxL, eIdxT, eBool, eAbs, Bool.false_eq_true, dList, dTup, if_true, if_false, if_pos, List.map_cons, List.map_nil, List.length_cons, List.length_nil, List.replicate, List.cons_append, List.nil_append, List.getElem?_cons_zero, List.getElem?_cons_succ, List.set_cons_zero, List.set_cons_succ, Nat.reduceAdd, Nat.reduceSub, Nat.reduceLeDiff, Nat.reduceLT, Nat.reduceMul, Int.reduceToNat, Int.reduceEq, Int.reduceAdd, Int.reduceSub, Int.reduceNeg, Bool.not_true, Bool.not_false, decide_true, decide_false, reduceIte, Nat.reduceEqDiff, ite_true, ite_false, mIf, mLst, mSlice, mPart, mNoPart, mItS, mItL, mItT, asSeq, asList, asTup, mFor, mPar, mPass, mBrk, mCnt, mRetN, ix1, e1] <;> rfl) ⟨i, hw, rfl, k1⟩
  rintro _ s ⟨i, hw, rfl, ok⟩
  have r := refused_ok A he J (s := s) hv hw
  have to : dTupOf [.lst (iD i)] = some (tD i) := rfl
  have sm := same_ok A (pl_ix (i := i) (by have := hw.len; omega)) s
  exact nx_if (k := false) (s1 := s) (by simp only [runF, mSeq, seqS, mAsg, mBin, mUn, mVar, mC, mRet, mNext, mIfS, mTest, mTruth, mAnd, mOr, mNot, mAndV, mOrV, mNotV, mCl, mCons, mNil, mCall, mDrop, mDrI, mDrNe, mDrIx, mDrLen, mDrSet, mDrPop, drL, isDr0, toS, fName, R.lift, bind_ok, bind_err, bind_bad, eAdd, eSub, eMul, eDiv, eMod, ePow, eNeg, eLt, eLe, eGt, eGe, eEqI, eNeI, eEqS, eEqB, eNeB, eIdxL, eIdxT, eBool, eAbs, Bool.false_eq_true, dList, dTup, if_true, if_false, if_pos, List.map_cons, List.map_nil, List.length_cons, List.length_nil, List.replicate, List.cons_append, List.nil_append, List.getElem?_cons_zero, List.getElem?_cons_succ, List.set_cons_zero, List.set_cons_succ, Nat.reduceAdd, Nat.reduceSub, Nat.reduceLeDiff, Nat.reduceLT, Nat.reduceMul, Int.reduceToNat, Int.reduceEq, Int.reduceAdd, Int.reduceSub, Int.reduceNeg, Bool.not_true, Bool.not_false, decide_true, decide_false, reduceIte, Nat.reduceEqDiff, ite_true, ite_false, mIf, mLst, mSlice, mPart, mNoPart, mItS, mItL, mItT, asSeq, asList, asTup, mFor, mPar, mPass, mBrk, mCnt, mRetN, r, to, sm, dTruth]) (fun hk => by cases hk) (fun _ => nx_next ⟨⟨_, _, rfl⟩, ok.mono (by omega)⟩)
theorem each_ok (A : Ad) {x0 x2 x4 x5 x6 x9 : Sl} {o : Int} {ax : Ax} {s : Dr} (hv : Vw 64 64 o ax) : ∀ (is : List (List Int)) (x7 x8 : Sl), (∀ i ∈ is, InR ax i) → ∃ y7 y8, forL (O A).S (fTup 2 (fCons (fName 7) (fCons (fName 8) fNil))) (bd_law_0 A) (is.map fun i => D.tup [tD i, .int (o + dot ax i)]) (Env A x0 x2 (.sh (vD A o ax)) x4 x5 x6 x7 x8 x9) s = .nx (Env A x0 x2 (.sh (vD A o ax)) x4 x5 x6 y7 y8 x9) s
  | [], x7, x8, _ => ⟨x7, x8, rfl⟩
  | i :: is, x7, x8, h => by
    obtain ⟨y7, y8, e⟩ := each_ok A (x0 := x0) (x2 := x2) (x4 := x4) (x5 := x5) (x6 := x6) (x9 := x9) (s := s) hv is (.sh (tD i)) (.sh (.int (o + dot ax i))) fun j hj => h j (List.mem_cons_of_mem _ hj)
    have hi := h i List.mem_cons_self
    have c1 := cell_ok A (s := s) (d := tD i) hv (.inr rfl) hi
    have c2 := cell_ok A (s := s) (d := .lst (iD i)) hv (.inl rfl) hi
    have lo : dListOf [tD i] = some (.lst (iD i)) := rfl
    have m1 := methA (A := A) (x := "cell") (n := 2) (f := m_View_cell A) (m := mVar (O A) 3) (ma := mCons (O A) (mVar (O A) 7) (mNil (O A))) (ρ := Env A x0 x2 (.sh (vD A o ax)) x4 x5 x6 (.sh (tD i)) (.sh (.int (o + dot ax i))) x9) (s := s) (s' := s) (s2 := s) (o := o) (ax := ax) (ds := [tD i]) (by simp only [runF, mSeq, seqS, mAsg, mBin, mUn, mVar, mC, mRet, mNext, mIfS, mTest, mTruth, mAnd, mOr, mNot, mAndV, mOrV, mNotV, mCl, mCons, mNil, mCall, mDrop, mDrI, mDrNe, mDrIx, mDrLen, mDrSet, mDrPop, drL, isDr0, toS, fName, R.lift, bind_ok, bind_err, bind_bad, eAdd, eSub, eMul, eDiv, eMod, ePow, eNeg, eLt, eLe, eGt, eGe, eEqI, eNeI, eEqS, eEqB, eNeB, eIdxL, eIdxT, eBool, eAbs, Bool.false_eq_true, dList, dTup, if_true, if_false, if_pos, List.map_cons, List.map_nil, List.length_cons, List.length_nil, List.replicate, List.cons_append, List.nil_append, List.getElem?_cons_zero, List.getElem?_cons_succ, List.set_cons_zero, List.set_cons_succ, Nat.reduceAdd, Nat.reduceSub, Nat.reduceLeDiff, Nat.reduceLT, Nat.reduceMul, Int.reduceToNat, Int.reduceEq, Int.reduceAdd, Int.reduceSub, Int.reduceNeg, Bool.not_true, Bool.not_false, decide_true, decide_false, reduceIte, Nat.reduceEqDiff, ite_true, ite_false, mIf, mLst, mSlice, mPart, mNoPart, mItS, mItL, mItT, asSeq, asList, asTup, mFor, mPar, mPass, mBrk, mCnt, mRetN]) (no_cell _ _) (by simp only [runF, mSeq, seqS, mAsg, mBin, mUn, mVar, mC, mRet, mNext, mIfS, mTest, mTruth, mAnd, mOr, mNot, mAndV, mOrV, mNotV, mCl, mCons, mNil, mCall, mDrop, mDrI, mDrNe, mDrIx, mDrLen, mDrSet, mDrPop, drL, isDr0, toS, fName, R.lift, bind_ok, bind_err, bind_bad, eAdd, eSub, eMul, eDiv, eMod, ePow, eNeg, eLt, eLe, eGt, eGe, eEqI, eNeI, eEqS, eEqB, eNeB, eIdxL, eIdxT, eBool, eAbs, Bool.false_eq_true, dList, dTup, if_true, if_false, if_pos, List.map_cons, List.map_nil, List.length_cons, List.length_nil, List.replicate, List.cons_append, List.nil_append, List.getElem?_cons_zero, List.getElem?_cons_succ, List.set_cons_zero, List.set_cons_succ, Nat.reduceAdd, Nat.reduceSub, Nat.reduceLeDiff, Nat.reduceLT, Nat.reduceMul, Int.reduceToNat, Int.reduceEq, Int.reduceAdd, Int.reduceSub, Int.reduceNeg, Bool.not_true, Bool.not_false, decide_true, decide_false, reduceIte, Nat.reduceEqDiff, ite_true, ite_false, mIf, mLst, mSlice, mPart, mNoPart, mItS, mItL, mItT, asSeq, asList, asTup, mFor, mPar, mPass, mBrk, mCnt, mRetN]) rfl
    have m2 := methA (A := A) (x := "cell") (n := 2) (f := m_View_cell A) (m := mVar (O A) 3) (ma := mCons (O A) (mCl (O A) dListOf (mCons (O A) (mVar (O A) 7) (mNil (O A)))) (mNil (O A))) (ρ := Env A x0 x2 (.sh (vD A o ax)) x4 x5 x6 (.sh (tD i)) (.sh (.int (o + dot ax i))) x9) (s := s) (s' := s) (s2 := s) (o := o) (ax := ax) (ds := [.lst (iD i)]) (by simp only [runF, mSeq, seqS, mAsg, mBin, mUn, mVar, mC, mRet, mNext, mIfS, mTest, mTruth, mAnd, mOr, mNot, mAndV, mOrV, mNotV, mCl, mCons, mNil, mCall, mDrop, mDrI, mDrNe, mDrIx, mDrLen, mDrSet, mDrPop, drL, isDr0, toS, fName, R.lift, bind_ok, bind_err, bind_bad, eAdd, eSub, eMul, eDiv, eMod, ePow, eNeg, eLt, eLe, eGt, eGe, eEqI, eNeI, eEqS, eEqB, eNeB, eIdxL, eIdxT, eBool, eAbs, Bool.false_eq_true, dList, dTup, if_true, if_false, if_pos, List.map_cons, List.map_nil, List.length_cons, List.length_nil, List.replicate, List.cons_append, List.nil_append, List.getElem?_cons_zero, List.getElem?_cons_succ, List.set_cons_zero, List.set_cons_succ, Nat.reduceAdd, Nat.reduceSub, Nat.reduceLeDiff, Nat.reduceLT, Nat.reduceMul, Int.reduceToNat, Int.reduceEq, Int.reduceAdd, Int.reduceSub, Int.reduceNeg, Bool.not_true, Bool.not_false, decide_true, decide_false, reduceIte, Nat.reduceEqDiff, ite_true, ite_false, mIf, mLst, mSlice, mPart, mNoPart, mItS, mItL, mItT, asSeq, asList, asTup, mFor, mPar, mPass, mBrk, mCnt, mRetN]) (no_cell _ _) (by simp only [runF, mSeq, seqS, mAsg, mBin, mUn, mVar, mC, mRet, mNext, mIfS, mTest, mTruth, mAnd, mOr, mNot, mAndV, mOrV, mNotV, mCl, mCons, mNil, mCall, mDrop, mDrI, mDrNe, mDrIx, mDrLen, mDrSet, mDrPop, drL, isDr0, toS, fName, R.lift, bind_ok, bind_err, bind_bad, eAdd, eSub, eMul, eDiv, eMod, ePow, eNeg, eLt, eLe, eGt, eGe, eEqI, eNeI, eEqS, eEqB, eNeB, eIdxL, eIdxT, eBool, eAbs, Bool.false_eq_true, dList, dTup, if_true, if_false, if_pos, List.map_cons, List.map_nil, List.length_cons, List.length_nil, List.replicate, List.cons_append, List.nil_append, List.getElem?_cons_zero, List.getElem?_cons_succ, List.set_cons_zero, List.set_cons_succ, Nat.reduceAdd, Nat.reduceSub, Nat.reduceLeDiff, Nat.reduceLT, Nat.reduceMul, Int.reduceToNat, Int.reduceEq, Int.reduceAdd, Int.reduceSub, Int.reduceNeg, Bool.not_true, Bool.not_false, decide_true, decide_false, reduceIte, Nat.reduceEqDiff, ite_true, ite_false, mIf, mLst, mSlice, mPart, mNoPart, mItS, mItL, mItT, asSeq, asList, asTup, mFor, mPar, mPass, mBrk, mCnt, mRetN, lo]) rfl
    have sm := same_int A (o + dot ax i) s
    refine ⟨y7, y8, ?_⟩
    show forL (O A).S _ _ (D.tup [tD i, .int (o + dot ax i)] :: _) _ s = _
    rw [forL_step (f2_ok _ _ _ _ _) (ρ2 := Env A x0 x2 (.sh (vD A o ax)) x4 x5 x6 (.sh (tD i)) (.sh (.int (o + dot ax i))) x9) (s2 := s) ?_]
    · exact e
    · have z : ((Env A x0 x2 (.sh (vD A o ax)) x4 x5 x6 x7 x8 x9).set 7 (.sh (tD i))).set 8 (.sh (.int (o + dot ax i))) = Env A x0 x2 (.sh (vD A o ax)) x4 x5 x6 (.sh (tD i)) (.sh (.int (o + dot ax i))) x9 := rfl
      rw [z]
      simp only [bd_law_0, runF, mSeq, seqS, mAsg, mBin, mUn, mVar, mC, mRet, mNext, mIfS, mTest, mTruth, mAnd, mOr, mNot, mAndV, mOrV, mNotV, mCl, mCons, mNil, mCall, mDrop, mDrI, mDrNe, mDrIx, mDrLen, mDrSet, mDrPop, drL, isDr0, toS, fName, R.lift, bind_ok, bind_err, bind_bad, eAdd, eSub, eMul, eDiv, eMod, ePow, eNeg, eLt, eLe, eGt, eGe, eEqI, eNeI, eEqS, eEqB, eNeB, eIdxL, eIdxT, eBool, eAbs, Bool.false_eq_true, dList, dTup, if_true, if_false, if_pos, List.map_cons, List.map_nil, List.length_cons, List.length_nil, List.replicate, List.cons_append, List.nil_append, List.getElem?_cons_zero, List.getElem?_cons_succ, List.set_cons_zero, List.set_cons_succ, Nat.reduceAdd, Nat.reduceSub, Nat.reduceLeDiff, Nat.reduceLT, Nat.reduceMul, Int.reduceToNat, Int.reduceEq, Int.reduceAdd, Int.reduceSub, Int.reduceNeg, Bool.not_true, Bool.not_false, decide_true, decide_false, reduceIte, Nat.reduceEqDiff, ite_true, ite_false, mIf, mLst, mSlice, mPart, mNoPart, mItS, mItL, mItT, asSeq, asList, asTup, mFor, mPar, mPass, mBrk, mCnt, mRetN, m1, m2, c1, c2, sm, dTruth]
theorem no_m (o : Int) (ax : Ax) : (List.lookup ("size" : Str) (vFs o ax)).isNone = true ∧ (List.lookup ("lowest" : Str) (vFs o ax)).isNone = true ∧ (List.lookup ("highest" : Str) (vFs o ax)).isNone = true := by
  simp only [vFs, List.lookup]
  exact ⟨rfl, rfl, rfl⟩
theorem hm_holds (A : Ad) (ns : List Int) (he : A.es = [.ViewError, .IndexRangeError]) (J : A.toCa.Inj) (hl : ns.length ≤ 63) : ∃ s, mb_law A (.sh (.lst (ns.map D.int)) :: .sh (.ref A.d) :: List.replicate 8 .no) ⟨ns.filter (fun n => decide (10 ^ 18 ≤ n)), 0, ns.filter (fun n => decide (n < 10 ^ 18)), 0⟩ = .rt (.bl true) s := by
  have k0 := Ok.start ns
  generalize (⟨ns.filter (fun n => decide (10 ^ 18 ≤ n)), 0, ns.filter (fun n => decide (n < 10 ^ 18)), 0⟩ : Dr) = s0 at k0 ⊢
  generalize Sl.sh (D.lst (ns.map D.int)) = x0
  obtain ⟨o, ax, s1, e1, hv, k1⟩ := law_parts_ok A (cells := 64) (most := 64) (by decide) (by decide) (by decide) (by decide) k0 (by omega)
  have ix0 : dIdx (ptD o ax) (.int 0) = some (.int o) := at0 _ _
  have ix1 : dIdx (ptD o ax) (.int 1) = some (.tup (iD (shp ax))) := at1 _ _ _
  have ix2 : dIdx (ptD o ax) (.int 2) = some (.tup (iD (strd ax))) := rfl
  have i1 := init_ok A (s := s1) (o := o) (ax := ax) (d := .tup (iD (shp ax))) (e := .tup (iD (strd ax))) ⟨.inr rfl, .inr rfl⟩ hv
  have ob := hv.off (by decide)
  have lc := law_cells_ok A (s := s1) (o := o) (hv.bd (by decide)) hv.prd (by have := hv.len; omega) (by omega) (by omega)
  have li := law_indices_ok A (s := s1) (d := .tup (iD (shp ax))) (.inr rfl) (fun l hl => (hv.shp (by decide) l hl).1) hv.prd hv.shl
  have cN := cellsN_ok A (s := s1) hv
  have cl := cellsL_len (o := o) hv.pos
  have hp2 := hv.prd
  have cl64 : (cellsL o ax).length ≤ 64 := by omega
  have sm1 := same_ok A (pl_lst (cellsL o ax) (by omega)) s1
  have sz := size_ok A (s := s1) hv
  have ln : dLen [.lst (iD (cellsL o ax))] = some (.int (prodL (shp ax))) := by simp [dLen, iD, cl]
  have sm2 := same_int A (prodL (shp ax)) s1
  obtain ⟨nm1, nm2, nm3⟩ := no_m o ax
  obtain ⟨lw, hg⟩ := low_ok A (s := s1) hv
  obtain ⟨mn, mx⟩ := min_cells (o := o) hv.pos
  have sm3 := same_int A (o + lowS ax) s1
  have sm4 := same_int A (o + highS ax) s1
  have vd : D.ins A.v (vFs o ax) = vD A o ax := rfl
  have nc := no_cells o ax
  have mN : ∀ (x4 x5 x6 : Sl), mMethN (O A) A.v "cells" 1 (m_View_cellsN A) (mVar (O A) 3) (mNil (O A)) (Env A x0 (.sh (ptD o ax)) (.sh (vD A o ax)) x4 x5 x6 .no .no .no) s1 = .ok (iD (cellsL o ax)) s1 := fun x4 x5 x6 => by
    simp only [mMethN, runF, mSeq, seqS, mAsg, mBin, mUn, mVar, mC, mRet, mNext, mIfS, mTest, mTruth, mAnd, mOr, mNot, mAndV, mOrV, mNotV, mCl, mCons, mNil, mCall, mDrop, mDrI, mDrNe, mDrIx, mDrLen, mDrSet, mDrPop, drL, isDr0, toS, fName, R.lift, bind_ok, bind_err, bind_bad, eAdd, eSub, eMul, eDiv, eMod, ePow, eNeg, eLt, eLe, eGt, eGe, eEqI, eNeI, eEqS, eEqB, eNeB, eIdxL, eIdxT, eBool, eAbs, Bool.false_eq_true, dList, dTup, if_true, if_false, if_pos, List.map_cons, List.map_nil, List.length_cons, List.length_nil, List.replicate, List.cons_append, List.nil_append, List.getElem?_cons_zero, List.getElem?_cons_succ, List.set_cons_zero, List.set_cons_succ, Nat.reduceAdd, Nat.reduceSub, Nat.reduceLeDiff, Nat.reduceLT, Nat.reduceMul, Int.reduceToNat, Int.reduceEq, Int.reduceAdd, Int.reduceSub, Int.reduceNeg, Bool.not_true, Bool.not_false, decide_true, decide_false, reduceIte, Nat.reduceEqDiff, ite_true, ite_false, mIf, mLst, mSlice, mPart, mNoPart, mItS, mItL, mItT, asSeq, asList, asTup, mFor, mPar, mPass, mBrk, mCnt, mRetN, vD, nc, and_self]
    exact cN
  have m1 : ∀ x6 : Sl, mMeth (O A) A.v "size" 1 (m_View_size A) (mVar (O A) 3) (mNil (O A)) (Env A x0 (.sh (ptD o ax)) (.sh (vD A o ax)) (.sh (.lst (iD (cellsL o ax)))) (.sh (.lst ((indsL (shp ax)).map tD))) x6 .no .no .no) s1 = .ok (.int (prodL (shp ax))) s1 := fun x6 => by
    rw [meth_ok A (n := 1) (o := o) (ax := ax) (s' := s1) (by simp only [runF, mSeq, seqS, mAsg, mBin, mUn, mVar, mC, mRet, mNext, mIfS, mTest, mTruth, mAnd, mOr, mNot, mAndV, mOrV, mNotV, mCl, mCons, mNil, mCall, mDrop, mDrI, mDrNe, mDrIx, mDrLen, mDrSet, mDrPop, drL, isDr0, toS, fName, R.lift, bind_ok, bind_err, bind_bad, eAdd, eSub, eMul, eDiv, eMod, ePow, eNeg, eLt, eLe, eGt, eGe, eEqI, eNeI, eEqS, eEqB, eNeB, eIdxL, eIdxT, eBool, eAbs, Bool.false_eq_true, dList, dTup, if_true, if_false, if_pos, List.map_cons, List.map_nil, List.length_cons, List.length_nil, List.replicate, List.cons_append, List.nil_append, List.getElem?_cons_zero, List.getElem?_cons_succ, List.set_cons_zero, List.set_cons_succ, Nat.reduceAdd, Nat.reduceSub, Nat.reduceLeDiff, Nat.reduceLT, Nat.reduceMul, Int.reduceToNat, Int.reduceEq, Int.reduceAdd, Int.reduceSub, Int.reduceNeg, Bool.not_true, Bool.not_false, decide_true, decide_false, reduceIte, Nat.reduceEqDiff, ite_true, ite_false, mIf, mLst, mSlice, mPart, mNoPart, mItS, mItL, mItT, asSeq, asList, asTup, mFor, mPar, mPass, mBrk, mCnt, mRetN]) nm1]; exact sz
  have m2 : ∀ x6 : Sl, mMeth (O A) A.v "lowest" 1 (m_View_lowest A) (mVar (O A) 3) (mNil (O A)) (Env A x0 (.sh (ptD o ax)) (.sh (vD A o ax)) (.sh (.lst (iD (cellsL o ax)))) (.sh (.lst ((indsL (shp ax)).map tD))) x6 .no .no .no) s1 = .ok (.int (o + lowS ax)) s1 := fun x6 => by
    rw [meth_ok A (n := 1) (o := o) (ax := ax) (s' := s1) (by simp only [runF, mSeq, seqS, mAsg, mBin, mUn, mVar, mC, mRet, mNext, mIfS, mTest, mTruth, mAnd, mOr, mNot, mAndV, mOrV, mNotV, mCl, mCons, mNil, mCall, mDrop, mDrI, mDrNe, mDrIx, mDrLen, mDrSet, mDrPop, drL, isDr0, toS, fName, R.lift, bind_ok, bind_err, bind_bad, eAdd, eSub, eMul, eDiv, eMod, ePow, eNeg, eLt, eLe, eGt, eGe, eEqI, eNeI, eEqS, eEqB, eNeB, eIdxL, eIdxT, eBool, eAbs, Bool.false_eq_true, dList, dTup, if_true, if_false, if_pos, List.map_cons, List.map_nil, List.length_cons, List.length_nil, List.replicate, List.cons_append, List.nil_append, List.getElem?_cons_zero, List.getElem?_cons_succ, List.set_cons_zero, List.set_cons_succ, Nat.reduceAdd, Nat.reduceSub, Nat.reduceLeDiff, Nat.reduceLT, Nat.reduceMul, Int.reduceToNat, Int.reduceEq, Int.reduceAdd, Int.reduceSub, Int.reduceNeg, Bool.not_true, Bool.not_false, decide_true, decide_false, reduceIte, Nat.reduceEqDiff, ite_true, ite_false, mIf, mLst, mSlice, mPart, mNoPart, mItS, mItL, mItT, asSeq, asList, asTup, mFor, mPar, mPass, mBrk, mCnt, mRetN]) nm2]; exact lw
  have m3 : ∀ x6 : Sl, mMeth (O A) A.v "highest" 1 (m_View_highest A) (mVar (O A) 3) (mNil (O A)) (Env A x0 (.sh (ptD o ax)) (.sh (vD A o ax)) (.sh (.lst (iD (cellsL o ax)))) (.sh (.lst ((indsL (shp ax)).map tD))) x6 .no .no .no) s1 = .ok (.int (o + highS ax)) s1 := fun x6 => by
    rw [meth_ok A (n := 1) (o := o) (ax := ax) (s' := s1) (by simp only [runF, mSeq, seqS, mAsg, mBin, mUn, mVar, mC, mRet, mNext, mIfS, mTest, mTruth, mAnd, mOr, mNot, mAndV, mOrV, mNotV, mCl, mCons, mNil, mCall, mDrop, mDrI, mDrNe, mDrIx, mDrLen, mDrSet, mDrPop, drL, isDr0, toS, fName, R.lift, bind_ok, bind_err, bind_bad, eAdd, eSub, eMul, eDiv, eMod, ePow, eNeg, eLt, eLe, eGt, eGe, eEqI, eNeI, eEqS, eEqB, eNeB, eIdxL, eIdxT, eBool, eAbs, Bool.false_eq_true, dList, dTup, if_true, if_false, if_pos, List.map_cons, List.map_nil, List.length_cons, List.length_nil, List.replicate, List.cons_append, List.nil_append, List.getElem?_cons_zero, List.getElem?_cons_succ, List.set_cons_zero, List.set_cons_succ, Nat.reduceAdd, Nat.reduceSub, Nat.reduceLeDiff, Nat.reduceLT, Nat.reduceMul, Int.reduceToNat, Int.reduceEq, Int.reduceAdd, Int.reduceSub, Int.reduceNeg, Bool.not_true, Bool.not_false, decide_true, decide_false, reduceIte, Nat.reduceEqDiff, ite_true, ite_false, mIf, mLst, mSlice, mPart, mNoPart, mItS, mItL, mItT, asSeq, asList, asTup, mFor, mPar, mPass, mBrk, mCnt, mRetN]) nm3]; exact hg
  have ll : (iD (cellsL o ax)).length < 100000 := by simp [iD]; omega
  have zp : dZip [.lst ((indsL (shp ax)).map tD), .lst (iD (cellsL o ax))] = some ((indsL (shp ax)).map fun i => D.tup [tD i, .int (o + dot ax i)]) := by
    show some (zipD _ _) = _
    rw [cells_inds o ax]
    unfold zipD iD
    rw [List.map_map, List.zip_map', List.map_map]
    rfl
  have inr : ∀ i ∈ indsL (shp ax), InR ax i := fun i hi => by
    have := inds_inR ax [[]] [] (by simp [InR.nil]) i hi
    simpa using this
  obtain ⟨y7, y8, e2⟩ := each_ok A (x0 := x0) (x2 := .sh (ptD o ax)) (x4 := .sh (.lst (iD (cellsL o ax)))) (x5 := .sh (.lst ((indsL (shp ax)).map tD))) (x6 := .own (iD (cellsL o ax) ++ [.int (-1)])) (x9 := .no) (s := s1) hv (indsL (shp ax)) .no .no inr
  obtain ⟨ρ', s', e3, ⟨z7, z9, rfl⟩, _⟩ := forL_nx (O := O A) (f := fName 9) (mb := bd_law_1 A) 8 (fun i ρ s => (∃ z7 z9, ρ = Env A x0 (.sh (ptD o ax)) (.sh (vD A o ax)) (.sh (.lst (iD (cellsL o ax)))) (.sh (.lst ((indsL (shp ax)).map tD))) (.own (iD (cellsL o ax) ++ [.int (-1)])) z7 y8 z9) ∧ Ok (14 + 10 * i) s)
    (by
      rintro i d ρ s hi ⟨⟨z7, z9, rfl⟩, ok⟩
      exact ⟨_, rfl, (turn_ok A he J (x0 := x0) (x4 := .sh (.lst (iD (cellsL o ax)))) (x6 := .own (iD (cellsL o ax) ++ [.int (-1)])) (x7 := z7) (x8 := y8) (x9 := .sh d) hv ok (by omega)).mono fun ρ' s' h => ⟨h.1, h.2.mono (by omega)⟩⟩)
    (rangeD 0 8) (by simp [rangeD]) (Env A x0 (.sh (ptD o ax)) (.sh (vD A o ax)) (.sh (.lst (iD (cellsL o ax)))) (.sh (.lst ((indsL (shp ax)).map tD))) (.own (iD (cellsL o ax) ++ [.int (-1)])) y7 y8 .no) s1 ⟨⟨_, _, rfl⟩, k1.mono (by omega)⟩
  refine ⟨s', ?_⟩
  have hr : ((8 : Int) ≤ 100000 ∧ -100000 ≤ (8 : Int)) := by decide
  have vc := view_cells_ok A (s := s') hv
  have sm5 := same_ok A (pl_lst (cellsL o ax) (by omega)) s'
  have p1 := parts_ok A (s := s') (o := o) (ax := ax)
  have sm6 := same_ok A (pl_pt (o := o) hv.len) s'
  have m4 := meth_ok A (x := "cells") (n := 1) (f := m_View_cells A) (m := mVar (O A) 3) (ρ := Env A x0 (.sh (ptD o ax)) (.sh (vD A o ax)) (.sh (.lst (iD (cellsL o ax)))) (.sh (.lst ((indsL (shp ax)).map tD))) (.own (iD (cellsL o ax) ++ [.int (-1)])) z7 y8 z9) (s := s') (s' := s') (o := o) (ax := ax) (by simp only [runF, mSeq, seqS, mAsg, mBin, mUn, mVar, mC, mRet, mNext, mIfS, mTest, mTruth, mAnd, mOr, mNot, mAndV, mOrV, mNotV, mCl, mCons, mNil, mCall, mDrop, mDrI, mDrNe, mDrIx, mDrLen, mDrSet, mDrPop, drL, isDr0, toS, fName, R.lift, bind_ok, bind_err, bind_bad, eAdd, eSub, eMul, eDiv, eMod, ePow, eNeg, eLt, eLe, eGt, eGe, eEqI, eNeI, eEqS, eEqB, eNeB, eIdxL, eIdxT, eBool, eAbs, Bool.false_eq_true, dList, dTup, if_true, if_false, if_pos, List.map_cons, List.map_nil, List.length_cons, List.length_nil, List.replicate, List.cons_append, List.nil_append, List.getElem?_cons_zero, List.getElem?_cons_succ, List.set_cons_zero, List.set_cons_succ, Nat.reduceAdd, Nat.reduceSub, Nat.reduceLeDiff, Nat.reduceLT, Nat.reduceMul, Int.reduceToNat, Int.reduceEq, Int.reduceAdd, Int.reduceSub, Int.reduceNeg, Bool.not_true, Bool.not_false, decide_true, decide_false, reduceIte, Nat.reduceEqDiff, ite_true, ite_false, mIf, mLst, mSlice, mPart, mNoPart, mItS, mItL, mItT, asSeq, asList, asTup, mFor, mPar, mPass, mBrk, mCnt, mRetN]) nc
  have m5 := meth_ok A (x := "parts") (n := 1) (f := m_View_parts A) (m := mVar (O A) 3) (ρ := Env A x0 (.sh (ptD o ax)) (.sh (vD A o ax)) (.sh (.lst (iD (cellsL o ax)))) (.sh (.lst ((indsL (shp ax)).map tD))) (.own (iD (cellsL o ax) ++ [.int (-1)])) z7 y8 z9) (s := s') (s' := s') (o := o) (ax := ax) (by simp only [runF, mSeq, seqS, mAsg, mBin, mUn, mVar, mC, mRet, mNext, mIfS, mTest, mTruth, mAnd, mOr, mNot, mAndV, mOrV, mNotV, mCl, mCons, mNil, mCall, mDrop, mDrI, mDrNe, mDrIx, mDrLen, mDrSet, mDrPop, drL, isDr0, toS, fName, R.lift, bind_ok, bind_err, bind_bad, eAdd, eSub, eMul, eDiv, eMod, ePow, eNeg, eLt, eLe, eGt, eGe, eEqI, eNeI, eEqS, eEqB, eNeB, eIdxL, eIdxT, eBool, eAbs, Bool.false_eq_true, dList, dTup, if_true, if_false, if_pos, List.map_cons, List.map_nil, List.length_cons, List.length_nil, List.replicate, List.cons_append, List.nil_append, List.getElem?_cons_zero, List.getElem?_cons_succ, List.set_cons_zero, List.set_cons_succ, Nat.reduceAdd, Nat.reduceSub, Nat.reduceLeDiff, Nat.reduceLT, Nat.reduceMul, Int.reduceToNat, Int.reduceEq, Int.reduceAdd, Int.reduceSub, Int.reduceNeg, Bool.not_true, Bool.not_false, decide_true, decide_false, reduceIte, Nat.reduceEqDiff, ite_true, ite_false, mIf, mLst, mSlice, mPart, mNoPart, mItS, mItL, mItT, asSeq, asList, asTup, mFor, mPar, mPass, mBrk, mCnt, mRetN]) (no_parts _ _)
  simp only [Env] at e2 e3 m1 m2 m3 m4 m5 mN
  simp only [mb_law, mRng1, mMake, mOwn, mAppend, mLendQ, lendR, mItA, runF, mSeq, seqS, mAsg, mBin, mUn, mVar, mC, mRet, mNext, mIfS, mTest, mTruth, mAnd, mOr, mNot, mAndV, mOrV, mNotV, mCl, mCons, mNil, mCall, mDrop, mDrI, mDrNe, mDrIx, mDrLen, mDrSet, mDrPop, drL, isDr0, toS, fName, R.lift, bind_ok, bind_err, bind_bad, eAdd, eSub, eMul, eDiv, eMod, ePow, eNeg, eLt, eLe, eGt, eGe, eEqI, eNeI, eEqS, eEqB, eNeB, eIdxL, eIdxT, eBool, eAbs, Bool.false_eq_true, dList, dTup, if_true, if_false, if_pos, List.map_cons, List.map_nil, List.length_cons, List.length_nil, List.replicate, List.cons_append, List.nil_append, List.getElem?_cons_zero, List.getElem?_cons_succ, List.set_cons_zero, List.set_cons_succ, Nat.reduceAdd, Nat.reduceSub, Nat.reduceLeDiff, Nat.reduceLT, Nat.reduceMul, Int.reduceToNat, Int.reduceEq, Int.reduceAdd, Int.reduceSub, Int.reduceNeg, Bool.not_true, Bool.not_false, decide_true, decide_false, reduceIte, Nat.reduceEqDiff, ite_true, ite_false, mIf, mLst, mSlice, mPart, mNoPart, mItS, mItL, mItT, asSeq, asList, asTup, mFor, mPar, mPass, mBrk, mCnt, mRetN, e1, ix0, ix1, ix2, i1, vd, lc, li, mN, sm1, m1, ln, sm2, ll, m2, m3, mn, mx, sm3, sm4, zp, e2, hr, e3, and_self, m4, m5, vc, sm5, p1, sm6, dTruth]
end K03

namespace K03
open PySem PySem.Spec PyProof.Rows L2 RZ Mr S
theorem ini_ViewError {P : Program} {w : World} {K : PySem.W.Frag} {mg : Str → Option Value} {base : Heap} {C L f : Addr} {fd : FuncData} (F : Fun K "__init__" "ViewError.__init__" s_iViewError f fd) (T0 : LcT K mg L) (TE : OexC K C) (no : ∀ f ∈ [("reason" : Str)], PySem.W.findIn K (.ref C) f = some none) :
    FnOk P w K mg base CX0 1 f fd ["self", "reason"] (spIni K C ["reason"]) := by
  refine F.ok sc_iViewError (fun vs H Q E h => ?_) (fun cdv A outer s H vs Q E hr h => ?_)
  · obtain ⟨a, ws, rfl, hl, _⟩ := h
    show ws.length + 1 = _
    rw [hl]
    rfl
  · obtain ⟨a, ws, rfl, hl, ea, fv, q⟩ := h
    match ws, hl with
    | [v0], _ =>
      refine ⟨_, pss_cons (ps_expr (pe_lcinit rfl T0 (pa_cons (pv 0) (pa_cons (pe_joined (.cons pe_str (.cons (pe_fmtG rfl hr (pv 1)) .nil))) pa_nil)))) (pss_one (ps_ost (pv 0) (pv 1))), ?_⟩
      refine init1_read (E := E) TE (no _ (by simp)) rfl rfl ea ?_ (Nat.le_of_ble_eq_true rfl) q
      intro t ht
      simp only [List.mem_cons, List.not_mem_nil, or_false] at ht
      rcases ht with rfl | rfl
      · exact part_c (by decide)
      · exact part_v rfl (fv _ (by simp))
theorem ini_IndexRangeError {P : Program} {w : World} {K : PySem.W.Frag} {mg : Str → Option Value} {base : Heap} {C L f : Addr} {fd : FuncData} (F : Fun K "__init__" "IndexRangeError.__init__" s_iIndexRangeError f fd) (T0 : LcT K mg L) (TE : OexC K C) (no : ∀ f ∈ [("index" : Str)], PySem.W.findIn K (.ref C) f = some none) :
    FnOk P w K mg base CX0 1 f fd ["self", "index"] (spIni K C ["index"]) := by
  refine F.ok sc_iIndexRangeError (fun vs H Q E h => ?_) (fun cdv A outer s H vs Q E hr h => ?_)
  · obtain ⟨a, ws, rfl, hl, _⟩ := h
    show ws.length + 1 = _
    rw [hl]
    rfl
  · obtain ⟨a, ws, rfl, hl, ea, fv, q⟩ := h
    match ws, hl with
    | [v0], _ =>
      refine ⟨_, pss_cons (ps_expr (pe_lcinit rfl T0 (pa_cons (pv 0) (pa_cons (pe_joined (.cons (pe_fmtG rfl hr (pv 1)) (.cons pe_str .nil))) pa_nil)))) (pss_one (ps_ost (pv 0) (pv 1))), ?_⟩
      refine init1_read (E := E) TE (no _ (by simp)) rfl rfl ea ?_ (Nat.le_of_ble_eq_true rfl) q
      intro t ht
      simp only [List.mem_cons, List.not_mem_nil, or_false] at ht
      rcases ht with rfl | rfl
      · exact part_v rfl (fv _ (by simp))
      · exact part_c (by decide)
theorem all_mk {P : Program} {w : World} {K : PySem.W.Frag} {h : Heap} {mg : Str → Option Value} {fa L : Addr} (X : K.In h) (G : h.Ns mainGlobals mg) (hfa : mg "law" = some (.ref fa))
    {nm0 q0 : Str} {C0 N0 fI0 : Addr} {bs0 bm0 : List Value} {sn0 : List Str} {sub0 : List Value} {ab0 : Bool} {col0 : Option Bool} {dd0 odI0 anI0 : Option Addr} {m00 m10 m20 m30 m50 : Option Value} {slI0 : Array (Option Value)} {ocI0 kVI0 dcI0 pmI0 cdI0 ctI0 : Value}
    {nm1 q1 : Str} {C1 N1 fI1 : Addr} {bs1 bm1 : List Value} {sn1 : List Str} {sub1 : List Value} {ab1 : Bool} {col1 : Option Bool} {dd1 odI1 anI1 : Option Addr} {m01 m11 m21 m31 m51 : Option Value} {slI1 : Array (Option Value)} {ocI1 kVI1 dcI1 pmI1 cdI1 ctI1 : Value}
    {f0 : Addr} {od0 an0 : Option Addr} {sl0 : Array (Option Value)} {oc0 kV0 dc0 pm0 cd0 ct0 : Value}
    {f1 : Addr} {od1 an1 : Option Addr} {sl1 : Array (Option Value)} {oc1 kV1 dc1 pm1 cd1 ct1 : Value}
    {f2 : Addr} {od2 an2 : Option Addr} {sl2 : Array (Option Value)} {oc2 kV2 dc2 pm2 cd2 ct2 : Value}
    {f3 : Addr} {od3 an3 : Option Addr} {sl3 : Array (Option Value)} {oc3 kV3 dc3 pm3 cd3 ct3 : Value}
    {f4 : Addr} {od4 an4 : Option Addr} {sl4 : Array (Option Value)} {oc4 kV4 dc4 pm4 cd4 ct4 : Value}
    {f5 : Addr} {od5 an5 : Option Addr} {sl5 : Array (Option Value)} {oc5 kV5 dc5 pm5 cd5 ct5 : Value}
    {f6 : Addr} {od6 an6 : Option Addr} {sl6 : Array (Option Value)} {oc6 kV6 dc6 pm6 cd6 ct6 : Value}
    {f8 : Addr} {od8 an8 : Option Addr} {sl8 : Array (Option Value)} {oc8 kV8 dc8 pm8 cd8 ct8 : Value}
    {f9 : Addr} {od9 an9 : Option Addr} {sl9 : Array (Option Value)} {oc9 kV9 dc9 pm9 cd9 ct9 : Value}
    {f10 : Addr} {od10 an10 : Option Addr} {sl10 : Array (Option Value)} {oc10 kV10 dc10 pm10 cd10 ct10 : Value}
    {f12 : Addr} {od12 an12 : Option Addr} {sl12 : Array (Option Value)} {oc12 kV12 dc12 pm12 cd12 ct12 : Value}
    {f17 : Addr} {od17 an17 : Option Addr} {sl17 : Array (Option Value)} {oc17 kV17 dc17 pm17 cd17 ct17 : Value}
    {f18 : Addr} {od18 an18 : Option Addr} {sl18 : Array (Option Value)} {oc18 kV18 dc18 pm18 cd18 ct18 : Value}
    {f20 : Addr} {od20 an20 : Option Addr} {sl20 : Array (Option Value)} {oc20 kV20 dc20 pm20 cd20 ct20 : Value}
    {CV : Addr}
    {f7 : Addr} {od7 an7 : Option Addr} {sl7 : Array (Option Value)} {oc7 kV7 dc7 pm7 cd7 ct7 : Value}
    {f11 : Addr} {od11 an11 : Option Addr} {sl11 : Array (Option Value)} {oc11 kV11 dc11 pm11 cd11 ct11 : Value}
    {f13 : Addr} {od13 an13 : Option Addr} {sl13 : Array (Option Value)} {oc13 kV13 dc13 pm13 cd13 ct13 : Value}
    {f14 : Addr} {od14 an14 : Option Addr} {sl14 : Array (Option Value)} {oc14 kV14 dc14 pm14 cd14 ct14 : Value}
    {f15 : Addr} {od15 an15 : Option Addr} {sl15 : Array (Option Value)} {oc15 kV15 dc15 pm15 cd15 ct15 : Value}
    {f16 : Addr} {od16 an16 : Option Addr} {sl16 : Array (Option Value)} {oc16 kV16 dc16 pm16 cd16 ct16 : Value}
    {f19 : Addr} {od19 an19 : Option Addr} {sl19 : Array (Option Value)} {oc19 kV19 dc19 pm19 cd19 ct19 : Value}
    {tk0 : Tok}
    {tk1 : Tok}
    {tk2 : Tok}
    (aL : PySem.W.nsIn K mainGlobals "LateCopyError" = some (some (.ref L)))
    (rL : PySem.W.readsIn K L (.type "type") = true)
    (fL : PySem.W.findCls K (.ref L) (.type "type") "__init__" = some (.val (.builtin "ValueError.__init__")))
    (sL : PySem.W.specialIn K (.ref L) "__getattribute__" = some (some (.builtin "type.__getattribute__")))
    (aC0 : PySem.W.nsIn K mainGlobals "ViewError" = some (some (.ref C0)))
    (xC0 : K.lookup C0 = some (excClassObj nm0 q0 C0 N0 bs0 bm0 true sn0 sub0 ab0 col0 dd0 m00 m10 m20 m30 m50 "ValueError.__new__"))
    (bC0 : PySem.HandSPX.refsVE bm0 = true)
    (sC0 : PySem.W.findIn K (.ref C0) "__setattr__" = some (some (.builtin "object.__setattr__")))
    (eC0 : PySem.W.subIn K (.ref C0) (.type "BaseException") = some true)
    (tC0 : PySem.W.typeIn K (.ref C0) = some (.type "type"))
    (kC0 : PySem.W.keepIn K (.ref C0) = true)
    (ga0 : PySem.W.findIn K (.ref C0) "__getattribute__" = some (some (.builtin "BaseException.__getattribute__")))
    (gg0 : PySem.W.findIn K (.ref C0) "__getattr__" = some none)
    (hd0 : PySem.W.hasDictIn K C0 = true)
    (no0_0 : PySem.W.findIn K (.ref C0) "reason" = some none)
    (aI0 : PySem.W.findIn K (.ref C0) "__init__" = some (some (.ref fI0)))
    (tI0 : PySem.W.typeIn K (.ref fI0) = some (.type "function"))
    (lI0 : K.lookup fI0 = some ⟨ocI0, odI0, .func (PySem.W.fnOf "__init__" "ViewError.__init__" (defArgs s_iViewError) (defBody s_iViewError) (defScope s_iViewError) .none kVI0 dcI0 pmI0 anI0 cdI0 ctI0), slI0⟩)
    (cI0 : PySem.W.codeIn K cdI0 "ViewError.__init__" = true)
    (kI0 : PySem.W.keepIn K (.ref fI0) = true)
    (aC1 : PySem.W.nsIn K mainGlobals "IndexRangeError" = some (some (.ref C1)))
    (xC1 : K.lookup C1 = some (excClassObj nm1 q1 C1 N1 bs1 bm1 true sn1 sub1 ab1 col1 dd1 m01 m11 m21 m31 m51 "ValueError.__new__"))
    (bC1 : PySem.HandSPX.refsVE bm1 = true)
    (sC1 : PySem.W.findIn K (.ref C1) "__setattr__" = some (some (.builtin "object.__setattr__")))
    (eC1 : PySem.W.subIn K (.ref C1) (.type "BaseException") = some true)
    (tC1 : PySem.W.typeIn K (.ref C1) = some (.type "type"))
    (kC1 : PySem.W.keepIn K (.ref C1) = true)
    (ga1 : PySem.W.findIn K (.ref C1) "__getattribute__" = some (some (.builtin "BaseException.__getattribute__")))
    (gg1 : PySem.W.findIn K (.ref C1) "__getattr__" = some none)
    (hd1 : PySem.W.hasDictIn K C1 = true)
    (no1_0 : PySem.W.findIn K (.ref C1) "index" = some none)
    (aI1 : PySem.W.findIn K (.ref C1) "__init__" = some (some (.ref fI1)))
    (tI1 : PySem.W.typeIn K (.ref fI1) = some (.type "function"))
    (lI1 : K.lookup fI1 = some ⟨ocI1, odI1, .func (PySem.W.fnOf "__init__" "IndexRangeError.__init__" (defArgs s_iIndexRangeError) (defBody s_iIndexRangeError) (defScope s_iIndexRangeError) .none kVI1 dcI1 pmI1 anI1 cdI1 ctI1), slI1⟩)
    (cI1 : PySem.W.codeIn K cdI1 "IndexRangeError.__init__" = true)
    (kI1 : PySem.W.keepIn K (.ref fI1) = true)
    (x0_0 : PySem.W.exmOne K (.ref C0) (.ref C0) = some true)
    (x1_0 : PySem.W.exmOne K (.ref C0) (.ref C1) = some false)
    (x0_1 : PySem.W.exmOne K (.ref C1) (.ref C0) = some false)
    (x1_1 : PySem.W.exmOne K (.ref C1) (.ref C1) = some true)
    (igs : PySem.W.specialIn K (.builtin "object.__class__") "__get__" = some (some (.builtin "getset_descriptor.__get__")))
    (itk : PySem.W.takesIn K (.builtin "object.__class__") = some true)
    (icl0 : (PySem.W.clsIn K C0).isSome = true)
    (ica0 : PySem.W.findIn K (.ref C0) "__class__" = some (some (.builtin "object.__class__")))
    (imr0 : PySem.W.mroIn K C0 (.type "object") = some true)
    (kit0_LateCopyError : PySem.W.kitOne K (.ref C0) (.ref L) = some true)
    (icl1 : (PySem.W.clsIn K C1).isSome = true)
    (ica1 : PySem.W.findIn K (.ref C1) "__class__" = some (some (.builtin "object.__class__")))
    (imr1 : PySem.W.mroIn K C1 (.type "object") = some true)
    (kit1_LateCopyError : PySem.W.kitOne K (.ref C1) (.ref L) = some true)
    (a0 : PySem.W.nsIn K mainGlobals "_law_draws" = some (some (.ref f0)))
    (l0 : K.lookup f0 = some ⟨oc0, od0, .func (PySem.W.fnOf "_law_draws" "_law_draws" (defArgs s_law_draws) (defBody s_law_draws) (defScope s_law_draws) .none kV0 dc0 pm0 an0 cd0 ct0), sl0⟩)
    (c0 : PySem.W.codeIn K cd0 "_law_draws" = true)
    (k0 : PySem.W.keepIn K (.ref f0) = true)
    (a1 : PySem.W.nsIn K mainGlobals "_law_mixed" = some (some (.ref f1)))
    (l1 : K.lookup f1 = some ⟨oc1, od1, .func (PySem.W.fnOf "_law_mixed" "_law_mixed" (defArgs s_law_mixed) (defBody s_law_mixed) (defScope s_law_mixed) .none kV1 dc1 pm1 an1 cd1 ct1), sl1⟩)
    (c1 : PySem.W.codeIn K cd1 "_law_mixed" = true)
    (k1 : PySem.W.keepIn K (.ref f1) = true)
    (a2 : PySem.W.nsIn K mainGlobals "_law_take" = some (some (.ref f2)))
    (l2 : K.lookup f2 = some ⟨oc2, od2, .func (PySem.W.fnOf "_law_take" "_law_take" (defArgs s_law_take) (defBody s_law_take) (defScope s_law_take) .none kV2 dc2 pm2 an2 cd2 ct2), sl2⟩)
    (c2 : PySem.W.codeIn K cd2 "_law_take" = true)
    (k2 : PySem.W.keepIn K (.ref f2) = true)
    (a3 : PySem.W.nsIn K mainGlobals "_law_parts" = some (some (.ref f3)))
    (l3 : K.lookup f3 = some ⟨oc3, od3, .func (PySem.W.fnOf "_law_parts" "_law_parts" (defArgs s_law_parts) (defBody s_law_parts) (defScope s_law_parts) .none kV3 dc3 pm3 an3 cd3 ct3), sl3⟩)
    (c3 : PySem.W.codeIn K cd3 "_law_parts" = true)
    (k3 : PySem.W.keepIn K (.ref f3) = true)
    (a4 : PySem.W.nsIn K mainGlobals "product_of" = some (some (.ref f4)))
    (l4 : K.lookup f4 = some ⟨oc4, od4, .func (PySem.W.fnOf "product_of" "product_of" (defArgs s_product_of) (defBody s_product_of) (defScope s_product_of) .none kV4 dc4 pm4 an4 cd4 ct4), sl4⟩)
    (c4 : PySem.W.codeIn K cd4 "product_of" = true)
    (k4 : PySem.W.keepIn K (.ref f4) = true)
    (a5 : PySem.W.nsIn K mainGlobals "ends_of" = some (some (.ref f5)))
    (l5 : K.lookup f5 = some ⟨oc5, od5, .func (PySem.W.fnOf "ends_of" "ends_of" (defArgs s_ends_of) (defBody s_ends_of) (defScope s_ends_of) .none kV5 dc5 pm5 an5 cd5 ct5), sl5⟩)
    (c5 : PySem.W.codeIn K cd5 "ends_of" = true)
    (k5 : PySem.W.keepIn K (.ref f5) = true)
    (a6 : PySem.W.nsIn K mainGlobals "view_reason" = some (some (.ref f6)))
    (l6 : K.lookup f6 = some ⟨oc6, od6, .func (PySem.W.fnOf "view_reason" "view_reason" (defArgs s_view_reason) (defBody s_view_reason) (defScope s_view_reason) .none kV6 dc6 pm6 an6 cd6 ct6), sl6⟩)
    (c6 : PySem.W.codeIn K cd6 "view_reason" = true)
    (k6 : PySem.W.keepIn K (.ref f6) = true)
    (a8 : PySem.W.nsIn K mainGlobals "_law_indices" = some (some (.ref f8)))
    (l8 : K.lookup f8 = some ⟨oc8, od8, .func (PySem.W.fnOf "_law_indices" "_law_indices" (defArgs s_law_indices) (defBody s_law_indices) (defScope s_law_indices) .none kV8 dc8 pm8 an8 cd8 ct8), sl8⟩)
    (c8 : PySem.W.codeIn K cd8 "_law_indices" = true)
    (k8 : PySem.W.keepIn K (.ref f8) = true)
    (a9 : PySem.W.nsIn K mainGlobals "_law_cells" = some (some (.ref f9)))
    (l9 : K.lookup f9 = some ⟨oc9, od9, .func (PySem.W.fnOf "_law_cells" "_law_cells" (defArgs s_law_cells) (defBody s_law_cells) (defScope s_law_cells) .none kV9 dc9 pm9 an9 cd9 ct9), sl9⟩)
    (c9 : PySem.W.codeIn K cd9 "_law_cells" = true)
    (k9 : PySem.W.keepIn K (.ref f9) = true)
    (a10 : PySem.W.nsIn K mainGlobals "cells_of" = some (some (.ref f10)))
    (l10 : K.lookup f10 = some ⟨oc10, od10, .func (PySem.W.fnOf "cells_of" "cells_of" (defArgs s_cells_of) (defBody s_cells_of) (defScope s_cells_of) .none kV10 dc10 pm10 an10 cd10 ct10), sl10⟩)
    (c10 : PySem.W.codeIn K cd10 "cells_of" = true)
    (k10 : PySem.W.keepIn K (.ref f10) = true)
    (a12 : PySem.W.nsIn K mainGlobals "_law_same" = some (some (.ref f12)))
    (l12 : K.lookup f12 = some ⟨oc12, od12, .func (PySem.W.fnOf "_law_same" "_law_same" (defArgs s_law_same) (defBody s_law_same) (defScope s_law_same) .none kV12 dc12 pm12 an12 cd12 ct12), sl12⟩)
    (c12 : PySem.W.codeIn K cd12 "_law_same" = true)
    (k12 : PySem.W.keepIn K (.ref f12) = true)
    (a17 : PySem.W.nsIn K mainGlobals "_law_wrong_index" = some (some (.ref f17)))
    (l17 : K.lookup f17 = some ⟨oc17, od17, .func (PySem.W.fnOf "_law_wrong_index" "_law_wrong_index" (defArgs s_law_wrong_index) (defBody s_law_wrong_index) (defScope s_law_wrong_index) .none kV17 dc17 pm17 an17 cd17 ct17), sl17⟩)
    (c17 : PySem.W.codeIn K cd17 "_law_wrong_index" = true)
    (k17 : PySem.W.keepIn K (.ref f17) = true)
    (a18 : PySem.W.nsIn K mainGlobals "_law_refused" = some (some (.ref f18)))
    (l18 : K.lookup f18 = some ⟨oc18, od18, .func (PySem.W.fnOf "_law_refused" "_law_refused" (defArgs s_law_refused) (defBody s_law_refused) (defScope s_law_refused) .none kV18 dc18 pm18 an18 cd18 ct18), sl18⟩)
    (c18 : PySem.W.codeIn K cd18 "_law_refused" = true)
    (k18 : PySem.W.keepIn K (.ref f18) = true)
    (a20 : PySem.W.nsIn K mainGlobals "law" = some (some (.ref f20)))
    (l20 : K.lookup f20 = some ⟨oc20, od20, .func (PySem.W.fnOf "law" "law" (defArgs s_law) (defBody s_law) (defScope s_law) .none kV20 dc20 pm20 an20 cd20 ct20), sl20⟩)
    (c20 : PySem.W.codeIn K cd20 "law" = true)
    (k20 : PySem.W.keepIn K (.ref f20) = true)
    (z_abs : PySem.W.nsIn K mainGlobals "abs" = some none)
    (z_all : PySem.W.nsIn K mainGlobals "all" = some none)
    (z_any : PySem.W.nsIn K mainGlobals "any" = some none)
    (z_bool : PySem.W.nsIn K mainGlobals "bool" = some none)
    (z_int : PySem.W.nsIn K mainGlobals "int" = some none)
    (z_isinstance : PySem.W.nsIn K mainGlobals "isinstance" = some none)
    (z_len : PySem.W.nsIn K mainGlobals "len" = some none)
    (z_list : PySem.W.nsIn K mainGlobals "list" = some none)
    (z_max : PySem.W.nsIn K mainGlobals "max" = some none)
    (z_min : PySem.W.nsIn K mainGlobals "min" = some none)
    (z_range : PySem.W.nsIn K mainGlobals "range" = some none)
    (z_sum : PySem.W.nsIn K mainGlobals "sum" = some none)
    (z_tuple : PySem.W.nsIn K mainGlobals "tuple" = some none)
    (z_zip : PySem.W.nsIn K mainGlobals "zip" = some none)
    (cvg : PySem.W.nsIn K mainGlobals "View" = some (some (.ref CV)))
    (cvp : PySem.W.plainGet K CV Str.empty = true)
    (cvh : PySem.W.hasDictIn K CV = true)
    (cvo : PySem.W.plainOver K CV = true)
    (cvs : PySem.W.findIn K (.ref CV) "__setattr__" = some (some (.builtin "object.__setattr__")))
    (cvm : PySem.W.makesIn K CV = true)
    (cvk : PySem.W.keepIn K (.ref CV) = true)
    (cvf0 : PySem.W.findIn K (.ref CV) "offset" = some none)
    (cvf1 : PySem.W.findIn K (.ref CV) "shape" = some none)
    (cvf2 : PySem.W.findIn K (.ref CV) "strides" = some none)
    (a7 : PySem.W.findIn K (.ref CV) "__init__" = some (some (.ref f7)))
    (t7 : PySem.W.isFn K (.ref f7) = true)
    (l7 : K.lookup f7 = some ⟨oc7, od7, .func (PySem.W.fnOf "__init__" "View.__init__" (defArgs s_View_init) (defBody s_View_init) (defScope s_View_init) .none kV7 dc7 pm7 an7 cd7 ct7), sl7⟩)
    (c7 : PySem.W.codeIn K cd7 "View.__init__" = true)
    (k7 : PySem.W.keepIn K (.ref f7) = true)
    (a11 : PySem.W.findIn K (.ref CV) "cells" = some (some (.ref f11)))
    (t11 : PySem.W.isFn K (.ref f11) = true)
    (l11 : K.lookup f11 = some ⟨oc11, od11, .func (PySem.W.fnOf "cells" "View.cells" (defArgs s_View_cells) (defBody s_View_cells) (defScope s_View_cells) .none kV11 dc11 pm11 an11 cd11 ct11), sl11⟩)
    (c11 : PySem.W.codeIn K cd11 "View.cells" = true)
    (k11 : PySem.W.keepIn K (.ref f11) = true)
    (a13 : PySem.W.findIn K (.ref CV) "size" = some (some (.ref f13)))
    (t13 : PySem.W.isFn K (.ref f13) = true)
    (l13 : K.lookup f13 = some ⟨oc13, od13, .func (PySem.W.fnOf "size" "View.size" (defArgs s_View_size) (defBody s_View_size) (defScope s_View_size) .none kV13 dc13 pm13 an13 cd13 ct13), sl13⟩)
    (c13 : PySem.W.codeIn K cd13 "View.size" = true)
    (k13 : PySem.W.keepIn K (.ref f13) = true)
    (a14 : PySem.W.findIn K (.ref CV) "lowest" = some (some (.ref f14)))
    (t14 : PySem.W.isFn K (.ref f14) = true)
    (l14 : K.lookup f14 = some ⟨oc14, od14, .func (PySem.W.fnOf "lowest" "View.lowest" (defArgs s_View_lowest) (defBody s_View_lowest) (defScope s_View_lowest) .none kV14 dc14 pm14 an14 cd14 ct14), sl14⟩)
    (c14 : PySem.W.codeIn K cd14 "View.lowest" = true)
    (k14 : PySem.W.keepIn K (.ref f14) = true)
    (a15 : PySem.W.findIn K (.ref CV) "highest" = some (some (.ref f15)))
    (t15 : PySem.W.isFn K (.ref f15) = true)
    (l15 : K.lookup f15 = some ⟨oc15, od15, .func (PySem.W.fnOf "highest" "View.highest" (defArgs s_View_highest) (defBody s_View_highest) (defScope s_View_highest) .none kV15 dc15 pm15 an15 cd15 ct15), sl15⟩)
    (c15 : PySem.W.codeIn K cd15 "View.highest" = true)
    (k15 : PySem.W.keepIn K (.ref f15) = true)
    (a16 : PySem.W.findIn K (.ref CV) "cell" = some (some (.ref f16)))
    (t16 : PySem.W.isFn K (.ref f16) = true)
    (l16 : K.lookup f16 = some ⟨oc16, od16, .func (PySem.W.fnOf "cell" "View.cell" (defArgs s_View_cell) (defBody s_View_cell) (defScope s_View_cell) .none kV16 dc16 pm16 an16 cd16 ct16), sl16⟩)
    (c16 : PySem.W.codeIn K cd16 "View.cell" = true)
    (k16 : PySem.W.keepIn K (.ref f16) = true)
    (a19 : PySem.W.findIn K (.ref CV) "parts" = some (some (.ref f19)))
    (t19 : PySem.W.isFn K (.ref f19) = true)
    (l19 : K.lookup f19 = some ⟨oc19, od19, .func (PySem.W.fnOf "parts" "View.parts" (defArgs s_View_parts) (defBody s_View_parts) (defScope s_View_parts) .none kV19 dc19 pm19 an19 cd19 ct19), sl19⟩)
    (c19 : PySem.W.codeIn K cd19 "View.parts" = true)
    (k19 : PySem.W.keepIn K (.ref f19) = true)
    (g0 : PySem.W.nsIn K mainGlobals "AXES" = some (some (.int 4 tk0)))
    (g1 : PySem.W.nsIn K mainGlobals "ELEMENTS" = some (some (.int 64 tk1)))
    (g2 : PySem.W.nsIn K mainGlobals "LAST_CELL" = some (some (.int 63 tk2)))
    : ∃ fd : FuncData, (∀ (s : Shared) (v : Value), BindsTo s fd ⟨[v], []⟩ [("_law_script", v)]) ∧ ∀ base : Heap, K.In base → base.Ns mainGlobals mg → FnOk P w K mg base (L2.CX P w) 6 fa fd ["_law_script"] (spLaw K) := by
  have e := hfa.symm.trans (PySem.W.mg_of X G a20)
  cases e
  have T0 : LcT K mg L := ⟨PySem.W.mg_of X G aL, rL, fL, sL⟩
  have TE0 : OexC K C0 := ⟨⟨_, _, _, _, _, _, _, _, _, _, _, _, _, _, _, xC0, bC0⟩, sC0, eC0, tC0, kC0⟩
  have no0 : ∀ f ∈ [("reason" : Str)], PySem.W.findIn K (.ref C0) f = some none := by
    intro f hf
    simp only [List.mem_cons, List.not_mem_nil, or_false] at hf
    rcases hf with rfl
    · exact no0_0
  have FI0 := fun_mk (st := s_iViewError) lI0 cI0 kI0
  have bI0 := FI0.binds (ps := ["self", "reason"]) fun _ _ _ _ _ _ us hl => match us, hl with | [_, _], _ => rfl
  have TE1 : OexC K C1 := ⟨⟨_, _, _, _, _, _, _, _, _, _, _, _, _, _, _, xC1, bC1⟩, sC1, eC1, tC1, kC1⟩
  have no1 : ∀ f ∈ [("index" : Str)], PySem.W.findIn K (.ref C1) f = some none := by
    intro f hf
    simp only [List.mem_cons, List.not_mem_nil, or_false] at hf
    rcases hf with rfl
    · exact no1_0
  have FI1 := fun_mk (st := s_iIndexRangeError) lI1 cI1 kI1
  have bI1 := FI1.binds (ps := ["self", "index"]) fun _ _ _ _ _ _ us hl => match us, hl with | [_, _], _ => rfl
  have F0 := fun_mk (st := s_law_draws) l0 c0 k0
  have F1 := fun_mk (st := s_law_mixed) l1 c1 k1
  have F2 := fun_mk (st := s_law_take) l2 c2 k2
  have F3 := fun_mk (st := s_law_parts) l3 c3 k3
  have F4 := fun_mk (st := s_product_of) l4 c4 k4
  have F5 := fun_mk (st := s_ends_of) l5 c5 k5
  have F6 := fun_mk (st := s_view_reason) l6 c6 k6
  have F7 := fun_mk (st := s_View_init) l7 c7 k7
  have F8 := fun_mk (st := s_law_indices) l8 c8 k8
  have F9 := fun_mk (st := s_law_cells) l9 c9 k9
  have F10 := fun_mk (st := s_cells_of) l10 c10 k10
  have F11 := fun_mk (st := s_View_cells) l11 c11 k11
  have F12 := fun_mk (st := s_law_same) l12 c12 k12
  have F13 := fun_mk (st := s_View_size) l13 c13 k13
  have F14 := fun_mk (st := s_View_lowest) l14 c14 k14
  have F15 := fun_mk (st := s_View_highest) l15 c15 k15
  have F16 := fun_mk (st := s_View_cell) l16 c16 k16
  have F17 := fun_mk (st := s_law_wrong_index) l17 c17 k17
  have F18 := fun_mk (st := s_law_refused) l18 c18 k18
  have F19 := fun_mk (st := s_View_parts) l19 c19 k19
  have F20 := fun_mk (st := s_law) l20 c20 k20
  let C : Ca := ⟨(fun e => match e with
      | .ViewError => C0
      | .IndexRangeError => C1
      | _ => L), [.ViewError, .IndexRangeError], L, CV⟩
  refine ⟨PySem.W.fnOf "law" "law" (defArgs s_law) (defBody s_law) (defScope s_law) .none kV20 dc20 pm20 an20 cd20 ct20, fun s v => .of_eq rfl, fun base _ _ => ?_⟩
  have T : Txt P w K mg base C :=
    { f_law_draws := ⟨_, _, F0, PySem.W.mg_of X G a0⟩
      f_law_mixed := ⟨_, _, F1, PySem.W.mg_of X G a1⟩
      f_law_take := ⟨_, _, F2, PySem.W.mg_of X G a2⟩
      f_law_parts := ⟨_, _, F3, PySem.W.mg_of X G a3⟩
      f_product_of := ⟨_, _, F4, PySem.W.mg_of X G a4⟩
      f_ends_of := ⟨_, _, F5, PySem.W.mg_of X G a5⟩
      f_view_reason := ⟨_, _, F6, PySem.W.mg_of X G a6⟩
      f_law_indices := ⟨_, _, F8, PySem.W.mg_of X G a8⟩
      f_law_cells := ⟨_, _, F9, PySem.W.mg_of X G a9⟩
      f_cells_of := ⟨_, _, F10, PySem.W.mg_of X G a10⟩
      f_law_same := ⟨_, _, F12, PySem.W.mg_of X G a12⟩
      f_law_wrong_index := ⟨_, _, F17, PySem.W.mg_of X G a17⟩
      f_law_refused := ⟨_, _, F18, PySem.W.mg_of X G a18⟩
      f_law := ⟨_, _, F20, PySem.W.mg_of X G a20⟩
      b_abs := PySem.W.mg_none_of X G z_abs
      b_all := PySem.W.mg_none_of X G z_all
      b_any := PySem.W.mg_none_of X G z_any
      b_bool := PySem.W.mg_none_of X G z_bool
      b_int := PySem.W.mg_none_of X G z_int
      b_isinstance := PySem.W.mg_none_of X G z_isinstance
      b_len := PySem.W.mg_none_of X G z_len
      b_list := PySem.W.mg_none_of X G z_list
      b_max := PySem.W.mg_none_of X G z_max
      b_min := PySem.W.mg_none_of X G z_min
      b_range := PySem.W.mg_none_of X G z_range
      b_sum := PySem.W.mg_none_of X G z_sum
      b_tuple := PySem.W.mg_none_of X G z_tuple
      b_zip := PySem.W.mg_none_of X G z_zip
      e_ViewError := ⟨PySem.W.mg_of X G aC0, TE0, ⟨ga0, gg0, eC0, hd0⟩, no0, _, _, aI0, tI0, ini_ViewError FI0 T0 TE0 no0, bI0⟩
      e_IndexRangeError := ⟨PySem.W.mg_of X G aC1, TE1, ⟨ga1, gg1, eC1, hd1⟩, no1, _, _, aI1, tI1, ini_IndexRangeError FI1 T0 TE1 no1, bI1⟩
      x_IndexRangeError := Ca.t_ok (P := fun c b => PySem.W.exmOne K (.ref c) (.ref C1) = some b) (by
        intro e he
        replace he : e ∈ [Er.ViewError, Er.IndexRangeError] := he
        simp only [List.mem_cons, List.not_mem_nil, or_false] at he
        rcases he with rfl | rfl
        · exact x1_0
        · exact x1_1)
      es := rfl
      inj := by
        intro e he f hf q
        replace he : e ∈ [Er.ViewError, Er.IndexRangeError] := he
        replace hf : f ∈ [Er.ViewError, Er.IndexRangeError] := hf
        simp only [List.mem_cons, List.not_mem_nil, or_false] at he hf
        rcases he with rfl | rfl <;> rcases hf with rfl | rfl
        · rfl
        · exfalso; have q2 : C0 = C1 := q; have h0 := x0_0; have h1 := x0_1; rw [← q2, h0] at h1; cases h1
        · exfalso; have q2 : C0 = C1 := q.symm; have h0 := x0_0; have h1 := x0_1; rw [← q2, h0] at h1; cases h1
        · rfl
      gc_LateCopyError := PySem.W.mg_of X G aL
      is_LateCopyError := Ca.tL_ok (P := fun c b => IsC K c ∧ PySem.W.kitOne K (.ref c) (.ref L) = some b) (by
        intro e he
        replace he : e ∈ [Er.ViewError, Er.IndexRangeError] := he
        simp only [List.mem_cons, List.not_mem_nil, or_false] at he
        rcases he with rfl | rfl
        · exact ⟨⟨icl0, ga0, gg0, eC0, ica0, igs, itk, imr0⟩, kit0_LateCopyError⟩
        · exact ⟨⟨icl1, ga1, gg1, eC1, ica1, igs, itk, imr1⟩, kit1_LateCopyError⟩)
      g_AXES := ⟨_, gc_int (PySem.W.mg_of X G g0)⟩
      g_ELEMENTS := ⟨_, gc_int (PySem.W.mg_of X G g1)⟩
      g_LAST_CELL := ⟨_, gc_int (PySem.W.mg_of X G g2)⟩
      c_View := ⟨PySem.W.mg_of X G cvg, ⟨cvp, cvh, cvo, cvs⟩, cvm, cvk, (by
        intro f hf
        simp only [List.mem_cons, List.not_mem_nil, or_false] at hf
        rcases hf with rfl | rfl | rfl
        · exact cvf0
        · exact cvf1
        · exact cvf2)⟩
      m_View_init := ⟨_, _, F7, ⟨a7, t7, k7⟩⟩
      m_View_cells := ⟨_, _, F11, ⟨a11, t11, k11⟩⟩
      m_View_size := ⟨_, _, F13, ⟨a13, t13, k13⟩⟩
      m_View_lowest := ⟨_, _, F14, ⟨a14, t14, k14⟩⟩
      m_View_highest := ⟨_, _, F15, ⟨a15, t15, k15⟩⟩
      m_View_cell := ⟨_, _, F16, ⟨a16, t16, k16⟩⟩
      m_View_parts := ⟨_, _, F19, ⟨a19, t19, k19⟩⟩ }
  exact ok_law T F20 (fun A ns he hi hl => hm_holds A ns he hi hl)
end K03
open PySem PySem.W PyProof.Rows
set_option maxRecDepth 100000 in
set_option maxHeartbeats 0 in
theorem PySem.Challenge.cw_latecopy_k03_cells_of_indices_holds : PySem.Challenge.rw_latecopy_k03_cells_of_indices.Holds := by
  w_on; o_law; k_head; (case hw => w_witness2)
  k_fill
  refine L2.walk_of (l := PySem.Challenge.rw_latecopy_k03_cells_of_indices) (n := 63) (k := 6) (x := "_law_script") (CX := fun w => L2.CX PySem.Challenge.rw_latecopy_k03_cells_of_indices.prog w) (sp := fun w => Mr.spLaw _) rfl (by decide) rfl ⟨rfl, by decide, by decide⟩ (fun w h Y => PySem.W.kIn_of Y) ?F (fun _ _ a ns hl _ hS => ⟨a, ns, rfl, hS, hl, fun _ => rfl⟩) (fun w H s e s2 z => Mr.noCX z)
  case F =>
    intro w mg fa h KX G hmg
    refine' K03.all_mk KX G hmg ?ZaL ?ZrL ?ZfL ?ZsL ?ZaC0 ?ZxC0 ?ZbC0 ?ZsC0 ?ZeC0 ?ZtC0 ?ZkC0 ?Zga0 ?Zgg0 ?Zhd0 ?Zno0_0 ?ZaI0 ?ZtI0 ?ZlI0 ?ZcI0 ?ZkI0 ?ZaC1 ?ZxC1 ?ZbC1 ?ZsC1 ?ZeC1 ?ZtC1 ?ZkC1 ?Zga1 ?Zgg1 ?Zhd1 ?Zno1_0 ?ZaI1 ?ZtI1 ?ZlI1 ?ZcI1 ?ZkI1 ?Zx0_0 ?Zx1_0 ?Zx0_1 ?Zx1_1 ?Zigs ?Zitk ?Zicl0 ?Zica0 ?Zimr0 ?Zkit0_LateCopyError ?Zicl1 ?Zica1 ?Zimr1 ?Zkit1_LateCopyError ?Za0 ?Zl0 ?Zc0 ?Zk0 ?Za1 ?Zl1 ?Zc1 ?Zk1 ?Za2 ?Zl2 ?Zc2 ?Zk2 ?Za3 ?Zl3 ?Zc3 ?Zk3 ?Za4 ?Zl4 ?Zc4 ?Zk4 ?Za5 ?Zl5 ?Zc5 ?Zk5 ?Za6 ?Zl6 ?Zc6 ?Zk6 ?Za8 ?Zl8 ?Zc8 ?Zk8 ?Za9 ?Zl9 ?Zc9 ?Zk9 ?Za10 ?Zl10 ?Zc10 ?Zk10 ?Za12 ?Zl12 ?Zc12 ?Zk12 ?Za17 ?Zl17 ?Zc17 ?Zk17 ?Za18 ?Zl18 ?Zc18 ?Zk18 ?Za20 ?Zl20 ?Zc20 ?Zk20 ?Zz_abs ?Zz_all ?Zz_any ?Zz_bool ?Zz_int ?Zz_isinstance ?Zz_len ?Zz_list ?Zz_max ?Zz_min ?Zz_range ?Zz_sum ?Zz_tuple ?Zz_zip ?Zcvg ?Zcvp ?Zcvh ?Zcvo ?Zcvs ?Zcvm ?Zcvk ?Zcvf0 ?Zcvf1 ?Zcvf2 ?Za7 ?Zt7 ?Zl7 ?Zc7 ?Zk7 ?Za11 ?Zt11 ?Zl11 ?Zc11 ?Zk11 ?Za13 ?Zt13 ?Zl13 ?Zc13 ?Zk13 ?Za14 ?Zt14 ?Zl14 ?Zc14 ?Zk14 ?Za15 ?Zt15 ?Zl15 ?Zc15 ?Zk15 ?Za16 ?Zt16 ?Zl16 ?Zc16 ?Zk16 ?Za19 ?Zt19 ?Zl19 ?Zc19 ?Zk19 ?Zg0 ?Zg1 ?Zg2
    (case ZaL => k_is)
    (case ZrL => k_is)
    (case ZfL => k_is)
    (case ZsL => k_is)
    (case ZaC0 => k_is)
    (case ZxC0 => first | k_is | decide +kernel | rfl)
    (case ZbC0 => first | k_is | decide +kernel | rfl)
    (case ZsC0 => k_is)
    (case ZeC0 => k_is)
    (case ZtC0 => k_is)
    (case ZkC0 => first | k_is | decide +kernel | rfl)
    (case Zga0 => k_is)
    (case Zgg0 => k_is)
    (case Zhd0 => k_is)
    (case Zno0_0 => k_is)
    (case ZaI0 => k_is)
    (case ZtI0 => k_is)
    (case ZlI0 => k_is)
    (case ZcI0 => k_is)
    (case ZkI0 => first | k_is | decide +kernel | rfl)
    (case ZaC1 => k_is)
    (case ZxC1 => first | k_is | decide +kernel | rfl)
    (case ZbC1 => first | k_is | decide +kernel | rfl)
    (case ZsC1 => k_is)
    (case ZeC1 => k_is)
    (case ZtC1 => k_is)
    (case ZkC1 => first | k_is | decide +kernel | rfl)
    (case Zga1 => k_is)
    (case Zgg1 => k_is)
    (case Zhd1 => k_is)
    (case Zno1_0 => k_is)
    (case ZaI1 => k_is)
    (case ZtI1 => k_is)
    (case ZlI1 => k_is)
    (case ZcI1 => k_is)
    (case ZkI1 => first | k_is | decide +kernel | rfl)
    (case Zx0_0 => first | k_is | decide +kernel | rfl)
    (case Zx1_0 => first | k_is | decide +kernel | rfl)
    (case Zx0_1 => first | k_is | decide +kernel | rfl)
    (case Zx1_1 => first | k_is | decide +kernel | rfl)
    (case Zigs => first | k_is | decide +kernel | rfl)
    (case Zitk => first | k_is | decide +kernel | rfl)
    (case Zicl0 => first | k_is | decide +kernel | rfl)
    (case Zica0 => first | k_is | decide +kernel | rfl)
    (case Zimr0 => first | k_is | decide +kernel | rfl)
    (case Zkit0_LateCopyError => first | k_is | decide +kernel | rfl)
    (case Zicl1 => first | k_is | decide +kernel | rfl)
    (case Zica1 => first | k_is | decide +kernel | rfl)
    (case Zimr1 => first | k_is | decide +kernel | rfl)
    (case Zkit1_LateCopyError => first | k_is | decide +kernel | rfl)
    (case Za0 => k_is)
    (case Zl0 => k_is)
    (case Zc0 => k_is)
    (case Zk0 => first | k_is | decide +kernel | rfl)
    (case Za1 => k_is)
    (case Zl1 => k_is)
    (case Zc1 => k_is)
    (case Zk1 => first | k_is | decide +kernel | rfl)
    (case Za2 => k_is)
    (case Zl2 => k_is)
    (case Zc2 => k_is)
    (case Zk2 => first | k_is | decide +kernel | rfl)
    (case Za3 => k_is)
    (case Zl3 => k_is)
    (case Zc3 => k_is)
    (case Zk3 => first | k_is | decide +kernel | rfl)
    (case Za4 => k_is)
    (case Zl4 => k_is)
    (case Zc4 => k_is)
    (case Zk4 => first | k_is | decide +kernel | rfl)
    (case Za5 => k_is)
    (case Zl5 => k_is)
    (case Zc5 => k_is)
    (case Zk5 => first | k_is | decide +kernel | rfl)
    (case Za6 => k_is)
    (case Zl6 => k_is)
    (case Zc6 => k_is)
    (case Zk6 => first | k_is | decide +kernel | rfl)
    (case Za8 => k_is)
    (case Zl8 => k_is)
    (case Zc8 => k_is)
    (case Zk8 => first | k_is | decide +kernel | rfl)
    (case Za9 => k_is)
    (case Zl9 => k_is)
    (case Zc9 => k_is)
    (case Zk9 => first | k_is | decide +kernel | rfl)
    (case Za10 => k_is)
    (case Zl10 => k_is)
    (case Zc10 => k_is)
    (case Zk10 => first | k_is | decide +kernel | rfl)
    (case Za12 => k_is)
    (case Zl12 => k_is)
    (case Zc12 => k_is)
    (case Zk12 => first | k_is | decide +kernel | rfl)
    (case Za17 => k_is)
    (case Zl17 => k_is)
    (case Zc17 => k_is)
    (case Zk17 => first | k_is | decide +kernel | rfl)
    (case Za18 => k_is)
    (case Zl18 => k_is)
    (case Zc18 => k_is)
    (case Zk18 => first | k_is | decide +kernel | rfl)
    (case Za20 => k_is)
    (case Zl20 => k_is)
    (case Zc20 => k_is)
    (case Zk20 => first | k_is | decide +kernel | rfl)
    (case Zz_abs => k_is)
    (case Zz_all => k_is)
    (case Zz_any => k_is)
    (case Zz_bool => k_is)
    (case Zz_int => k_is)
    (case Zz_isinstance => k_is)
    (case Zz_len => k_is)
    (case Zz_list => k_is)
    (case Zz_max => k_is)
    (case Zz_min => k_is)
    (case Zz_range => k_is)
    (case Zz_sum => k_is)
    (case Zz_tuple => k_is)
    (case Zz_zip => k_is)
    (case Zcvg => k_is)
    (case Zcvp => k_is)
    (case Zcvh => k_is)
    (case Zcvo => k_is)
    (case Zcvs => k_is)
    (case Zcvm => k_is)
    (case Zcvk => k_is)
    (case Zcvf0 => k_is)
    (case Zcvf1 => k_is)
    (case Zcvf2 => k_is)
    (case Za7 => k_is)
    (case Zt7 => k_is)
    (case Zl7 => k_is)
    (case Zc7 => k_is)
    (case Zk7 => first | k_is | decide +kernel | rfl)
    (case Za11 => k_is)
    (case Zt11 => k_is)
    (case Zl11 => k_is)
    (case Zc11 => k_is)
    (case Zk11 => first | k_is | decide +kernel | rfl)
    (case Za13 => k_is)
    (case Zt13 => k_is)
    (case Zl13 => k_is)
    (case Zc13 => k_is)
    (case Zk13 => first | k_is | decide +kernel | rfl)
    (case Za14 => k_is)
    (case Zt14 => k_is)
    (case Zl14 => k_is)
    (case Zc14 => k_is)
    (case Zk14 => first | k_is | decide +kernel | rfl)
    (case Za15 => k_is)
    (case Zt15 => k_is)
    (case Zl15 => k_is)
    (case Zc15 => k_is)
    (case Zk15 => first | k_is | decide +kernel | rfl)
    (case Za16 => k_is)
    (case Zt16 => k_is)
    (case Zl16 => k_is)
    (case Zc16 => k_is)
    (case Zk16 => first | k_is | decide +kernel | rfl)
    (case Za19 => k_is)
    (case Zt19 => k_is)
    (case Zl19 => k_is)
    (case Zc19 => k_is)
    (case Zk19 => first | k_is | decide +kernel | rfl)
    (case Zg0 => k_is)
    (case Zg1 => k_is)
    (case Zg2 => k_is)

