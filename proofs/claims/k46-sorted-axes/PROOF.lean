import PyProof.Rows.All
import Wide.All
import OpenK.AllK
import Wide.FinOn
import HandS.ForMost
import HandS.ForExc
import HandS.Flow
import HandS.Wide
import HandS.WideMore
import HandS.IsInst
import HandS.CallSlots
import HandS.ExcInit
import HandS.FStr
import HandS.Style
import HandS.Conv
import HandS.SortInts
import HandS.Defaults
import HandS.TupAny
import HandS.Zip
import HandS.Rev
import HandS.FStrTup
import HandS.ExcField
import HandS.HotCalls
import KE.KExcIs
import KE.DataFind
import HandS.OwnEq
import HandS.Deep
import HandS.SetKeys
import KE.KRevSl
import HandS.Iter
import HandS.More
import PyProof.ListNew
import KE.KItemsList
import HandS.TryOnly
import HandS.WordsDict
import HandS.DictComp
import PyProof.Rows.SortShellAny
import KE.KDictZip
import HandS.SetFor
import HandS.SortRule
import KE.KUnpack
import HandS.NamedTupGet
import HandS.DictTup
import HandS.Comp
import HandS.TupMul
import KE.KIntText
import PySem.Challenge.RW_latecopy_k46_sorted_axes
set_option Elab.async false
set_option linter.all false
set_option autoImplicit false
set_option maxRecDepth 100000
set_option maxHeartbeats 4000000
namespace Mr
open PySem PySem.Spec PyProof.Rows L2
inductive D where
  | non | bl (b : Bool) | int (i : Int) | str (x : Str)
  | lst (xs : List D) | tup (xs : List D)
  | ref (a : Addr) | ty (n : String)
  | ins (C : Addr) (fs : List (Str × D))
  | dct (kvs : List (Key × D))
  | obj (n : Nat)
/-- what is known for good of an address: what stands there and never changes; or that it is the n-th thing of the store -/
inductive GO where
  | fro (o : HO) | mk (n : Nat) | mkf (n : Nat) (o : HO)
abbrev Gh := Addr → Option GO
/-- a is the n-th thing of the store -/
def Mkk (G : Gh) (a : Addr) (n : Nat) : Prop := G a = some (.mk n) ∨ ∃ o, G a = some (.mkf n o)
/-- what never changes -/
def fr (G : Gh) : Hp := fun a => match G a with
  | some (.fro o) => some o
  | _ => none
/-- a tuple that stands in the heap, or (written in the text, perhaps) one with a thing that is no int -/
def SqC (K : PySem.W.Frag) (H : Hp) (a : Addr) (xs : List V) : Prop := H a = some (.tup xs) ∨ SqT K H a xs ∧ ∃ x ∈ xs, ∀ i, x ≠ V.int i
theorem SqC.sq {K : PySem.W.Frag} {H : Hp} {a : Addr} {xs : List V} (h : SqC K H a xs) : SqT K H a xs := h.elim (fun e => .inl (.inl e)) (·.1)
mutual
inductive Rep (K : PySem.W.Frag) (G : Gh) : V → D → Prop
  | non : Rep K G .non .non
  | bl (b : Bool) : Rep K G (.bl b) (.bl b)
  | int (i : Int) : Rep K G (.int i) (.int i)
  | str (x : Str) : Rep K G (.str x) (.str x)
  | lst {a : Addr} {vs : List V} {ds : List D} : SqL K (fr G) a vs → Reps K G vs ds → Rep K G (.ref a) (.lst ds)
  | tup {a : Addr} {vs : List V} {ds : List D} : SqC K (fr G) a vs → Reps K G vs ds → Rep K G (.ref a) (.tup ds)
  | ref (a : Addr) : Rep K G (.ref a) (.ref a)
  | ty (n : String) : Rep K G (.ty n) (.ty n)
  | ins {a C dx : Addr} {fs : List (Str × V)} {ds : List (Str × D)} : G a = some (.fro (.ins C dx fs)) → RepF K G fs ds → Rep K G (.ref a) (.ins C ds)
  | dct {a : Addr} {od : Obj} {kvs : List (Key × V)} {ds : List (Key × D)} : G a = some (.fro (.frz od (.dK kvs))) → RepK K G kvs ds → Rep K G (.ref a) (.dct ds)
  | obj {a : Addr} {n : Nat} : Mkk G a n → Rep K G (.ref a) (.obj n)
inductive Reps (K : PySem.W.Frag) (G : Gh) : List V → List D → Prop
  | nil : Reps K G [] []
  | cons {v : V} {d : D} {vs : List V} {ds : List D} : Rep K G v d → Reps K G vs ds → Reps K G (v :: vs) (d :: ds)
inductive RepF (K : PySem.W.Frag) (G : Gh) : List (Str × V) → List (Str × D) → Prop
  | nil : RepF K G [] []
  | cons {f : Str} {v : V} {d : D} {vs : List (Str × V)} {ds : List (Str × D)} : Rep K G v d → RepF K G vs ds → RepF K G ((f, v) :: vs) ((f, d) :: ds)
inductive RepK (K : PySem.W.Frag) (G : Gh) : List (Key × V) → List (Key × D) → Prop
  | nil : RepK K G [] []
  | cons {f : Key} {v : V} {d : D} {vs : List (Key × V)} {ds : List (Key × D)} : Rep K G v d → RepK K G vs ds → RepK K G ((f, v) :: vs) ((f, d) :: ds)
end
theorem sq_t {K : PySem.W.Frag} {H H' : Hp} {a : Addr} {xs : List V} (e : Same H H') (h : SqT K H a xs) : SqT K H' a xs := by
  rcases h with (h | ⟨o, h⟩) | h
  · exact .inl (.inl (e _ _ h))
  · exact .inl (.inr ⟨o, e _ _ h⟩)
  · exact .inr h
/-- what is known of b stays so; a thing of the store may be locked meanwhile -/
def Le (G : Gh) (b : Addr) : GO → Prop
  | .fro o => G b = some (.fro o)
  | .mk n => Mkk G b n
  | .mkf n o => G b = some (.mkf n o)
theorem Le.of {G : Gh} {b : Addr} {g : GO} (h : G b = some g) : Le G b g := by
  cases g with
  | fro o => exact h
  | mk n => exact .inl h
  | mkf n o => exact h
theorem Le.some {G : Gh} {b : Addr} {g : GO} (h : Le G b g) : ∃ g', G b = some g' := by
  cases g with
  | fro o => exact ⟨_, h⟩
  | mk n => rcases h with h | ⟨o, h⟩ <;> exact ⟨_, h⟩
  | mkf n o => exact ⟨_, h⟩
/-- more is known -/
def Sm (G G' : Gh) : Prop := ∀ b o, G b = some o → Le G' b o
theorem Sm.refl (G : Gh) : Sm G G := fun _ _ h => .of h
theorem Sm.trans {G G1 G2 : Gh} (a : Sm G G1) (b : Sm G1 G2) : Sm G G2 := fun c o h => by
  have q := a c o h
  cases o with
  | fro o => exact b c _ q
  | mk n => exact q.elim (fun q => b c _ q) (fun ⟨o, q⟩ => .inr ⟨o, b c _ q⟩)
  | mkf n o => exact b c _ q
theorem Sm.free {G G' : Gh} (e : Sm G G') {l : Addr} (h : G' l = none) : G l = none := by
  cases q : G l with
  | none => rfl
  | some o => obtain ⟨g, z⟩ := (e l o q).some; rw [z] at h; cases h
/-- the same, nothing is locked meanwhile -/
def Sx (G G' : Gh) : Prop := ∀ b o, G b = some o → G' b = some o
theorem Sx.m {G G' : Gh} (e : Sx G G') : Sm G G' := fun b o h => .of (e b o h)
theorem Sx.refl (G : Gh) : Sx G G := fun _ _ h => h
theorem Sx.trans {G G1 G2 : Gh} (a : Sx G G1) (b : Sx G1 G2) : Sx G G2 := fun c o h => b c o (a c o h)
theorem fr_some {G : Gh} {a : Addr} {o : HO} : fr G a = some o ↔ G a = some (.fro o) := by
  unfold fr
  split
  · rename_i u e; rw [e]; simp
  · rename_i n
    constructor
    · intro h; cases h
    · intro h; exact absurd h (n _)
theorem Sm.fr {G G' : Gh} (e : Sm G G') : Same (fr G) (fr G') := fun b o h => fr_some.mpr (e b _ (fr_some.mp h))
theorem Sm.seq {K : PySem.W.Frag} {G G' : Gh} {a : Addr} {xs : List V} (e : Sm G G') (h : SqL K (Mr.fr G) a xs) : SqL K (Mr.fr G') a xs := e.fr.seq h
theorem Sm.seqT {K : PySem.W.Frag} {G G' : Gh} {a : Addr} {xs : List V} (e : Sm G G') (h : SqT K (Mr.fr G) a xs) : SqT K (Mr.fr G') a xs := sq_t e.fr h
theorem Sm.seqC {K : PySem.W.Frag} {G G' : Gh} {a : Addr} {xs : List V} (e : Sm G G') (h : SqC K (Mr.fr G) a xs) : SqC K (Mr.fr G') a xs := h.elim (fun h => .inl (e.fr _ _ h)) (fun h => .inr ⟨e.seqT h.1, h.2⟩)
/-- what a thing of the store may be -/
def isSt : HO → Bool
  | .lst _ => true
  | .dK _ => true
  | .dT _ => true
  | .ins _ _ _ => true
  | .frz _ _ => true
  | _ => false
def Sh1 (H : Hp) (b : Addr) : GO → Prop
  | .fro o => H b = some o
  | .mk _ => ∃ o, H b = some o ∧ isSt o = true
  | .mkf _ o => H b = some o ∧ isSt o = true
theorem Sh1.mono {H H' : Hp} {b : Addr} {g : GO} (h : ∀ o, H b = some o → H' b = some o) (q : Sh1 H b g) : Sh1 H' b g := by
  cases g with
  | fro o => exact h _ q
  | mk n => obtain ⟨o, h1, h2⟩ := q; exact ⟨o, h o h1, h2⟩
  | mkf n o => exact ⟨h _ q.1, q.2⟩
theorem Sh1.cong {H H' : Hp} {b : Addr} {g : GO} (h : H' b = H b) (q : Sh1 H b g) : Sh1 H' b g := q.mono fun o e => by rw [h]; exact e
theorem Sh1.of {H : Hp} {b : Addr} {o : HO} (h : H b = some o) : Sh1 H b (.fro o) := h
theorem Sh1.some {H : Hp} {b : Addr} {g : GO} (q : Sh1 H b g) : H b ≠ none := by
  cases g with
  | fro o => (have q : H b = _ := q); rw [q]; simp
  | mk n => obtain ⟨o, h1, h2⟩ := q; rw [h1]; simp
  | mkf n o => (have q1 : H b = _ := q.1); rw [q1]; simp
/-- what is known is so -/
def Sh (G : Gh) (H : Hp) : Prop := ∀ b g, G b = some g → Sh1 H b g
theorem Sh.seq {K : PySem.W.Frag} {G : Gh} {H : Hp} {a : Addr} {xs : List V} (e : Sh G H) (h : SqL K (Mr.fr G) a xs) : SqL K H a xs := by
  rcases h with (h | ⟨o, h⟩) | h
  · exact .inl (.inl (e _ _ (fr_some.mp h)))
  · exact .inl (.inr ⟨o, e _ _ (fr_some.mp h)⟩)
  · exact .inr h
theorem Sh.seqT0 {K : PySem.W.Frag} {G : Gh} {H : Hp} {a : Addr} {xs : List V} (e : Sh G H) (h : SqT K (Mr.fr G) a xs) : SqT K H a xs := by
  rcases h with (h | ⟨o, h⟩) | h
  · exact .inl (.inl (e _ _ (fr_some.mp h)))
  · exact .inl (.inr ⟨o, e _ _ (fr_some.mp h)⟩)
  · exact .inr h
theorem Sh.seqC {K : PySem.W.Frag} {G : Gh} {H : Hp} {a : Addr} {xs : List V} (e : Sh G H) (h : SqC K (Mr.fr G) a xs) : SqC K H a xs := h.elim (fun h => .inl (e _ _ (fr_some.mp h))) (fun h => .inr ⟨e.seqT0 h.1, h.2⟩)
theorem Sh.seqT {K : PySem.W.Frag} {G : Gh} {H : Hp} {a : Addr} {xs : List V} (e : Sh G H) (h : SqC K (Mr.fr G) a xs) : SqT K H a xs := (e.seqC h).sq
theorem Sh.some {G : Gh} {H : Hp} (e : Sh G H) {b : Addr} {g : GO} (h : G b = some g) : H b ≠ none := (e b g h).some
theorem Sh.free {G : Gh} {H : Hp} (e : Sh G H) {l : Addr} (h : H l = none) : G l = none := by
  cases q : G l with
  | none => rfl
  | some o => exact absurd h (e.some q)
theorem Sm.sh {G G1 : Gh} {H : Hp} (a : Sm G G1) (b : Sh G1 H) : Sh G H := fun c o h => by
  have q := a c o h
  cases o with
  | fro o => exact b c _ q
  | mk n => exact q.elim (fun q => b c _ q) (fun ⟨o, q⟩ => ⟨o, b c _ q⟩)
  | mkf n o => exact b c _ q
def up (G : Gh) (a : Addr) (o : HO) : Gh := fun b => if b = a then some (.fro o) else G b
theorem up_same {G : Gh} {a : Addr} {o : HO} : up G a o a = some (.fro o) := by unfold up; rw [if_pos rfl]
theorem up_ne {G : Gh} {a b : Addr} {o : HO} (h : b ≠ a) : up G a o b = G b := by unfold up; rw [if_neg h]
theorem mk_up {G : Gh} {a b : Addr} {n : Nat} {o : HO} (h : Mkk (up G a o) b n) : Mkk G b n := by
  by_cases hb : b = a
  · subst hb
    rcases h with h | ⟨u, h⟩ <;> (rw [up_same] at h; cases h)
  · rcases h with h | ⟨u, h⟩
    · rw [up_ne hb] at h; exact .inl h
    · rw [up_ne hb] at h; exact .inr ⟨u, h⟩
theorem gne_of_none {G : Gh} {a b : Addr} {o : GO} (h : G a = some o) (h' : G b = none) : a ≠ b := by
  intro e; subst e; rw [h] at h'; cases h'
theorem sqL_new {K : PySem.W.Frag} {G : Gh} {p : Addr} {xs : List V} : SqL K (fr (up G p (.lst xs))) p xs := .inl (.inl (fr_some.mpr up_same))
theorem sqT_new {K : PySem.W.Frag} {G : Gh} {p : Addr} {xs : List V} : SqC K (fr (up G p (.tup xs))) p xs := .inl (fr_some.mpr up_same)
theorem Sx.up {G : Gh} {p : Addr} {o : HO} (n : G p = none) : Sx G (up G p o) := fun b u e => by rw [up_ne (gne_of_none e n)]; exact e
theorem Sm.up {G : Gh} {p : Addr} {o : HO} (n : G p = none) : Sm G (Mr.up G p o) := (Sx.up n).m
section
variable {K : PySem.W.Frag} {G G' : Gh}
mutual
theorem Rep.mono (e : Sm G G') : ∀ {v : V} {d : D}, Rep K G v d → Rep K G' v d
  | _, _, .non => .non
  | _, _, .bl b => .bl b
  | _, _, .int i => .int i
  | _, _, .str x => .str x
  | _, _, .lst h r => .lst (e.seq h) (Reps.mono e r)
  | _, _, .tup h r => .tup (e.seqC h) (Reps.mono e r)
  | _, _, .ref a => .ref a
  | _, _, .ty n => .ty n
  | _, _, .ins h r => .ins (e _ _ h) (RepF.mono e r)
  | _, _, .dct h r => .dct (e _ _ h) (RepK.mono e r)
  | _, _, .obj h => .obj (h.elim (fun h => e _ _ h) (fun ⟨o, h⟩ => .inr ⟨o, e _ _ h⟩))
theorem Reps.mono (e : Sm G G') : ∀ {v : List V} {d : List D}, Reps K G v d → Reps K G' v d
  | _, _, .nil => .nil
  | _, _, .cons h r => .cons (Rep.mono e h) (Reps.mono e r)
theorem RepF.mono (e : Sm G G') : ∀ {v : List (Str × V)} {d : List (Str × D)}, RepF K G v d → RepF K G' v d
  | _, _, .nil => .nil
  | _, _, .cons h r => .cons (Rep.mono e h) (RepF.mono e r)
theorem RepK.mono (e : Sm G G') : ∀ {v : List (Key × V)} {d : List (Key × D)}, RepK K G v d → RepK K G' v d
  | _, _, .nil => .nil
  | _, _, .cons h r => .cons (Rep.mono e h) (RepK.mono e r)
end
theorem Reps.length : ∀ {v : List V} {d : List D}, Reps K G v d → v.length = d.length
  | _, _, .nil => rfl
  | _, _, .cons _ r => by rw [List.length_cons, List.length_cons, r.length]
theorem Reps.get : ∀ {vs : List V} {ds : List D} {i : Nat} {v : V}, Reps K G vs ds → vs[i]? = some v → ∃ d, ds[i]? = some d ∧ Rep K G v d
  | _, _, i, v, .nil, h => by simp at h
  | _, _, 0, v, .cons h r, e => by simp at e; subst e; exact ⟨_, rfl, h⟩
  | _, _, i + 1, v, .cons h r, e => by
    obtain ⟨d, h1, h2⟩ := Reps.get (i := i) r (by simpa using e)
    exact ⟨d, by simpa using h1, h2⟩
theorem Reps.get' : ∀ {vs : List V} {ds : List D} {i : Nat} {d : D}, Reps K G vs ds → ds[i]? = some d → ∃ v, vs[i]? = some v ∧ Rep K G v d
  | _, _, i, v, .nil, h => by simp at h
  | _, _, 0, v, .cons h r, e => by simp at e; subst e; exact ⟨_, rfl, h⟩
  | _, _, i + 1, v, .cons h r, e => by
    obtain ⟨d, h1, h2⟩ := Reps.get' (i := i) r (by simpa using e)
    exact ⟨d, by simpa using h1, h2⟩
theorem Reps.append : ∀ {vs ws : List V} {ds es : List D}, Reps K G vs ds → Reps K G ws es → Reps K G (vs ++ ws) (ds ++ es)
  | _, _, _, _, .nil, r => r
  | _, _, _, _, .cons h r, q => .cons h (r.append q)
theorem Reps.take : ∀ {vs : List V} {ds : List D} (n : Nat), Reps K G vs ds → Reps K G (vs.take n) (ds.take n)
  | _, _, 0, _ => .nil
  | _, _, _ + 1, .nil => .nil
  | _, _, n + 1, .cons h r => .cons h (Reps.take n r)
theorem Reps.drop : ∀ {vs : List V} {ds : List D} (n : Nat), Reps K G vs ds → Reps K G (vs.drop n) (ds.drop n)
  | _, _, 0, r => r
  | _, _, _ + 1, .nil => .nil
  | _, _, n + 1, .cons h r => Reps.drop n r
theorem Reps.set {v : V} {d : D} (h : Rep K G v d) : ∀ {vs : List V} {ds : List D} (n : Nat), Reps K G vs ds → Reps K G (vs.set n v) (ds.set n d)
  | _, _, _, .nil => .nil
  | _, _, 0, .cons _ r => .cons h r
  | _, _, n + 1, .cons q r => .cons q (Reps.set h n r)
theorem Reps.eraseIdx : ∀ {vs : List V} {ds : List D} (n : Nat), Reps K G vs ds → Reps K G (vs.eraseIdx n) (ds.eraseIdx n)
  | _, _, _, .nil => .nil
  | _, _, 0, .cons _ r => r
  | _, _, n + 1, .cons q r => .cons q (Reps.eraseIdx n r)
theorem Reps.reverse {vs : List V} {ds : List D} (r : Reps K G vs ds) : Reps K G vs.reverse ds.reverse := by
  induction vs generalizing ds with
  | nil => cases r; exact .nil
  | cons v vs ih =>
    cases r with
    | cons h r =>
      rw [List.reverse_cons, List.reverse_cons]
      exact (ih r).append (.cons h .nil)
theorem Reps.ints : ∀ (ns : List Int), Reps K G (ns.map V.int) (ns.map D.int)
  | [] => .nil
  | n :: ns => .cons (.int n) (Reps.ints ns)
theorem Reps.of_ints : ∀ {vs : List V} {ns : List Int}, Reps K G vs (ns.map D.int) → vs = ns.map V.int
  | _, [], r => by cases r; rfl
  | _, n :: ns, r => by
    rw [List.map_cons] at r
    cases r with
    | cons h r =>
      cases h
      rw [Reps.of_ints r]
      rfl
end
/-- a dict whose keys are tuples -/
inductive RepT (K : PySem.W.Frag) (G : Gh) : List (List Key × V) → List (List Key × D) → Prop
  | nil : RepT K G [] []
  | cons {f : List Key} {v : V} {d : D} {vs : List (List Key × V)} {ds : List (List Key × D)} : Rep K G v d → RepT K G vs ds → RepT K G ((f, v) :: vs) ((f, d) :: ds)
theorem RepT.mono {K : PySem.W.Frag} {G G' : Gh} (e : Sm G G') : ∀ {v : List (List Key × V)} {d : List (List Key × D)}, RepT K G v d → RepT K G' v d
  | _, _, .nil => .nil
  | _, _, .cons h r => .cons (h.mono e) (RepT.mono e r)
/-- a thing of the store: a list, a dict, an instance -/
inductive Ob where
  | lst (xs : List D) | dct (kvs : List (Key × D)) | dlk (kvs : List (Key × D)) | ins (C : Addr) (fs : List (Str × D)) | dcT (kvs : List (List Key × D))
def ObOk (K : PySem.W.Frag) (G : Gh) (H : Hp) (a : Addr) : Ob → Prop
  | .lst xs => ∃ vs, H a = some (.lst vs) ∧ Reps K G vs xs
  | .dct xs => ∃ vs, H a = some (.dK vs) ∧ RepK K G vs xs
  | .dlk xs => ∃ od vs, H a = some (.frz od (.dK vs)) ∧ RepK K G vs xs
  | .ins C xs => ∃ dx vs, H a = some (.ins C dx vs) ∧ RepF K G vs xs
  | .dcT xs => ∃ vs, H a = some (.dT vs) ∧ RepT K G vs xs
/-- the store stands in the heap -/
def Mkd (G : Gh) (a : Addr) (n : Nat) : Ob → Prop
  | .dlk _ => ∃ u, G a = some (.mkf n u)
  | _ => G a = some (.mk n)
theorem Mkd.mk {G : Gh} {a : Addr} {n : Nat} {o : Ob} (h : Mkd G a n o) : Mkk G a n := by
  cases o with
  | dlk kvs => exact .inr h
  | _ => exact .inl h
theorem Mkk.mono {G G' : Gh} {a : Addr} {n : Nat} (e : Sm G G') (h : Mkk G a n) : Mkk G' a n := h.elim (fun h => e _ _ h) (fun ⟨o, h⟩ => .inr ⟨o, e _ _ h⟩)
theorem Mkd.mono {G G' : Gh} {a : Addr} {n : Nat} {o : Ob} (e : Sx G G') (h : Mkd G a n o) : Mkd G' a n o := by
  cases o with
  | dlk kvs => obtain ⟨u, h⟩ := h; exact ⟨u, e _ _ h⟩
  | _ => exact e _ _ h
theorem Mkk.none {G : Gh} {a : Addr} {n : Nat} (h : Mkk G a n) : G a ≠ none := by
  rcases h with h | ⟨o, h⟩ <;> (rw [h]; simp)
structure StOk (K : PySem.W.Frag) (G : Gh) (H : Hp) (st : List Ob) : Prop where
  at_ : ∀ n o, st[n]? = some o → ∃ a, Mkd G a n o ∧ ObOk K G H a o
  lt : ∀ a n, Mkk G a n → n < st.length
  inj : ∀ a b n, Mkk G a n → Mkk G b n → a = b
/-- from the heaps G (what never changes any more) in H to G' in H' -/
structure Tr (W : Addr → Prop) (G : Gh) (H : Hp) (G' : Gh) (H' : Hp) : Prop where
  gg : Sm G G'
  gh : Sh G' H'
  gr : ∀ b, G' b ≠ none → G b ≠ none ∨ H b = none
  kp : ∀ b o, ¬ W b → (∀ n, G b ≠ some (.mk n)) → H b = some o → H' b = some o
  dm : ∀ b, H' b = none → H b = none
  fz : ∀ b o u, H b = some (.frz o u) → H' b = some (.frz o u)
/-- the same, and no thing of the store is new or changed -/
structure Tr0 (G : Gh) (H : Hp) (G' : Gh) (H' : Hp) : Prop where
  gx : Sx G G'
  gh : Sh G' H'
  gr : ∀ b, G' b ≠ none → G b ≠ none ∨ H b = none
  kp : ∀ b o, H b = some o → H' b = some o
  dm : ∀ b, H' b = none → H b = none
  nm : ∀ b n, Mkk G' b n → Mkk G b n
theorem Tr0.gg {G G' : Gh} {H H' : Hp} (t : Tr0 G H G' H') : Sm G G' := t.gx.m
structure Wo where
  S : Type
  W : Addr → Prop
  ok : PySem.W.Frag → S → Gh → Hp → Prop
  /-- the exception in hand in an except suite: itself, its dict, its class -/
  ec : Addr → Option Addr → Addr → Prop
  /-- which instances a slot may own -/
  sf : Addr → Prop
  /-- the store -/
  st : S → List Ob
  wi : S → List Ob → S
  loc : ∀ K s G H G' H', Sx G G' → (∀ b n, Mkk G' b n → Mkk G b n) → (∀ a, W a ∨ (∃ n, Mkk G a n) → H' a = H a) → ok K s G H → ok K s G' H'
  dom : ∀ K s G H a, ok K s G H → W a → H a ≠ none
  sto : ∀ K s G H, ok K s G H → StOk K G H (st s)
  stu : ∀ K s G H G' H' l, ok K s G H → (∀ a, W a → H' a = H a) → StOk K G' H' l → ok K (wi s l) G' H'
theorem Tr.refl {W : Addr → Prop} {G : Gh} {H : Hp} (h : Sh G H) : Tr W G H G H := ⟨Sm.refl _, h, fun _ e => .inl e, fun _ _ _ _ e => e, fun _ e => e, fun _ _ _ e => e⟩
theorem Tr.mkb {W : Addr → Prop} {G G1 : Gh} {H H1 : Hp} (a : Tr W G H G1 H1) {b : Addr} {o : HO} {k : Nat} (e : H b = some o) (z : G1 b = some (.mk k)) : G b = some (.mk k) := by
  rcases a.gr b (by rw [z]; simp) with q | q
  · cases g : G b with
    | none => exact absurd g q
    | some g0 =>
      have le := a.gg b g0 g
      cases g0 with
      | fro o => (have le : G1 b = _ := le); rw [z] at le; cases le
      | mk n =>
        rcases le with le | ⟨u, le⟩
        · rw [z] at le; cases le; rfl
        · rw [z] at le; cases le
      | mkf n o => (have le : G1 b = _ := le); rw [z] at le; cases le
  · rw [q] at e; cases e
theorem Tr.trans {W : Addr → Prop} {G G1 G2 : Gh} {H H1 H2 : Hp} (a : Tr W G H G1 H1) (b : Tr W G1 H1 G2 H2) : Tr W G H G2 H2 :=
  ⟨a.gg.trans b.gg, b.gh, fun c e => (b.gr c e).elim (fun z => a.gr c z) (fun z => .inr (a.dm c z)), fun c o n m e => b.kp c o n (fun k z => m k (a.mkb e z)) (a.kp c o n m e), fun c e => a.dm c (b.dm c e), fun c o u e => b.fz c o u (a.fz c o u e)⟩
theorem Tr0.up {W : Addr → Prop} {G G1 : Gh} {H H1 : Hp} (a : Tr0 G H G1 H1) : Tr W G H G1 H1 := ⟨a.gg, a.gh, a.gr, fun c o _ _ e => a.kp c o e, a.dm, fun c o u e => a.kp c _ e⟩
theorem Tr0.refl {G : Gh} {H : Hp} (h : Sh G H) : Tr0 G H G H := ⟨Sx.refl _, h, fun _ e => .inl e, fun _ _ e => e, fun _ e => e, fun _ _ e => e⟩
theorem Tr0.trans {G G1 G2 : Gh} {H H1 H2 : Hp} (a : Tr0 G H G1 H1) (b : Tr0 G1 H1 G2 H2) : Tr0 G H G2 H2 :=
  ⟨a.gx.trans b.gx, b.gh, fun c e => (b.gr c e).elim (fun z => a.gr c z) (fun z => .inr (a.dm c z)), fun c o e => b.kp c o (a.kp c o e), fun c e => a.dm c (b.dm c e), fun c n e => a.nm c n (b.nm c n e)⟩
/-- a new object that never changes -/
theorem Tr0.new {G : Gh} {H : Hp} {p : Addr} {o : HO} (h : Sh G H) (n : H p = none) : Tr0 G H (Mr.up G p o) (upd H p o) := by
  have ng : G p = none := h.free n
  refine ⟨Sx.up ng, fun b u e => ?_, fun b e => ?_, fun b u e => by rw [upd_ne (ne_of_none e n)]; exact e, fun b e => ?_, fun b u e => ?_⟩
  · by_cases hb : b = p
    · subst hb; rw [up_same] at e; cases e; exact .of upd_same
    · rw [up_ne hb] at e
      exact (h b u e).cong (upd_ne hb)
  · by_cases hb : b = p
    · subst hb; exact .inr n
    · rw [up_ne hb] at e; exact .inl e
  · by_cases hb : b = p
    · subst hb; exact n
    · rw [upd_ne hb] at e; exact e
  · exact mk_up e
theorem Sh.upd {G : Gh} {H : Hp} {p : Addr} {o : HO} (h : Sh G H) (n : G p = none) : Sh G (upd H p o) := fun b u e => by
  have hb : b ≠ p := gne_of_none e n
  exact (h b u e).cong (upd_ne hb)
/-- a new object that is tracked, but not told -/
theorem Tr0.hid {G : Gh} {H : Hp} {p : Addr} {o : HO} (h : Sh G H) (n : H p = none) : Tr0 G H G (upd H p o) := by
  refine ⟨Sx.refl _, h.upd (h.free n), fun b e => .inl e, fun b u e => by rw [upd_ne (ne_of_none e n)]; exact e, fun b e => ?_, fun _ _ e => e⟩
  by_cases hb : b = p
  · subst hb; exact n
  · rw [upd_ne hb] at e; exact e
inductive Sl where
  | no | sh (d : D) | own (xs : List D) | ownD (kvs : List (Key × D)) | ownI (C : Addr) (fs : List (Str × D)) | exc (c : Addr) (fs : List (Str × D))
/-- an error's fields: in its dict, or it has none -/
def XdA (H : Hp) : Option Addr → List (Str × V) → Prop
  | none, xs => xs = []
  | some dd, xs => H dd = some (.xd xs)
def NwA (O : Wo) (d : Option Addr) : Prop := ∀ dd, d = some dd → ¬ O.W dd
theorem nwA {O : Wo} {dd : Addr} (h : ¬ O.W dd) : NwA O (some dd) := fun _ e => by cases e; exact h
theorem XdA.kp {H H' : Hp} {d : Option Addr} {xs : List (Str × V)} (h : XdA H d xs) (k : ∀ dd, d = some dd → H dd = some (.xd xs) → H' dd = some (.xd xs)) : XdA H' d xs := by
  cases d with
  | none => exact h
  | some dd => exact k dd rfl h
def SlOk (K : PySem.W.Frag) (O : Wo) (H0 : Hp) (G : Gh) (H : Hp) : Option V → Sl → Prop
  | _, .no => True
  | o, .sh d => ∃ v, o = some v ∧ Rep K G v d
  | o, .own xs => ∃ p vs, o = some (.ref p) ∧ H p = some (.lst vs) ∧ Reps K G vs xs ∧ G p = none ∧ ¬ O.W p ∧ H0 p = none
  | o, .ownD xs => ∃ p vs, o = some (.ref p) ∧ H p = some (.dK vs) ∧ RepK K G vs xs ∧ G p = none ∧ ¬ O.W p ∧ H0 p = none
  | o, .ownI C xs => ∃ p dx vs, o = some (.ref p) ∧ H p = some (.ins C dx vs) ∧ RepF K G vs xs ∧ G p = none ∧ ¬ O.W p ∧ H0 p = none ∧ O.sf p
  | o, .exc c fs => ∃ a dd xs, o = some (.ref a) ∧ O.ec a dd c ∧ XdA H dd xs ∧ RepF K G xs fs ∧ NwA O dd
def isOwn : Sl → Bool
  | .own _ => true
  | .ownD _ => true
  | .ownI _ _ => true
  | _ => false
abbrev Ev := List Sl
/-- what holds of the slots σ and the heap H where the mirror has ρ and s -/
structure Fm (K : PySem.W.Frag) (O : Wo) (H0 : Hp) (σ : L2.St) (ρ : Ev) (G : Gh) (H : Hp) (s : O.S) : Prop where
  gh : Sh G H
  wg : ∀ a, O.W a → G a = none
  ok : O.ok K s G H
  len : σ.length = ρ.length
  sl : ∀ (i : Nat) (o : Option V) (x : Sl), σ[i]? = some o → ρ[i]? = some x → SlOk K O H0 G H o x
  ds : ∀ (i j : Nat) (p : Addr) (x y : Sl), i ≠ j → ρ[i]? = some x → ρ[j]? = some y → isOwn x = true → isOwn y = true → σ[i]? = some (some (.ref p)) → σ[j]? ≠ some (some (.ref p))
section
variable {K : PySem.W.Frag} {O : Wo} {H0 H H' : Hp} {G G' : Gh} {σ : L2.St} {ρ : Ev} {s s' : O.S}
theorem SlOk.tr {o : Option V} {x : Sl} (g : Sh G H) (t : Tr O.W G H G' H') (h : SlOk K O H0 G H o x) : SlOk K O H0 G' H' o x := by
  have ng : ∀ {p : Addr} {u : HO}, H p = some u → G p = none → G' p = none := fun {p u} a b => by
    cases e : G' p with
    | none => rfl
    | some z => rcases t.gr p (by rw [e]; simp) with q | q <;> simp_all
  have nm : ∀ {p : Addr}, G p = none → ∀ n, G p ≠ some (.mk n) := fun {p} a n => by rw [a]; simp
  cases x with
  | no => trivial
  | sh d => obtain ⟨v, a, b⟩ := h; exact ⟨v, a, b.mono t.gg⟩
  | own xs => obtain ⟨p, vs, a, b, c, d, e, f⟩ := h; exact ⟨p, vs, a, t.kp _ _ e (nm d) b, c.mono t.gg, ng b d, e, f⟩
  | ownD xs => obtain ⟨p, vs, a, b, c, d, e, f⟩ := h; exact ⟨p, vs, a, t.kp _ _ e (nm d) b, c.mono t.gg, ng b d, e, f⟩
  | ownI C xs => obtain ⟨p, dx, vs, a, b, c, d, e, f⟩ := h; exact ⟨p, dx, vs, a, t.kp _ _ e (nm d) b, c.mono t.gg, ng b d, e, f⟩
  | exc c fs =>
    obtain ⟨a, dd, xs, e, q, b, c, d⟩ := h
    refine ⟨a, dd, xs, e, q, b.kp (fun d1 ed b => t.kp _ _ (d d1 ed) (fun n z => ?_) b), c.mono t.gg, d⟩
    obtain ⟨o, h1, h2⟩ := g _ _ z
    rw [b] at h1; cases h1; cases h2
theorem Fm.tr (f : Fm K O H0 σ ρ G H s) (t : Tr O.W G H G' H') (k : O.ok K s' G' H') : Fm K O H0 σ ρ G' H' s' :=
  ⟨t.gh, fun a w => by
    cases e : G' a with
    | none => rfl
    | some z =>
      rcases t.gr a (by rw [e]; simp) with q | q
      · exact absurd (f.wg a w) q
      · exact absurd q (O.dom K s G H a f.ok w), k, f.len, fun i o x a b => (f.sl i o x a b).tr f.gh t, f.ds⟩
theorem Tr0.keepW (t : Tr0 G H G' H') (g : Sh G H) (k : O.ok K s G H) : O.ok K s G' H' := O.loc K s G H G' H' t.gx t.nm (fun a w => by
    cases e : H a with
    | none =>
      rcases w with w | ⟨n, w⟩
      · exact absurd e (O.dom K s G H a k w)
      · rcases w with w | ⟨o, w⟩ <;> exact absurd e (g.some w)
    | some u => exact t.kp a u e) k
theorem Fm.keepW (f : Fm K O H0 σ ρ G H s) (t : Tr0 G H G' H') : O.ok K s G' H' := t.keepW f.gh f.ok
theorem Fm.tr0 (f : Fm K O H0 σ ρ G H s) (t : Tr0 G H G' H') : Fm K O H0 σ ρ G' H' s := f.tr t.up (f.keepW t)
theorem Fm.get (f : Fm K O H0 σ ρ G H s) {i : Nat} {d : D} (h : ρ[i]? = some (.sh d)) : ∃ v, σ[i]? = some (some v) ∧ Rep K G v d := by
  have hi : i < σ.length := by rw [f.len]; exact (List.getElem?_eq_some_iff.mp h).1
  obtain ⟨v, e, r⟩ := f.sl i σ[i] _ (List.getElem?_eq_getElem hi) h
  exact ⟨v, by rw [List.getElem?_eq_getElem hi, e], r⟩
theorem Fm.at (f : Fm K O H0 σ ρ G H s) {i : Nat} {x : Sl} (h : ρ[i]? = some x) : ∃ o, σ[i]? = some o ∧ SlOk K O H0 G H o x := by
  have hi : i < σ.length := by rw [f.len]; exact (List.getElem?_eq_some_iff.mp h).1
  exact ⟨σ[i], List.getElem?_eq_getElem hi, f.sl i σ[i] _ (List.getElem?_eq_getElem hi) h⟩
/-- a slot is set to a thing that never changes -/
theorem Fm.set (f : Fm K O H0 σ ρ G H s) {i : Nat} {v : V} {d : D} (r : Rep K G v d) : Fm K O H0 (σ.set i (some v)) (ρ.set i (.sh d)) G H s := by
  refine ⟨f.gh, f.wg, f.ok, by simpa using f.len, fun j o x a b => ?_, fun j k p x y hjk a b c e g => ?_⟩
  · by_cases hj : i = j
    · subst hj
      have h1 := (List.getElem?_eq_some_iff.mp a).1
      have h2 := (List.getElem?_eq_some_iff.mp b).1
      rw [List.length_set] at h1 h2
      rw [List.getElem?_set_self h1] at a
      rw [List.getElem?_set_self h2] at b
      cases a; cases b
      exact ⟨v, rfl, r⟩
    · rw [List.getElem?_set_ne hj] at a b
      exact f.sl j o x a b
  · by_cases hj : i = j
    · subst hj
      have h2 := (List.getElem?_eq_some_iff.mp a).1
      rw [List.length_set] at h2
      rw [List.getElem?_set_self h2] at a
      cases a
      cases c
    · by_cases hk : i = k
      · subst hk
        have h2 := (List.getElem?_eq_some_iff.mp b).1
        rw [List.length_set] at h2
        rw [List.getElem?_set_self h2] at b
        cases b
        cases e
      · rw [List.getElem?_set_ne hj] at a g
        rw [List.getElem?_set_ne hk] at b
        rw [List.getElem?_set_ne hk]
        exact f.ds j k p x y hjk a b c e g
end
end Mr
namespace Mr
open PySem PySem.Spec PyProof.Rows L2
inductive R (S α : Type) where
  | ok (a : α) (s : S) | err (c : Addr) (fs : List (Str × D)) (s : S) | bad
def R.bind {S α β : Type} (x : R S α) (f : α → S → R S β) : R S β := match x with
  | .ok a s => f a s
  | .err c fs s => .err c fs s
  | .bad => .bad
def R.lift {S α : Type} (o : Option α) (s : S) : R S α := match o with
  | some a => .ok a s
  | none => .bad
section
variable {S α β : Type}
@[simp] theorem bind_ok (a : α) (s : S) (f : α → S → R S β) : (R.ok a s).bind f = f a s := rfl
@[simp] theorem bind_err (c : Addr) (fs : List (Str × D)) (s : S) (f : α → S → R S β) : (R.err c fs s : R S α).bind f = .err c fs s := rfl
@[simp] theorem bind_bad (f : α → S → R S β) : (R.bad : R S α).bind f = .bad := rfl
@[simp] theorem lift_some (a : α) (s : S) : R.lift (some a) s = .ok a s := rfl
@[simp] theorem lift_none (s : S) : (R.lift none s : R S α) = .bad := rfl
end
/-- what is wanted behind, of what the mirror gives -/
def Pst (K : PySem.W.Frag) (O : Wo) (Wx : WX) (σ : L2.St) (G : Gh) (H : Hp) {α β : Type} (rel : Gh → β → α → Prop) (r : R O.S α) (Q : β → Hp → Prop) : Prop :=
  match r with
  | .ok d s' => ∀ v G' H', Tr O.W G H G' H' → O.ok K s' G' H' → rel G' v d → Q v H'
  | .err c fs s' => ∀ dd xs G' H', Tr O.W G H G' H' → O.ok K s' G' H' → XdA H' dd xs → NwA O dd → RepF K G' xs fs → Wx (.ref c) dd σ H'
  | .bad => False
section
variable {K : PySem.W.Frag} {O : Wo} {Wx : WX} {σ : L2.St} {G : Gh} {H : Hp} {G1 : Gh} {H1 : Hp}
theorem Pst.shift {α β : Type} {rel : Gh → β → α → Prop} {r : R O.S α} {Q : β → Hp → Prop} (t : Tr O.W G H G1 H1) (h : Pst K O Wx σ G H rel r Q) : Pst K O Wx σ G1 H1 rel r Q := by
  cases r with
  | ok d s' => exact fun v G' H' t' k q => h v G' H' (t.trans t') k q
  | err c fs s' => exact fun dd xs G' H' t' k e n q => h dd xs G' H' (t.trans t') k e n q
  | bad => exact h
theorem pst_bind {α β α' β' : Type} {rel : Gh → β → α → Prop} {rel' : Gh → β' → α' → Prop} {r : R O.S α} {f : α → O.S → R O.S α'} {Q : β' → Hp → Prop} {Q1 : β → Hp → Prop} (h : Pst K O Wx σ G H rel' (r.bind f) Q)
    (k : ∀ a s1, r = .ok a s1 → ∀ v G1 H1, Tr O.W G H G1 H1 → O.ok K s1 G1 H1 → rel G1 v a → Pst K O Wx σ G1 H1 rel' (f a s1) Q → Q1 v H1) : Pst K O Wx σ G H rel r Q1 := by
  cases r with
  | ok d s' => exact fun v G' H' t' ko q => k d s' rfl v G' H' t' ko q (Pst.shift t' h)
  | err c fs s' => exact h
  | bad => exact h
end
abbrev ME (O : Wo) := Ev → O.S → R O.S D
abbrev MA (O : Wo) := Ev → O.S → R O.S (List D)
abbrev MT (O : Wo) := Ev → O.S → R O.S Bool
def SndE (K : PySem.W.Frag) (O : Wo) (Wx : WX) (t : TE) (m : ME O) : Prop := ∀ σ ρ H0 G H s Q, Fm K O H0 σ ρ G H s → Pst K O Wx σ G H (Rep K) (m ρ s) Q → t σ H Q
def SndA (K : PySem.W.Frag) (O : Wo) (Wx : WX) (t : TA) (m : MA O) : Prop := ∀ σ ρ H0 G H s Q, Fm K O H0 σ ρ G H s → Pst K O Wx σ G H (Reps K) (m ρ s) Q → t σ H Q
def SndT (K : PySem.W.Frag) (O : Wo) (Wx : WX) (t : TT) (m : MT O) : Prop := ∀ σ ρ H0 G H s Q, Fm K O H0 σ ρ G H s → Pst K O Wx σ G H (fun _ b c => b = c) (m ρ s) Q → t σ H Q
/-- the judgements: a piece of the text, its reading, its mirror -/
structure DE (K : PySem.W.Frag) (O : Wo) (Wx : WX) (X : Cx) (e : Expr) (t : TE) (m : ME O) : Prop where
  hK : X.K = K
  tk : Takes X Wx
  pe : PE X e t
  sn : SndE K O Wx t m
structure DA (K : PySem.W.Frag) (O : Wo) (Wx : WX) (X : Cx) (e : List Expr) (t : TA) (m : MA O) : Prop where
  hK : X.K = K
  tk : Takes X Wx
  pe : PA X e t
  sn : SndA K O Wx t m
structure DT (K : PySem.W.Frag) (O : Wo) (Wx : WX) (X : Cx) (e : Expr) (t : TT) (m : MT O) : Prop where
  hK : X.K = K
  tk : Takes X Wx
  pe : PT X e t
  sn : SndT K O Wx t m
/-- the context's facts -/
structure Cn (K : PySem.W.Frag) (Wx : WX) (X : Cx) : Prop where
  hK : X.K = K
  tk : Takes X Wx
section
variable {K : PySem.W.Frag} {O : Wo} {Wx : WX} {X : Cx}
def mVar (O : Wo) (i : Nat) : ME O := fun ρ s => match ρ[i]? with
  | some (.sh d) => .ok d s
  | _ => .bad
def mC (O : Wo) (d : D) : ME O := fun _ s => .ok d s
theorem snd_var {i : Nat} : SndE K O Wx (tVar i) (mVar O i) := by
  intro σ ρ H0 G H s Q F h
  unfold mVar at h
  split at h
  · rename_i d e
    obtain ⟨v, ev, r⟩ := F.get e
    exact ⟨v, ev, h v G H (.refl F.gh) F.ok r⟩
  · exact h.elim
theorem snd_c {v : V} {d : D} (r : ∀ G, Rep K G v d) : SndE K O Wx (tC v) (mC O d) := fun σ ρ H0 G H s Q F h => h v G H (.refl F.gh) F.ok (r G)
theorem de_var (i : Nat) {x : Str} {pos : Pos} (c : Cn K Wx X) (hN : X.N[i]? = some x := by rfl) (hv : Vis X.env.scope x := by first | exact Or.inl rfl | exact Or.inr (Or.inl rfl) | exact Or.inr (Or.inr rfl)) (hd : (x == ("__debug__" : Str)) = false := by decide)
    (hcd : (x == ("__classdict__" : Str)) = false := by decide) : DE K O Wx X (.Name x pos) (tVar i) (mVar O i) := ⟨c.hK, c.tk, pe_var hN hv hd hcd, snd_var⟩
theorem de_int {i : Int} {j : Nat} {pos : Pos} (c : Cn K Wx X) : DE K O Wx X (.Constant (.int i) j pos) (tC (.int i)) (mC O (.int i)) := ⟨c.hK, c.tk, pe_int, snd_c fun _ => .int i⟩
theorem de_bl {i : Bool} {j : Nat} {pos : Pos} (c : Cn K Wx X) : DE K O Wx X (.Constant (.bool i) j pos) (tC (.bl i)) (mC O (.bl i)) := ⟨c.hK, c.tk, pe_bl, snd_c fun _ => .bl i⟩
theorem de_str {i : Str} {j : Nat} {pos : Pos} (c : Cn K Wx X) : DE K O Wx X (.Constant (.str i) j pos) (tC (.str i)) (mC O (.str i)) := ⟨c.hK, c.tk, pe_str, snd_c fun _ => .str i⟩
/-- a module's name -/
theorem de_glob {x : Str} {u : Value} {v : V} {d : D} {pos : Pos} (c : Cn K Wx X) (hm : X.mg x = some u) (r : RelV v u) (q : ∀ G, Rep K G v d) (hg : Gl X x := by rfl) (hdb : (x == ("__debug__" : Str)) = false := by decide) :
    DE K O Wx X (.Name x pos) (tC v) (mC O d) := ⟨c.hK, c.tk, pe_glob hg hm r hdb, snd_c q⟩
theorem de_bltn {x : Str} {u : Value} {v : V} {d : D} {pos : Pos} (c : Cn K Wx X) (hm : X.mg x = none) (hv : bootBuiltins x = some u) (r : RelV v u) (q : ∀ G, Rep K G v d) (hg : Gl X x := by rfl) (hn : x ≠ "__name__" := by decide) (hdb : (x == ("__debug__" : Str)) = false := by decide) :
    DE K O Wx X (.Name x pos) (tC v) (mC O d) := ⟨c.hK, c.tk, pe_bltn hg hm hv r hn hdb, snd_c q⟩
/-- a two-place operation on values does what f says on data -/
def VOp (K : PySem.W.Frag) (r : R2) (f : D → D → Option D) : Prop := ∀ (G : Gh) (H : Hp) (x y : V) (dx dy d : D) (Q : VK), Sh G H → Rep K G x dx → Rep K G y dy → f dx dy = some d → (∀ v G' H', Tr0 G H G' H' → Rep K G' v d → Q v H') → r x y H Q
def VCl (K : PySem.W.Frag) (r : List V → Hp → VK → Prop) (f : List D → Option D) : Prop := ∀ (G : Gh) (H : Hp) (x : List V) (dx : List D) (d : D) (Q : VK), Sh G H → Reps K G x dx → f dx = some d → (∀ v G' H', Tr0 G H G' H' → Rep K G' v d → Q v H') → r x H Q
def mBin (O : Wo) (f : D → D → Option D) (a b : ME O) : ME O := fun ρ s => (a ρ s).bind fun x s1 => (b ρ s1).bind fun y s2 => R.lift (f x y) s2
def mUn (O : Wo) (f : D → Option D) (a : ME O) : ME O := fun ρ s => (a ρ s).bind fun x s1 => R.lift (f x) s1
def mCl (O : Wo) (f : List D → Option D) (a : MA O) : ME O := fun ρ s => (a ρ s).bind fun x s1 => R.lift (f x) s1
theorem pst_lift {σ : L2.St} {ρ : Ev} {H0 : Hp} {G : Gh} {H : Hp} {s : O.S} {o : Option D} {Q : VK} (F : Fm K O H0 σ ρ G H s) (h : Pst K O Wx σ G H (Rep K) (R.lift o s) Q) : ∃ d, o = some d ∧ ∀ v G' H', Tr0 G H G' H' → Rep K G' v d → Q v H' := by
  cases o with
  | none => exact h.elim
  | some d => exact ⟨d, rfl, fun v G' H' t r => h v G' H' t.up (F.keepW t) r⟩
theorem snd_op {r : R2} {f : D → D → Option D} {ta tb : TE} {ma mb : ME O} (hv : VOp K r f) (ha : SndE K O Wx ta ma) (hb : SndE K O Wx tb mb) : SndE K O Wx (tOp r ta tb) (mBin O f ma mb) := by
  intro σ ρ H0 G H s Q F h
  refine ha σ ρ H0 G H s _ F (pst_bind h fun dx s1 _ x G1 H1 t1 k1 r1 h1 => ?_)
  have F1 := F.tr t1 k1
  refine hb σ ρ H0 G1 H1 s1 _ F1 (pst_bind h1 fun dy s2 _ y G2 H2 t2 k2 r2 h2 => ?_)
  have F2 := F1.tr t2 k2
  obtain ⟨d, e, q⟩ := pst_lift F2 h2
  exact hv G2 H2 x y dx dy d Q F2.gh (r1.mono t2.gg) r2 e q
theorem snd_cl {r : List V → Hp → VK → Prop} {f : List D → Option D} {ta : TA} {ma : MA O} (hv : VCl K r f) (ha : SndA K O Wx ta ma) : SndE K O Wx (tCB r ta) (mCl O f ma) := by
  intro σ ρ H0 G H s Q F h
  refine ha σ ρ H0 G H s _ F (pst_bind h fun dx s1 _ x G1 H1 t1 k1 r1 h1 => ?_)
  have F1 := F.tr t1 k1
  obtain ⟨d, e, q⟩ := pst_lift F1 h1
  exact hv G1 H1 x dx d Q F1.gh r1 e q
theorem de_bin {op : Operator} {r : R2} {f : D → D → Option D} {a b : Expr} {ta tb : TE} {ma mb : ME O} {pos : Pos} (ho : OpR X (binaryOp op) r) (hv : VOp K r f) (ha : DE K O Wx X a ta ma) (hb : DE K O Wx X b tb mb) :
    DE K O Wx X (.BinOp a op b pos) (tOp r ta tb) (mBin O f ma mb) := ⟨ha.hK, ha.tk, pe_op ho ha.pe hb.pe, snd_op hv ha.sn hb.sn⟩
theorem de_cmp {op : CmpOp} {r : R2} {f : D → D → Option D} {a b : Expr} {ta tb : TE} {ma mb : ME O} {pos : Pos} (ho : OpR X (compareOp op) r) (hv : VOp K r f) (ha : DE K O Wx X a ta ma) (hb : DE K O Wx X b tb mb) (hm : behindInMarks op b = false) :
    DE K O Wx X (.Compare a [op] [b] pos) (tOp r ta tb) (mBin O f ma mb) := ⟨ha.hK, ha.tk, pe_cmpR ho ha.pe hb.pe hm, snd_op hv ha.sn hb.sn⟩
def dBool : D → Option Bool
  | .bl b => some b
  | _ => none
def mTest (O : Wo) (m : ME O) : MT O := fun ρ s => (m ρ s).bind fun x s1 => R.lift (dBool x) s1
theorem snd_test {t : TE} {m : ME O} (h : SndE K O Wx t m) : SndT K O Wx (tTest t) (mTest O m) := by
  intro σ ρ H0 G H s Q F hq
  refine h σ ρ H0 G H s _ F (pst_bind hq fun dx s1 _ x G1 H1 t1 k1 r1 h1 => ?_)
  cases dx with
  | bl b =>
    cases r1
    exact ⟨b, rfl, h1 b G1 H1 (.refl t1.gh) k1 rfl⟩
  | _ => exact (show False from h1).elim
theorem dt_cmp {op : CmpOp} {r : R2} {f : D → D → Option D} {a b : Expr} {ta tb : TE} {ma mb : ME O} {pos : Pos} (ho : OpR X (compareOp op) r) (hv : VOp K r f) (ha : DE K O Wx X a ta ma) (hb : DE K O Wx X b tb mb) (hm : behindInMarks op b = false) :
    DT K O Wx X (.Compare a [op] [b] pos) (tTest (tOp r ta tb)) (mTest O (mBin O f ma mb)) := ⟨ha.hK, ha.tk, pt_cmpR ho ha.pe hb.pe hm, snd_test (snd_op hv ha.sn hb.sn)⟩
/-- a value's truth -/
def dTruth : D → Option Bool
  | .non => some false
  | .bl b => some b
  | .int i => some (i != 0)
  | .str x => if x.length ≤ 100000 then some ((x.length : Int) != 0) else none
  | .lst xs => some (!xs.isEmpty)
  | .tup xs => some (!xs.isEmpty)
  | _ => none
theorem sz5 {n : Nat} (h : n ≤ 100000) : n ≤ sizeLine := Nat.le_trans h (by decide)
theorem sz5l {n : Nat} (h : n < 100000) : n < sizeLine := Nat.lt_of_lt_of_le h (by decide)
theorem Reps.isEmpty {G : Gh} {vs : List V} {ds : List D} (r : Reps K G vs ds) : vs.isEmpty = ds.isEmpty := by
  cases r <;> rfl
theorem truth_ok {G : Gh} {H : Hp} {x : V} {dx : D} {b : Bool} (g : Sh G H) (r : Rep K G x dx) (h : dTruth dx = some b) : TruV K x H b := by
  cases r with
  | non => cases h; rfl
  | bl c => cases h; rfl
  | int i => cases h; rfl
  | str x =>
    unfold dTruth at h
    dsimp only at h
    split at h
    · cases h
      rename_i hz
      exact ⟨sz5 hz, rfl⟩
    · cases h
  | lst hs hr => cases h; exact .inl ⟨_, g.seq hs, by rw [hr.isEmpty]⟩
  | tup hs hr => cases h; exact .inr (.inl ⟨_, g.seqT hs, by rw [hr.isEmpty]⟩)
  | ref a => cases h
  | ty n => cases h
  | ins _ _ => cases h
  | dct _ _ => cases h
  | obj _ => cases h
def mTruth (O : Wo) (m : ME O) : MT O := fun ρ s => (m ρ s).bind fun x s1 => R.lift (dTruth x) s1
def mAnd (O : Wo) (a b : MT O) : MT O := fun ρ s => (a ρ s).bind fun x s1 => if x = true then b ρ s1 else .ok false s1
def mOr (O : Wo) (a b : MT O) : MT O := fun ρ s => (a ρ s).bind fun x s1 => if x = true then .ok true s1 else b ρ s1
def mNot (O : Wo) (a : MT O) : MT O := fun ρ s => (a ρ s).bind fun x s1 => .ok (!x) s1
structure DW (K : PySem.W.Frag) (O : Wo) (Wx : WX) (X : Cx) (e : Expr) (t : TT) (m : MT O) : Prop where
  hK : X.K = K
  tk : Takes X Wx
  pe : PW X e t
  sn : SndT K O Wx t m
theorem DW.dt {e : Expr} {t : TT} {m : MT O} (h : DW K O Wx X e t m) : DT K O Wx X e t m := ⟨h.hK, h.tk, h.pe.pt, h.sn⟩
section
variable {a b : Expr} {rest : List Expr} {ta tb : TT} {ma mb : MT O} {pos : Pos}
theorem dw_and1 (ha : DT K O Wx X a ta ma) : DW K O Wx X (.BoolOp .And [a] pos) ta ma := ⟨ha.hK, ha.tk, pw_and1 ha.pe, ha.sn⟩
theorem dw_or1 (ha : DT K O Wx X a ta ma) : DW K O Wx X (.BoolOp .Or [a] pos) ta ma := ⟨ha.hK, ha.tk, pw_or1 ha.pe, ha.sn⟩
theorem dw_and (ha : DT K O Wx X a ta ma) (hb : DW K O Wx X (.BoolOp .And (b :: rest) pos) tb mb) : DW K O Wx X (.BoolOp .And (a :: b :: rest) pos) (tAnd ta tb) (mAnd O ma mb) := by
  refine ⟨ha.hK, ha.tk, pw_and ha.pe hb.pe, fun σ ρ H0 G H s Q F h => ?_⟩
  refine ha.sn σ ρ H0 G H s _ F (pst_bind h fun c s1 _ x G1 H1 t1 k1 r1 h1 => ?_)
  subst r1
  cases x with
  | true => exact hb.sn σ ρ H0 G1 H1 s1 _ (F.tr t1 k1) h1
  | false => exact h1 false G1 H1 (.refl t1.gh) k1 rfl
theorem dw_or (ha : DT K O Wx X a ta ma) (hb : DW K O Wx X (.BoolOp .Or (b :: rest) pos) tb mb) : DW K O Wx X (.BoolOp .Or (a :: b :: rest) pos) (tOr ta tb) (mOr O ma mb) := by
  refine ⟨ha.hK, ha.tk, pw_or ha.pe hb.pe, fun σ ρ H0 G H s Q F h => ?_⟩
  refine ha.sn σ ρ H0 G H s _ F (pst_bind h fun c s1 _ x G1 H1 t1 k1 r1 h1 => ?_)
  subst r1
  cases x with
  | true => exact h1 true G1 H1 (.refl t1.gh) k1 rfl
  | false => exact hb.sn σ ρ H0 G1 H1 s1 _ (F.tr t1 k1) h1
theorem dt_not (ha : DT K O Wx X a ta ma) : DT K O Wx X (.UnaryOp .Not a pos) (tNot ta) (mNot O ma) := by
  refine ⟨ha.hK, ha.tk, pt_not ha.pe, fun σ ρ H0 G H s Q F h => ?_⟩
  refine ha.sn σ ρ H0 G H s _ F (pst_bind h fun c s1 _ x G1 H1 t1 k1 r1 h1 => ?_)
  subst r1
  exact h1 _ G1 H1 (.refl t1.gh) k1 rfl
end
section
variable {a b : Expr} {rest : List Expr} {ta tb : TE} {ma mb : ME O} {pos : Pos}
def mAndV (O : Wo) (a b : ME O) : ME O := fun ρ s => (a ρ s).bind fun x s1 => match x with
  | .bl true => b ρ s1
  | .bl false => .ok (.bl false) s1
  | _ => .bad
def mOrV (O : Wo) (a b : ME O) : ME O := fun ρ s => (a ρ s).bind fun x s1 => match x with
  | .bl true => .ok (.bl true) s1
  | .bl false => b ρ s1
  | _ => .bad
def mNotV (O : Wo) (a : ME O) : ME O := fun ρ s => (a ρ s).bind fun x s1 => match x with
  | .bl c => .ok (.bl (!c)) s1
  | _ => .bad
theorem de_one {op : BoolOp} (h : DE K O Wx X a ta ma) : DE K O Wx X (.BoolOp op [a] pos) ta ma := ⟨h.hK, h.tk, pe_one h.pe, h.sn⟩
theorem de_and (ha : DE K O Wx X a ta ma) (hb : DE K O Wx X (.BoolOp .And (b :: rest) pos) tb mb) : DE K O Wx X (.BoolOp .And (a :: b :: rest) pos) (tAndV ta tb) (mAndV O ma mb) := by
  refine ⟨ha.hK, ha.tk, pe_and ha.pe hb.pe, fun σ ρ H0 G H s Q F h => ?_⟩
  refine ha.sn σ ρ H0 G H s _ F (pst_bind h fun c s1 _ x G1 H1 t1 k1 r1 h1 => ?_)
  cases c with
  | bl c =>
    cases r1
    cases c with
    | true => exact ⟨true, rfl, hb.sn σ ρ H0 G1 H1 s1 _ (F.tr t1 k1) h1⟩
    | false => exact ⟨false, rfl, h1 _ G1 H1 (.refl t1.gh) k1 (.bl _)⟩
  | _ => exact (show False from h1).elim
def mIf (O : Wo) (c : MT O) (a b : ME O) : ME O := fun ρ s => (c ρ s).bind fun x s1 => if x = true then a ρ s1 else b ρ s1
end
def mNil (O : Wo) : MA O := fun _ s => .ok [] s
def mCons (O : Wo) (a : ME O) (r : MA O) : MA O := fun ρ s => (a ρ s).bind fun x s1 => (r ρ s1).bind fun xs s2 => .ok (x :: xs) s2
theorem da_nil (c : Cn K Wx X) : DA K O Wx X [] tNil (mNil O) := ⟨c.hK, c.tk, pa_nil, fun σ ρ H0 G H s Q F h => h [] G H (.refl F.gh) F.ok .nil⟩
theorem da_cons {e : Expr} {es : List Expr} {te : TE} {ta : TA} {me : ME O} {ma : MA O} (he : DE K O Wx X e te me) (ha : DA K O Wx X es ta ma) (hs : starEach (e :: es) X.env = (false, eval e X.env) :: starEach es X.env := by rfl) :
    DA K O Wx X (e :: es) (tCons te ta) (mCons O me ma) := by
  refine ⟨he.hK, he.tk, pa_cons he.pe ha.pe hs, fun σ ρ H0 G H s Q F h => ?_⟩
  refine he.sn σ ρ H0 G H s _ F (pst_bind h fun dx s1 _ x G1 H1 t1 k1 r1 h1 => ?_)
  refine ha.sn σ ρ H0 G1 H1 s1 _ (F.tr t1 k1) (pst_bind h1 fun ds s2 _ xs G2 H2 t2 k2 r2 h2 => ?_)
  exact h2 (x :: xs) G2 H2 (.refl t2.gh) k2 (.cons (r1.mono t2.gg) r2)
def dList (xs : List D) : Option D := if xs.length ≤ 100000 then some (.lst xs) else none
def dTup (xs : List D) : Option D := if xs.length ≤ 100000 then some (.tup xs) else none
theorem de_list {es : List Expr} {ta : TA} {ma : MA O} {pos : Pos} (ha : DA K O Wx X es ta ma) : DE K O Wx X (.List es pos) (tLst ta) (mCl O dList ma) := by
  refine ⟨ha.hK, ha.tk, pe_lst ha.pe, fun σ ρ H0 G H s Q F h => ?_⟩
  refine ha.sn σ ρ H0 G H s _ F (pst_bind h fun ds s1 _ xs G1 H1 t1 k1 r1 h1 => ?_)
  obtain ⟨d, e, q⟩ := pst_lift (F.tr t1 k1) h1
  unfold dList at e
  split at e
  · rename_i hz
    cases e
    refine ⟨by rw [r1.length]; exact sz5 hz, fun p np => q _ _ _ (Tr0.new t1.gh np) ?_⟩
    exact .lst sqL_new (r1.mono (Tr0.new (o := .lst xs) t1.gh np).gg)
  · cases e
theorem de_tup {es : List Expr} {ta : TA} {ma : MA O} {x1} {pos : Pos} (ha : DA K O Wx X es ta ma) : DE K O Wx X (.Tuple es x1 pos) (tTup ta) (mCl O dTup ma) := by
  refine ⟨ha.hK, ha.tk, pe_tup ha.pe, fun σ ρ H0 G H s Q F h => ?_⟩
  refine ha.sn σ ρ H0 G H s _ F (pst_bind h fun ds s1 _ xs G1 H1 t1 k1 r1 h1 => ?_)
  obtain ⟨d, e, q⟩ := pst_lift (F.tr t1 k1) h1
  unfold dTup at e
  split at e
  · rename_i hz
    cases e
    refine ⟨by rw [r1.length]; exact sz5 hz, fun p np => q _ _ _ (Tr0.new t1.gh np) ?_⟩
    exact .tup sqT_new (r1.mono (Tr0.new (o := .tup xs) t1.gh np).gg)
  · cases e
theorem de_callB {id : String} {x : Str} {r : List V → Hp → VK → Prop} {f : List D → Option D} {e : Expr} {es : List Expr} {ta : TA} {ma : MA O} {p pos : Pos} (hc : CallR X (.builtin id) r) (hv : VCl K r f) (hm : X.mg x = none) (hb : bootBuiltins x = some (.builtin id)) (ha : DA K O Wx X (e :: es) ta ma)
    (hg : Gl X x := by rfl) (hn : x ≠ "__name__" := by decide) (hdb : (x == ("__debug__" : Str)) = false := by decide) (he : starEach (e :: es) X.env = (false, eval e X.env) :: starEach es X.env := by rfl) (hpl : (backTo pos (starEach es X.env)).any (·.1) = false := by rfl) :
    DE K O Wx X (.Call (.Name x p) (e :: es) [] pos) (tCB r ta) (mCl O f ma) := ⟨ha.hK, ha.tk, pe_callB hc hg hm hb ha.pe hn hdb he hpl, snd_cl hv ha.sn⟩
theorem de_callT {T : String} {x : Str} {r : List V → Hp → VK → Prop} {f : List D → Option D} {e : Expr} {es : List Expr} {ta : TA} {ma : MA O} {p pos : Pos} (hc : CallR X (.type T) r) (hv : VCl K r f) (hm : X.mg x = none) (hb : bootBuiltins x = some (.type T)) (ha : DA K O Wx X (e :: es) ta ma)
    (hg : Gl X x := by rfl) (hn : x ≠ "__name__" := by decide) (hdb : (x == ("__debug__" : Str)) = false := by decide) (he : starEach (e :: es) X.env = (false, eval e X.env) :: starEach es X.env := by rfl) (hpl : (backTo pos (starEach es X.env)).any (·.1) = false := by rfl) :
    DE K O Wx X (.Call (.Name x p) (e :: es) [] pos) (tCB r ta) (mCl O f ma) := ⟨ha.hK, ha.tk, pe_callTy hc hg hm hb ha.pe hn hdb he hpl, snd_cl hv ha.sn⟩
/-- a def's promise by its mirror -/
def PstF (K : PySem.W.Frag) (O : Wo) (G : Gh) (H : Hp) (r : R O.S D) (Q : VK) (E : XK) : Prop :=
  match r with
  | .ok d s' => ∀ v G' H', Tr O.W G H G' H' → O.ok K s' G' H' → Rep K G' v d → Q v H'
  | .err c fs s' => ∀ dd xs G' H', Tr O.W G H G' H' → O.ok K s' G' H' → XdA H' dd xs → NwA O dd → RepF K G' xs fs → E (.ref c) dd H'
  | .bad => False
def spM (K : PySem.W.Frag) (O : Wo) (n : Nat) (m : List D → O.S → R O.S D) : Sp := fun vs H Q E => vs.length = n ∧ ∃ G ds s, Sh G H ∧ (∀ a, O.W a → G a = none) ∧ O.ok K s G H ∧ Reps K G vs ds ∧ PstF K O G H (m ds s) Q E
def mCall (O : Wo) (n : Nat) (m : List D → O.S → R O.S D) (a : MA O) : ME O := fun ρ s => (a ρ s).bind fun xs s1 => if xs.length = n then m xs s1 else .bad
theorem call_snd {n : Nat} {m : List D → O.S → R O.S D} {ta : TA} {ma : MA O} (h : SndA K O Wx ta ma) : SndE K O Wx (tCallS (spM K O n m) (WE Wx) ta) (mCall O n m ma) := by
  intro σ ρ H0 G H s Q F hq
  refine h σ ρ H0 G H s _ F (pst_bind hq fun ds s1 _ xs G1 H1 t1 k1 r1 h1 => ?_)
  have F1 := F.tr t1 k1
  by_cases e : ds.length = n
  · rw [if_pos e] at h1
    refine ⟨by rw [r1.length]; exact e, G1, ds, s1, F1.gh, F1.wg, F1.ok, r1, ?_⟩
    revert h1
    cases m ds s1 <;> exact fun h1 => h1
  · rw [if_neg e] at h1
    exact (show False from h1).elim
/-- what is known of a def that is called by its name -/
structure Fo (P : Program) (w : World) (K : PySem.W.Frag) (mg : Str → Option Value) (base : Heap) (O : Wo) (k : Nat) (x : Str) (n : Nat) (m : List D → O.S → R O.S D) : Prop where
  ex : ∃ f fd ps, FnOk P w K mg base (L2.CX P w) k f fd ps (spM K O n m) ∧ mg x = some (.ref f) ∧ PySem.W.keepIn K (.ref f) = true ∧ Binds K fd ps []
theorem de_call {k j n : Nat} {x : Str} {m : List D → O.S → R O.S D} {e : Expr} {es : List Expr} {ta : TA} {ma : MA O} {p pos : Pos} (F : Fo X.prog X.w X.K X.mg X.base O k x n m) (hr : Room j X.A) (hk : k ≤ j) (ha : DA K O Wx X (e :: es) ta ma)
    (hg : Gl X x := by rfl) (hdb : (x == ("__debug__" : Str)) = false := by decide) (he : starEach (e :: es) X.env = (false, eval e X.env) :: starEach es X.env := by rfl) (hpl : (backTo pos (starEach es X.env)).any (·.1) = false := by rfl) :
    DE K O Wx X (.Call (.Name x p) (e :: es) [] pos) (tCallS (spM K O n m) (WE Wx) ta) (mCall O n m ma) := by
  obtain ⟨f, fd, ps, Fn, hm, kp, bi⟩ := F.ex
  refine ⟨ha.hK, ha.tk, ?_, call_snd ha.sn⟩
  have := ha.hK
  subst this
  exact pe_callS Fn (hr.mono hk) hg hm kp bi (fun σ => passAt ha.tk σ) ha.pe hdb he hpl
end
end Mr
namespace Mr
open PySem PySem.Spec PyProof.Rows L2
section
variable {K : PySem.W.Frag} {O : Wo} {Wx : WX} {X : Cx}
/-- the sum of two lists, wherever they stand -/
def rCatG (K : PySem.W.Frag) : R2 := fun x y H Q => ∃ l b xs zs, x = .ref l ∧ y = .ref b ∧ SqL K H l xs ∧ SqL K H b zs ∧ xs.length + zs.length ≤ sizeLine ∧ ∀ p, H p = none → Q (.ref p) (upd H p (.lst (xs ++ zs)))
theorem op_catG : OpR X (binaryOp .Add) (rCatG X.K) := by
  intro pins s σ H x y v u Q I rx ry h
  obtain ⟨l, b, xs, zs, rfl, rfl, hH, hB, hz, q⟩ := h
  cases rx
  cases ry
  obtain ⟨its, r, p1, _⟩ := I.list hH
  obtain ⟨its2, r2, p2, _⟩ := I.list hB
  obtain ⟨⟨cls, dd, data, sl⟩, ho, hc, n, hd⟩ := id p1.isList
  obtain ⟨⟨cls2, dd2, data2, sl2⟩, ho2, hc2, n2, hd2⟩ := id p2.isList
  simp only at hc hd hc2 hd2
  subst hc hd hc2 hd2
  have e : its.toArray ++ its2.toArray = (its ++ its2).toArray := by simp
  have l1 := r.length
  have l2 := r2.length
  refine concat_meets ⟨_, ho, rfl⟩ ⟨_, ho2, rfl⟩ noFill_list_add seq_list_add PySem.F.slot_list_add PySem.F.entry_list_add (PySem.F.args_list_add_2 _ _) (list_addW l b its.toArray its2.toArray n n2 dd dd2 sl sl2 (by rw [List.size_toArray, List.size_toArray]; omega)) ⟨ho, ho2, ?_⟩
  rw [e]
  exact ⟨.ref _, _, I.lnew (t' := s.toks) (r.append r2) (by rw [List.length_append]; omega), rfl, q _ I.fresh⟩
def rStrAdd : R2 := fun x y H Q => ∃ i j, x = .str i ∧ y = .str j ∧ i.length + j.length ≤ sizeLine ∧ Q (.str (i ++ j)) H
def rAddG (K : PySem.W.Frag) : R2 := fun x y H Q => rI0 (fun i j => .int (i + j)) x y H Q ∨ rCatG K x y H Q ∨ rCatA K x y H Q ∨ rStrAdd x y H Q
theorem op_addG (hK : X.K = K) : OpR X (binaryOp .Add) (rAddG K) := by
  subst hK
  exact op_add.or (op_catG.or (op_catA.or op_add_str))
def dAdd : D → D → Option D
  | .int i, .int j => some (.int (i + j))
  | .lst xs, .lst ys => if xs.length + ys.length ≤ 100000 then some (.lst (xs ++ ys)) else none
  | .tup xs, .tup ys => if xs.length + ys.length ≤ 100000 then some (.tup (xs ++ ys)) else none
  | .str x, .str y => if x.length + y.length ≤ 100000 then some (.str (x ++ y)) else none
  | _, _ => none
/-- a new object, told -/
theorem new_lst {G : Gh} {H : Hp} {p : Addr} {vs : List V} {ds : List D} (g : Sh G H) (n : H p = none) (r : Reps K G vs ds) : Rep K (up G p (.lst vs)) (.ref p) (.lst ds) :=
  .lst sqL_new (r.mono (Tr0.new (o := .lst vs) g n).gg)
theorem new_tup {G : Gh} {H : Hp} {p : Addr} {vs : List V} {ds : List D} (g : Sh G H) (n : H p = none) (r : Reps K G vs ds) : Rep K (up G p (.tup vs)) (.ref p) (.tup ds) :=
  .tup sqT_new (r.mono (Tr0.new (o := .tup vs) g n).gg)
theorem Reps.nil_iff {G : Gh} {vs : List V} {ds : List D} (r : Reps K G vs ds) : vs = [] ↔ ds = [] := by
  cases r <;> simp
theorem vop_add : VOp K (rAddG K) dAdd := by
  intro G H x y dx dy d Q g rx ry e q
  unfold dAdd at e
  split at e
  · cases e; cases rx; cases ry
    exact .inl ⟨_, _, rfl, rfl, q _ G H (.refl g) (.int _)⟩
  · split at e
    · rename_i hz
      cases e
      cases rx with
      | lst hx r1 =>
        cases ry with
        | lst hy r2 =>
          have l1 := r1.length
          have l2 := r2.length
          exact .inr (.inl ⟨_, _, _, _, rfl, rfl, g.seq hx, g.seq hy, sz5 (by omega), fun p n => q _ _ _ (Tr0.new g n) (new_lst g n (r1.append r2))⟩)
    · cases e
  · split at e
    · rename_i hz
      cases e
      cases rx with
      | @tup a vs ds hx r1 =>
        cases ry with
        | @tup b ws es hy r2 =>
          have l1 := r1.length
          have l2 := r2.length
          refine .inr (.inr (.inl ⟨_, _, vs, ws, rfl, rfl, g.seqT hx, g.seqT hy, sz5 (by omega), fun z => ?_, fun z z2 => ?_, fun z z2 p n => ?_⟩))
          · have z' := r1.nil_iff.mp z
            subst z'
            exact q _ G H (.refl g) (.tup hy r2)
          · have z' := r2.nil_iff.mp z2
            subst z'
            rw [List.append_nil] at q
            exact q _ G H (.refl g) (.tup hx r1)
          · exact q _ _ _ (Tr0.new g n) (new_tup g n (r1.append r2))
    · cases e
  · split at e
    · rename_i hz
      cases e; cases rx; cases ry
      exact .inr (.inr (.inr ⟨_, _, rfl, rfl, sz5 hz, q _ G H (.refl g) (.str _)⟩))
    · cases e
  · cases e
def dInt2 (f : Int → Int → Option D) : D → D → Option D
  | .int i, .int j => f i j
  | _, _ => none
theorem vop_int {C : Int → Int → Prop} [∀ i j, Decidable (C i j)] {f : Int → Int → Int} : VOp K (rI C fun i j => .int (f i j)) (dInt2 fun i j => if C i j then some (.int (f i j)) else none) := by
  intro G H x y dx dy d Q g rx ry e q
  unfold dInt2 at e
  split at e
  · dsimp only at e
    split at e
    · rename_i hc
      cases e; cases rx; cases ry
      exact ⟨_, _, rfl, rfl, hc, q _ G H (.refl g) (.int _)⟩
    · cases e
  · cases e
theorem vop_int0 {f : Int → Int → Int} : VOp K (rI0 fun i j => .int (f i j)) (dInt2 fun i j => some (.int (f i j))) := by
  intro G H x y dx dy d Q g rx ry e q
  unfold dInt2 at e
  split at e
  · cases e; cases rx; cases ry
    exact ⟨_, _, rfl, rfl, q _ G H (.refl g) (.int _)⟩
  · cases e
theorem vop_intB {f : Int → Int → Bool} : VOp K (rI0 fun i j => .bl (f i j)) (dInt2 fun i j => some (.bl (f i j))) := by
  intro G H x y dx dy d Q g rx ry e q
  unfold dInt2 at e
  split at e
  · cases e; cases rx; cases ry
    exact ⟨_, _, rfl, rfl, q _ G H (.refl g) (.bl _)⟩
  · cases e
def dSub : D → D → Option D := dInt2 fun i j => some (.int (i - j))
def CMulG (i j : Int) : Prop := i.natAbs.log2 < 4000 ∧ j.natAbs.log2 < 4000
instance : ∀ i j, Decidable (CMulG i j) := fun i j => by unfold CMulG; infer_instance
theorem CMulG.w {i j : Int} (h : CMulG i j) : CMulW i j := by unfold CMulG at h; unfold CMulW; omega
theorem op_mulG : OpR X (binaryOp .Mult) (rI CMulG fun i j => .int (i * j)) := opI fun _ _ _ _ _ _ _ hc q => mul_int q hc.w.ok
theorem iop_mulG : OpR X (inplaceOp .Mult) (rI CMulG fun i j => .int (i * j)) := opI fun _ _ _ _ _ _ _ hc q => imul_int q hc.w.ok
def dMul : D → D → Option D := dInt2 fun i j => if CMulG i j then some (.int (i * j)) else none
theorem vop_mul : VOp K (rI CMulG fun i j => .int (i * j)) dMul := vop_int
def CDivG (i j : Int) : Prop := j ≠ 0 ∧ j.natAbs.log2 < 9000
instance : ∀ i j, Decidable (CDivG i j) := fun i j => by unfold CDivG; infer_instance
theorem op_fdivG : OpR X (binaryOp .FloorDiv) (rI CDivG fun i j => .int (i.fdiv j)) := opI fun i j _ _ _ _ _ hc q => floordiv_int hc.1 q (.inl (PyProof.noPylong_of_log2 hc.2))
def dDiv : D → D → Option D := dInt2 fun i j => if CDivG i j then some (.int (i.fdiv j)) else none
theorem vop_div : VOp K (rI CDivG fun i j => .int (i.fdiv j)) dDiv := vop_int
def CModG (i j : Int) : Prop := j ≠ 0
instance : ∀ i j, Decidable (CModG i j) := fun i j => by unfold CModG; infer_instance
theorem op_modG : OpR X (binaryOp .Mod) (rI CModG fun i j => .int (i.fmod j)) := opI fun _ _ _ _ _ _ _ hc q => mod_int' hc q
def dMod : D → D → Option D := dInt2 fun i j => if CModG i j then some (.int (i.fmod j)) else none
theorem vop_mod : VOp K (rI CModG fun i j => .int (i.fmod j)) dMod := vop_int
def CPowG (i j : Int) : Prop := 0 ≤ j ∧ j ≤ 1000 ∧ i.natAbs < 2 ^ 64
instance : ∀ i j, Decidable (CPowG i j) := fun i j => by unfold CPowG; infer_instance
theorem op_powG : OpR X (binaryOp .Pow) (rI CPowG fun i j => .int (i ^ j.toNat)) := opI fun _ _ _ _ _ _ _ hc q => pow_int_small hc.1 (by have := hc.2.1; omega) hc.2.2 q
def dPow : D → D → Option D := dInt2 fun i j => if CPowG i j then some (.int (i ^ j.toNat)) else none
theorem vop_pow : VOp K (rI CPowG fun i j => .int (i ^ j.toNat)) dPow := vop_int
def dNeg : D → Option D
  | .int i => some (.int (-i))
  | _ => none
section
variable {a b c : Expr} {ta tb tc : TE} {ma mb mc : ME O} {pos : Pos}
theorem de_add (ha : DE K O Wx X a ta ma) (hb : DE K O Wx X b tb mb) : DE K O Wx X (.BinOp a .Add b pos) (tOp (rAddG K) ta tb) (mBin O dAdd ma mb) := de_bin (op_addG ha.hK) vop_add ha hb
theorem de_sub (ha : DE K O Wx X a ta ma) (hb : DE K O Wx X b tb mb) : DE K O Wx X (.BinOp a .Sub b pos) (tOp (rI0 fun i j => .int (i - j)) ta tb) (mBin O dSub ma mb) := de_bin op_sub vop_int0 ha hb
theorem de_mul (ha : DE K O Wx X a ta ma) (hb : DE K O Wx X b tb mb) : DE K O Wx X (.BinOp a .Mult b pos) (tOp (rI CMulG fun i j => .int (i * j)) ta tb) (mBin O dMul ma mb) := de_bin op_mulG vop_mul ha hb
theorem de_div (ha : DE K O Wx X a ta ma) (hb : DE K O Wx X b tb mb) : DE K O Wx X (.BinOp a .FloorDiv b pos) (tOp (rI CDivG fun i j => .int (i.fdiv j)) ta tb) (mBin O dDiv ma mb) := de_bin op_fdivG vop_div ha hb
theorem de_mod (ha : DE K O Wx X a ta ma) (hb : DE K O Wx X b tb mb) : DE K O Wx X (.BinOp a .Mod b pos) (tOp (rI CModG fun i j => .int (i.fmod j)) ta tb) (mBin O dMod ma mb) := de_bin op_modG vop_mod ha hb
theorem de_pow (ha : DE K O Wx X a ta ma) (hb : DE K O Wx X b tb mb) : DE K O Wx X (.BinOp a .Pow b pos) (tOp (rI CPowG fun i j => .int (i ^ j.toNat)) ta tb) (mBin O dPow ma mb) := de_bin op_powG vop_pow ha hb
end
def dLt : D → D → Option D := dInt2 fun i j => some (.bl (decide (i < j)))
def dLe : D → D → Option D := dInt2 fun i j => some (.bl (decide (i ≤ j)))
def dGt : D → D → Option D := dInt2 fun i j => some (.bl (decide (j < i)))
def dGe : D → D → Option D := dInt2 fun i j => some (.bl (decide (j ≤ i)))
mutual
def toP : D → Option PyData
  | .non => some .none
  | .bl b => some (.bool b)
  | .int i => some (.int i)
  | .str x => some (.str x)
  | .lst xs => (toPs xs).map .list
  | .tup xs => (toPs xs).map .tuple
  | _ => none
def toPs : List D → Option (List PyData)
  | [] => some []
  | x :: xs => match toP x, toPs xs with
    | some p, some ps => some (p :: ps)
    | _, _ => none
end
mutual
theorem Rep.dp {G : Gh} {H : Hp} (g : Sh G H) : ∀ {v : V} {d : D} {p : PyData}, Rep K G v d → toP d = some p → Dp K H v p
  | _, _, _, .non, h => by simp only [toP, Option.some.injEq] at h; subst h; exact .non
  | _, _, _, .bl b, h => by simp only [toP, Option.some.injEq] at h; subst h; exact .bl b
  | _, _, _, .int b, h => by simp only [toP, Option.some.injEq] at h; subst h; exact .int b
  | _, _, _, .str b, h => by simp only [toP, Option.some.injEq] at h; subst h; exact .str b
  | _, _, _, .lst hs r, h => by
    simp only [toP, Option.map_eq_some_iff] at h
    obtain ⟨ps, h1, rfl⟩ := h
    exact .lst (g.seq hs) (Reps.dp g r h1)
  | _, _, _, .tup hs r, h => by
    simp only [toP, Option.map_eq_some_iff] at h
    obtain ⟨ps, h1, rfl⟩ := h
    exact .tup (g.seqT hs) (Reps.dp g r h1)
  | _, _, _, .ref a, h => by simp [toP] at h
  | _, _, _, .ty a, h => by simp [toP] at h
  | _, _, _, .ins _ _, h => by simp [toP] at h
  | _, _, _, .dct _ _, h => by simp [toP] at h
theorem Reps.dp {G : Gh} {H : Hp} (g : Sh G H) : ∀ {v : List V} {d : List D} {p : List PyData}, Reps K G v d → toPs d = some p → DpAll K H v p
  | _, _, _, .nil, h => by simp only [toPs, Option.some.injEq] at h; subst h; exact .nil
  | _, _, _, .cons q r, h => by
    simp only [toPs] at h
    split at h
    · rename_i p ps e1 e2
      cases h
      exact .cons (Rep.dp g q e1) (Reps.dp g r e2)
    · cases h
end
/-- == of data: scalars of one kind outright, the rest where it is shaped -/
def dEqB : D → D → Option Bool
  | .int i, .int j => some (decide (i = j))
  | .str i, .str j => some (decide (i = j))
  | .bl i, .bl j => some (decide (i = j))
  | .non, .non => some true
  | .non, .int _ => some false
  | .int _, .non => some false
  | .int _, .str _ => some false
  | .str _, .int _ => some false
  | .non, .str _ => some false
  | .str _, .non => some false
  | a, b => match toP a, toP b with
    | some p, some q => if SeqAt.shaped p = true ∧ SeqAt.shaped q = true then some (PyData.eqv p q) else none
    | _, _ => none
def rEqG (K : PySem.W.Frag) : R2 := fun x y H Q => rEq x y H Q ∨ rEqD K x y H Q
def rNeG (K : PySem.W.Frag) : R2 := fun x y H Q => rNe x y H Q ∨ rNeD K x y H Q
theorem op_eqG (hK : X.K = K) (hu : X.A.units + 64 < cLine) : OpR X (compareOp .Eq) (rEqG K) := by subst hK; exact op_eq.or (op_eqD hu)
theorem op_neG (hK : X.K = K) (hu : X.A.units + 64 < cLine) : OpR X (compareOp .NotEq) (rNeG K) := by subst hK; exact op_ne.or (op_neD hu)
theorem eqB_ok {G : Gh} {H : Hp} {x y : V} {dx dy : D} {b : Bool} (g : Sh G H) (rx : Rep K G x dx) (ry : Rep K G y dy) (e : dEqB dx dy = some b) :
    (scal x y = true ∧ decide (x = y) = b) ∨ ∃ p q, Dp K H x p ∧ Dp K H y q ∧ SeqAt.shaped p = true ∧ SeqAt.shaped q = true ∧ PyData.eqv p q = b := by
  unfold dEqB at e
  split at e
  · cases e; cases rx; cases ry
    exact .inl ⟨rfl, by simp⟩
  · cases e; cases rx; cases ry
    exact .inl ⟨rfl, by simp⟩
  · cases e; cases rx; cases ry
    exact .inl ⟨rfl, by simp⟩
  · cases e; cases rx; cases ry
    exact .inl ⟨rfl, by simp⟩
  · cases e; cases rx; cases ry
    exact .inl ⟨rfl, by simp⟩
  · cases e; cases rx; cases ry
    exact .inl ⟨rfl, by simp⟩
  · cases e; cases rx; cases ry
    exact .inl ⟨rfl, by simp⟩
  · cases e; cases rx; cases ry
    exact .inl ⟨rfl, by simp⟩
  · cases e; cases rx; cases ry
    exact .inl ⟨rfl, by simp⟩
  · cases e; cases rx; cases ry
    exact .inl ⟨rfl, by simp⟩
  · split at e
    · rename_i p q e1 e2
      split at e
      · rename_i hs
        cases e
        exact .inr ⟨p, q, rx.dp g e1, ry.dp g e2, hs.1, hs.2, rfl⟩
      · cases e
    · cases e
def dEq (a b : D) : Option D := (dEqB a b).map .bl
def dNe (a b : D) : Option D := (dEqB a b).map fun c => .bl (!c)
theorem vop_eq : VOp K (rEqG K) dEq := by
  intro G H x y dx dy d Q g rx ry e q
  unfold dEq at e
  rw [Option.map_eq_some_iff] at e
  obtain ⟨b, e, rfl⟩ := e
  rcases eqB_ok g rx ry e with ⟨h1, h2⟩ | ⟨p, r, h1, h2, h3, h4, h5⟩
  · exact .inl ⟨h1, by rw [h2]; exact q _ G H (.refl g) (.bl _)⟩
  · exact .inr ⟨p, r, h1, h2, h3, h4, by rw [h5]; exact q _ G H (.refl g) (.bl _)⟩
theorem vop_ne : VOp K (rNeG K) dNe := by
  intro G H x y dx dy d Q g rx ry e q
  unfold dNe at e
  rw [Option.map_eq_some_iff] at e
  obtain ⟨b, e, rfl⟩ := e
  rcases eqB_ok g rx ry e with ⟨h1, h2⟩ | ⟨p, r, h1, h2, h3, h4, h5⟩
  · exact .inl ⟨h1, by rw [h2]; exact q _ G H (.refl g) (.bl _)⟩
  · exact .inr ⟨p, r, h1, h2, h3, h4, by rw [h5]; exact q _ G H (.refl g) (.bl _)⟩
/-- is None, is True, is False -/
def rIsG : R2 := fun x y H Q => (y = .non ∧ Q (.bl (decide (x = .non))) H) ∨ rIsB x y H Q
def isNon : D → Bool
  | .non => true
  | _ => false
def dIsB : D → D → Option Bool
  | x, .non => some (isNon x)
  | .bl a, .bl b => some (decide (a = b))
  | _, _ => none
def dIs (x y : D) : Option D := (dIsB x y).map .bl
theorem Rep.isNon {G : Gh} {v : V} {d : D} (r : Rep K G v d) : decide (v = V.non) = Mr.isNon d := by
  cases r <;> simp [Mr.isNon]
theorem vop_is : VOp K rIsG dIs := by
  intro G H x y dx dy d Q g rx ry e q
  unfold dIs at e
  rw [Option.map_eq_some_iff] at e
  obtain ⟨b, e, rfl⟩ := e
  unfold dIsB at e
  split at e
  · cases e; cases ry
    exact .inl ⟨rfl, by rw [rx.isNon]; exact q _ G H (.refl g) (.bl _)⟩
  · cases e; cases rx; cases ry
    exact .inr ⟨_, _, rfl, rfl, q _ G H (.refl g) (.bl _)⟩
  · cases e
theorem op_isG : OpR X (compareOp .Is) rIsG := op_isN.or op_isBl
section
variable {a b c : Expr} {ta tb tc : TE} {ma mb mc : ME O} {pos : Pos} {j : Nat}
theorem de_is (ha : DE K O Wx X a ta ma) (hb : DE K O Wx X b tb mb) : DE K O Wx X (.Compare a [.Is] [b] pos) (tOp rIsG ta tb) (mBin O dIs ma mb) := de_cmp op_isG vop_is ha hb (nomark _)
theorem dt_lt (ha : DE K O Wx X a ta ma) (hb : DE K O Wx X b tb mb) : DT K O Wx X (.Compare a [.Lt] [b] pos) (tTest (tOp (rI0 fun i j => .bl (decide (i < j))) ta tb)) (mTest O (mBin O dLt ma mb)) := dt_cmp op_lt vop_intB ha hb (nomark _)
theorem dt_gt (ha : DE K O Wx X a ta ma) (hb : DE K O Wx X b tb mb) : DT K O Wx X (.Compare a [.Gt] [b] pos) (tTest (tOp (rI0 fun i j => .bl (decide (j < i))) ta tb)) (mTest O (mBin O dGt ma mb)) := dt_cmp op_gt vop_intB ha hb (nomark _)
theorem dt_ge (ha : DE K O Wx X a ta ma) (hb : DE K O Wx X b tb mb) : DT K O Wx X (.Compare a [.GtE] [b] pos) (tTest (tOp (rI0 fun i j => .bl (decide (j ≤ i))) ta tb)) (mTest O (mBin O dGe ma mb)) := dt_cmp op_ge vop_intB ha hb (nomark _)
theorem dt_eq (hr : Room j X.A) (ha : DE K O Wx X a ta ma) (hb : DE K O Wx X b tb mb) : DT K O Wx X (.Compare a [.Eq] [b] pos) (tTest (tOp (rEqG K) ta tb)) (mTest O (mBin O dEq ma mb)) := dt_cmp (op_eqG ha.hK hr.units) vop_eq ha hb (nomark _)
end
section
variable {a b c : Expr} {ta tb tc : TE} {ma mb mc : ME O} {pos : Pos}
def mChain (O : Wo) (f g : D → D → Option D) (a b c : ME O) : ME O := fun ρ s => (a ρ s).bind fun x s1 => (b ρ s1).bind fun y s2 => (R.lift (f x y) s2).bind fun z s3 => match z with
  | .bl true => (c ρ s3).bind fun w s4 => R.lift (g y w) s4
  | .bl false => .ok (.bl false) s3
  | _ => .bad
theorem snd_chain {r r' : R2} {f g : D → D → Option D} (hv : VOp K r f) (hv' : VOp K r' g) (ha : SndE K O Wx ta ma) (hb : SndE K O Wx tb mb) (hc : SndE K O Wx tc mc) : SndE K O Wx (tChain r r' ta tb tc) (mChain O f g ma mb mc) := by
  intro σ ρ H0 G H s Q F h
  refine ha σ ρ H0 G H s _ F (pst_bind h fun dx s1 _ x G1 H1 t1 k1 r1 h1 => ?_)
  have F1 := F.tr t1 k1
  refine hb σ ρ H0 G1 H1 s1 _ F1 (pst_bind h1 fun dy s2 _ y G2 H2 t2 k2 r2 h2 => ?_)
  have F2 := F1.tr t2 k2
  cases e : f dx dy with
  | none => rw [e] at h2; exact (show False from h2).elim
  | some z =>
    rw [e] at h2
    refine hv G2 H2 x y dx dy z _ F2.gh (r1.mono t2.gg) r2 e fun v G3 H3 t3 r3 => ?_
    have F3 := F2.tr0 t3
    cases z with
    | bl k =>
      cases r3
      cases k with
      | true =>
        refine ⟨true, rfl, ?_⟩
        have h3 : Pst K O Wx σ G2 H2 (Rep K) ((mc ρ s2).bind fun w s4 => R.lift (g dy w) s4) Q := h2
        refine hc σ ρ H0 G3 H3 s2 _ F3 (pst_bind (h3.shift t3.up) fun dw s4 _ w' G4 H4 t4 k4 r4 h4 => ?_)
        have F4 := F3.tr t4 k4
        obtain ⟨d, e5, q5⟩ := pst_lift F4 h4
        exact hv' G4 H4 y w' dy dw d Q F4.gh ((r2.mono t3.gg).mono t4.gg) r4 e5 q5
      | false =>
        refine ⟨false, rfl, ?_⟩
        exact h2 (.bl false) G3 H3 t3.up F3.ok (.bl false)
    | _ => exact (show False from h2).elim
theorem dt_chain {op op' : CmpOp} {r r' : R2} {f g : D → D → Option D} (ho : OpR X (compareOp op) r) (ho' : OpR X (compareOp op') r') (hv : VOp K r f) (hv' : VOp K r' g) (ha : DE K O Wx X a ta ma) (hb : DE K O Wx X b tb mb) (hc : DE K O Wx X c tc mc)
    (hm : lastMarks [op, op'] [b, c] = false := by with_unfolding_all rfl) : DT K O Wx X (.Compare a [op, op'] [b, c] pos) (tTest (tChain r r' ta tb tc)) (mTest O (mChain O f g ma mb mc)) :=
  ⟨ha.hK, ha.tk, pt_chain ho ho' ha.pe hb.pe hc.pe hm, snd_test (snd_chain hv hv' ha.sn hb.sn hc.sn)⟩
end
def dIdx : D → D → Option D
  | .lst xs, .int i => atI xs i
  | .tup xs, .int i => atI xs i
  | .str z, .int i => if z.length ≤ 100000 then (atI z.cps.toList i).map fun c => .str ⟨#[c]⟩ else none
  | _, _ => none
theorem Reps.atI {G : Gh} {vs : List V} {ds : List D} {i : Int} {d : D} (r : Reps K G vs ds) (h : L2.atI ds i = some d) : ∃ v, L2.atI vs i = some v ∧ Rep K G v d := by
  unfold L2.atI at h ⊢
  rw [r.length]
  cases e : ixN ds.length i with
  | none => rw [e] at h; cases h
  | some j =>
    rw [e] at h
    exact r.get' h
theorem vop_idx : VOp K (rIx K) dIdx := by
  intro G H x y dx dy d Q g rx ry e q
  unfold dIdx at e
  split at e
  · cases ry
    cases rx with
    | lst hs r =>
      obtain ⟨v, h1, h2⟩ := r.atI e
      exact .inl ⟨_, _, _, v, rfl, rfl, g.seq hs, h1, q _ G H (.refl g) h2⟩
  · cases ry
    cases rx with
    | tup hs r =>
      obtain ⟨v, h1, h2⟩ := r.atI e
      exact .inr (.inl ⟨_, _, _, v, rfl, rfl, g.seqT hs, h1, q _ G H (.refl g) h2⟩)
  · split at e
    · rename_i hz
      rw [Option.map_eq_some_iff] at e
      obtain ⟨c, e, rfl⟩ := e
      cases rx; cases ry
      exact .inr (.inr ⟨_, _, c, rfl, rfl, sz5 hz, e, q _ G H (.refl g) (.str _)⟩)
    · cases e
  · cases e
theorem ix_G (hK : X.K = K) : IxR X (rIx K) := by subst hK; exact ix_seq
theorem de_idx {a b : Expr} {ta tb : TE} {ma mb : ME O} {pos : Pos} (ha : DE K O Wx X a ta ma) (hb : DE K O Wx X b tb mb) (hs : PlainIx b := by exact fun _ _ => rfl) : DE K O Wx X (.Subscript a b pos) (tOp (rIx K) ta tb) (mBin O dIdx ma mb) :=
  ⟨ha.hK, ha.tk, pe_ix (ix_G ha.hK) ha.pe hb.pe hs, snd_op vop_idx ha.sn hb.sn⟩
def cutD (xs : List D) (lo hi : Option Int) : List D := (xs.drop (HT.sIx xs.length 0 lo)).take (HT.sIx xs.length xs.length hi - HT.sIx xs.length 0 lo)
theorem Reps.cut {G : Gh} {vs : List V} {ds : List D} (r : Reps K G vs ds) (lo hi : Option Int) : Reps K G (cutV vs lo hi) (cutD ds lo hi) := by
  unfold cutV cutD
  rw [r.length]
  exact (r.drop _).take _
theorem Reps.cut_whole {G : Gh} {vs : List V} {ds : List D} (r : Reps K G vs ds) {lo hi : Option Int} (z : HT.sIx vs.length 0 lo = 0 ∧ HT.sIx vs.length vs.length hi = vs.length) : cutD ds lo hi = ds := by
  unfold cutD
  rw [← r.length, z.1, z.2, List.drop_zero, Nat.sub_zero, r.length, List.take_length]
def dCut : D → Option Int → Option Int → Option D
  | .lst xs, lo, hi => some (.lst (cutD xs lo hi))
  | .tup xs, lo, hi => some (.tup (cutD xs lo hi))
  | _, _, _ => none
abbrev MO (O : Wo) := Ev → O.S → R O.S (Option Int)
def SndO (K : PySem.W.Frag) (O : Wo) (Wx : WX) (t : TO) (m : MO O) : Prop := ∀ σ ρ H0 G H s Q, Fm K O H0 σ ρ G H s → Pst K O Wx σ G H (fun _ b c => b = c) (m ρ s) Q → t σ H Q
structure DO (K : PySem.W.Frag) (O : Wo) (Wx : WX) (X : Cx) (e : Option Expr) (t : TO) (m : MO O) : Prop where
  hK : X.K = K
  pe : PO X e t
  sn : SndO K O Wx t m
def mNoPart (O : Wo) : MO O := fun _ s => .ok none s
def mPart (O : Wo) (m : ME O) : MO O := fun ρ s => (m ρ s).bind fun x s1 => match x with
  | .int i => .ok (some i) s1
  | _ => .bad
theorem do_none (c : Cn K Wx X) : DO K O Wx X none tNoPart (mNoPart O) := ⟨c.hK, po_none, fun σ ρ H0 G H s Q F h => h none G H (.refl F.gh) F.ok rfl⟩
theorem do_some {e : Expr} {te : TE} {me : ME O} (he : DE K O Wx X e te me) : DO K O Wx X (some e) (tPart te) (mPart O me) := by
  refine ⟨he.hK, po_some he.pe, fun σ ρ H0 G H s Q F h => ?_⟩
  refine he.sn σ ρ H0 G H s _ F (pst_bind h fun dx s1 _ x G1 H1 t1 k1 r1 h1 => ?_)
  cases dx with
  | int i =>
    cases r1
    exact ⟨i, rfl, h1 (some i) G1 H1 (.refl t1.gh) k1 rfl⟩
  | _ => exact (show False from h1).elim
def rSlG (K : PySem.W.Frag) : V → Option Int → Option Int → Hp → VK → Prop := fun x lo hi H Q => rSlL K x lo hi H Q ∨ rSlA K x lo hi H Q
theorem sl_G (hK : X.K = K) : SlR X (rSlG K) := by subst hK; exact sl_list.or sl_tupA
def mSlice (O : Wo) (a : ME O) (l h : MO O) : ME O := fun ρ s => (a ρ s).bind fun x s1 => (l ρ s1).bind fun lo s2 => (h ρ s2).bind fun hi s3 => R.lift (dCut x lo hi) s3
theorem de_slice {e : Expr} {lo hi : Option Expr} {te : TE} {tl th : TO} {me : ME O} {ml mh : MO O} {p2 pos : Pos} (he : DE K O Wx X e te me) (hl : DO K O Wx X lo tl ml) (hh : DO K O Wx X hi th mh) :
    DE K O Wx X (.Subscript e (.Slice lo hi none p2) pos) (tSl (rSlG K) te tl th) (mSlice O me ml mh) := by
  refine ⟨he.hK, he.tk, pe_slice (sl_G he.hK) he.pe hl.pe hh.pe, fun σ ρ H0 G H s Q F h => ?_⟩
  refine he.sn σ ρ H0 G H s _ F (pst_bind h fun dx s1 _ x G1 H1 t1 k1 r1 h1 => ?_)
  have F1 := F.tr t1 k1
  refine hl.sn σ ρ H0 G1 H1 s1 _ F1 (pst_bind h1 fun l s2 _ l' G2 H2 t2 k2 r2 h2 => ?_)
  have F2 := F1.tr t2 k2
  subst r2
  refine hh.sn σ ρ H0 G2 H2 s2 _ F2 (pst_bind h2 fun u s3 _ u' G3 H3 t3 k3 r3 h3 => ?_)
  have F3 := F2.tr t3 k3
  subst r3
  obtain ⟨d, e4, q⟩ := pst_lift F3 h3
  have rx : Rep K G3 x dx := (r1.mono t2.gg).mono t3.gg
  unfold dCut at e4
  split at e4
  · cases e4
    cases rx with
    | lst hs r => exact .inl ⟨_, _, rfl, F3.gh.seq hs, fun p n => q _ _ _ (Tr0.new F3.gh n) (new_lst F3.gh n (r.cut _ _))⟩
  · cases e4
    cases rx with
    | tup hs r =>
      refine .inr ⟨_, _, rfl, F3.gh.seqT hs, fun z => ?_, fun z p n => q _ _ _ (Tr0.new F3.gh n) (new_tup F3.gh n (r.cut _ _))⟩
      rw [r.cut_whole z] at q
      exact q _ G3 H3 (.refl F3.gh) (.tup hs r)
  · cases e4
end
end Mr
namespace Mr
open PySem PySem.Spec PyProof.Rows L2
inductive RS (S : Type) where
  | nx (ρ : Ev) (s : S) | rt (d : D) (s : S) | rn (ds : List D) (s : S) | bk (ρ : Ev) (s : S) | ct (ρ : Ev) (s : S) | err (c : Addr) (fs : List (Str × D)) (ρ : Ev) (s : S) | bad
abbrev MS (O : Wo) := Ev → O.S → RS O.S
/-- a body's frame: what holds of it, and how it came from the def's entry (G0, H0) -/
structure Fs (K : PySem.W.Frag) (O : Wo) (G0 : Gh) (H0 : Hp) (σ : L2.St) (ρ : Ev) (G : Gh) (H : Hp) (s : O.S) : Prop where
  fm : Fm K O H0 σ ρ G H s
  tr : Tr O.W G0 H0 G H
def PstS (K : PySem.W.Frag) (O : Wo) (Wx : WX) (G0 : Gh) (H0 : Hp) (G : Gh) (r : RS O.S) (Dn : Ends) : Prop :=
  match r with
  | .nx ρ s => ∀ σ G' H', Sm G G' → Fs K O G0 H0 σ ρ G' H' s → Dn.nx σ H'
  | .bk ρ s => ∀ σ G' H', Sm G G' → Fs K O G0 H0 σ ρ G' H' s → Dn.bk σ H'
  | .ct ρ s => ∀ σ G' H', Sm G G' → Fs K O G0 H0 σ ρ G' H' s → Dn.ct σ H'
  | .rt d s => ∀ v G' H', Sm G G' → Tr O.W G0 H0 G' H' → O.ok K s G' H' → Rep K G' v d → Dn.rt v H'
  | .rn ds s => ∀ p vs G' H', Sm G G' → Tr O.W G0 H0 G' H' → O.ok K s G' H' → H0 p = none → G' p = none → H' p = some (.lst vs) → Reps K G' vs ds → Dn.rt (.ref p) H'
  | .err c fs ρ s => ∀ σ dd xs G' H', Sm G G' → Fs K O G0 H0 σ ρ G' H' s → XdA H' dd xs → NwA O dd → RepF K G' xs fs → Wx (.ref c) dd σ H'
  | .bad => False
def SndS (K : PySem.W.Frag) (O : Wo) (Wx : WX) (t : TS) (m : MS O) : Prop := ∀ G0 H0 σ ρ G H s Dn, Fs K O G0 H0 σ ρ G H s → PstS K O Wx G0 H0 G (m ρ s) Dn → t Dn σ H
structure DS (K : PySem.W.Frag) (O : Wo) (Wx : WX) (X : Cx) (e : Stmt) (t : TS) (m : MS O) : Prop where
  pe : PS X e t
  sn : SndS K O Wx t m
structure DB (K : PySem.W.Frag) (O : Wo) (Wx : WX) (X : Cx) (e : List Stmt) (t : TS) (m : MS O) : Prop where
  pe : PSs X e t
  sn : SndS K O Wx t m
/-- a body's context -/
structure Cs (K : PySem.W.Frag) (Wx : WX) (X : Cx) : Prop where
  cn : Cn K Wx X
  po : PassesOwn (model X.prog X.w) X.A X.env X.xe
  hc : X.calm = true
  nd : X.N.Nodup
section
variable {K : PySem.W.Frag} {O : Wo} {Wx : WX} {X : Cx} {G0 : Gh} {H0 : Hp} {G : Gh} {H : Hp} {G1 : Gh} {H1 : Hp} {σ : L2.St} {ρ : Ev} {s s1 : O.S}
theorem PstS.shift {r : RS O.S} {Dn : Ends} (e : Sm G G1) (h : PstS K O Wx G0 H0 G r Dn) : PstS K O Wx G0 H0 G1 r Dn := by
  cases r with
  | nx ρ s => exact fun σ G' H' a b => h σ G' H' (e.trans a) b
  | bk ρ s => exact fun σ G' H' a b => h σ G' H' (e.trans a) b
  | ct ρ s => exact fun σ G' H' a b => h σ G' H' (e.trans a) b
  | rt d s => exact fun v G' H' a b => h v G' H' (e.trans a) b
  | rn ds s => exact fun p vs G' H' a b => h p vs G' H' (e.trans a) b
  | err c fs ρ s => exact fun σ dd xs G' H' a b => h σ dd xs G' H' (e.trans a) b
  | bad => exact h
theorem Fs.go (f : Fs K O G0 H0 σ ρ G H s) (t : Tr O.W G H G1 H1) (k : O.ok K s1 G1 H1) : Fs K O G0 H0 σ ρ G1 H1 s1 := ⟨f.fm.tr t k, f.tr.trans t⟩
/-- an expression's outcome becomes a statement's -/
def toS {S α : Type} (r : R S α) (ρ : Ev) (f : α → S → RS S) : RS S := match r with
  | .ok a s => f a s
  | .err c fs s => .err c fs ρ s
  | .bad => .bad
theorem pst_toS {α β : Type} {rel : Gh → β → α → Prop} {r : R O.S α} {f : α → O.S → RS O.S} {Dn : Ends} {Q1 : β → Hp → Prop} (F : Fs K O G0 H0 σ ρ G H s) (h : PstS K O Wx G0 H0 G (toS r ρ f) Dn)
    (k : ∀ a s1, r = .ok a s1 → ∀ v G1 H1, Tr O.W G H G1 H1 → O.ok K s1 G1 H1 → rel G1 v a → PstS K O Wx G0 H0 G1 (f a s1) Dn → Q1 v H1) : Pst K O Wx σ G H rel r Q1 := by
  cases r with
  | ok d s' => exact fun v G' H' t' ko q => k d s' rfl v G' H' t' ko q (PstS.shift t'.gg h)
  | err c fs s' => exact fun dd xs G' H' t' ko e n q => h σ dd xs G' H' t'.gg (F.go t' ko) e n q
  | bad => exact h
@[simp] theorem toS_ok {α : Type} (a : α) (s : O.S) (ρ : Ev) (f : α → O.S → RS O.S) : toS (R.ok a s) ρ f = f a s := rfl
@[simp] theorem toS_err {α : Type} (c : Addr) (fs : List (Str × D)) (s : O.S) (ρ : Ev) (f : α → O.S → RS O.S) : toS (R.err c fs s) ρ f = .err c fs ρ s := rfl
@[simp] theorem toS_bad {α : Type} (ρ : Ev) (f : α → O.S → RS O.S) : toS R.bad ρ f = .bad := rfl
def mNext (O : Wo) : MS O := fun ρ s => .nx ρ s
def seqS {S : Type} (r : RS S) (k : Ev → S → RS S) : RS S := match r with
  | .nx ρ1 s1 => k ρ1 s1
  | r => r
def mSeq (O : Wo) (a b : MS O) : MS O := fun ρ s => seqS (a ρ s) b
theorem db_nil : DB K O Wx X [] tNext (mNext O) := ⟨pss_nil, fun G0 H0 σ ρ G H s Dn F h => h σ G H (Sm.refl _) F⟩
theorem db_one {st : Stmt} {t : TS} {m : MS O} (h : DS K O Wx X st t m) : DB K O Wx X [st] t m := ⟨pss_one h.pe, h.sn⟩
theorem db_cons {st : Stmt} {rest : List Stmt} {t u : TS} {m n : MS O} (h1 : DS K O Wx X st t m) (h2 : DB K O Wx X rest u n) : DB K O Wx X (st :: rest) (tSeq t u) (mSeq O m n) := by
  refine ⟨pss_cons h1.pe h2.pe, fun G0 H0 σ ρ G H s Dn F h => ?_⟩
  refine h1.sn G0 H0 σ ρ G H s _ F ?_
  unfold mSeq seqS at h
  revert h
  cases m ρ s with
  | nx ρ1 s1 => exact fun h σ' G' H' e F' => h2.sn G0 H0 σ' ρ1 G' H' s1 Dn F' (h.shift e)
  | bk ρ s => exact fun h => h
  | ct ρ s => exact fun h => h
  | rt d s => exact fun h => h
  | rn ds s => exact fun h => h
  | err c fs ρ s => exact fun h => h
  | bad => exact fun h => h
def mPass (O : Wo) : MS O := fun ρ s => .nx ρ s
def mBrk (O : Wo) : MS O := fun ρ s => .bk ρ s
def mCnt (O : Wo) : MS O := fun ρ s => .ct ρ s
def mDrop (O : Wo) (m : ME O) : MS O := fun ρ s => toS (m ρ s) ρ fun _ s1 => .nx ρ s1
theorem ds_expr {e : Expr} {te : TE} {me : ME O} {pos : Pos} (he : DE K O Wx X e te me) (hs : swapsWith e none pos.line X.env = pure false := by rfl) : DS K O Wx X (.Expr e pos) (tDrop te) (mDrop O me) := by
  refine ⟨ps_expr he.pe hs, fun G0 H0 σ ρ G H s Dn F h => ?_⟩
  exact he.sn σ ρ H0 G H s _ F.fm (pst_toS F h fun d s1 _ v G1 H1 t1 k1 r1 h1 => h1 σ G1 H1 (Sm.refl _) (F.go t1 k1))
def mRet (O : Wo) (m : ME O) : MS O := fun ρ s => toS (m ρ s) ρ fun d s1 => .rt d s1
def mRetN (O : Wo) : MS O := fun ρ s => .rt .non s
theorem ds_ret {e : Expr} {te : TE} {me : ME O} {pos : Pos} (he : DE K O Wx X e te me) : DS K O Wx X (.Return (some e) pos) (tRet te) (mRet O me) := by
  refine ⟨ps_ret he.pe, fun G0 H0 σ ρ G H s Dn F h => ?_⟩
  exact he.sn σ ρ H0 G H s _ F.fm (pst_toS F h fun d s1 _ v G1 H1 t1 k1 r1 h1 => h1 v G1 H1 (Sm.refl _) (F.tr.trans t1) k1 r1)
def mIfS (O : Wo) (c : MT O) (a b : MS O) : MS O := fun ρ s => toS (c ρ s) ρ fun x s1 => if x = true then a ρ s1 else b ρ s1
theorem ds_if {c : Expr} {a b : List Stmt} {tc : TT} {ta tb : TS} {mc : MT O} {ma mb : MS O} {pos : Pos} (hc : DT K O Wx X c tc mc) (ha : DB K O Wx X a ta ma) (hb : DB K O Wx X b tb mb) : DS K O Wx X (.If c a b pos) (tIfS tc ta tb) (mIfS O mc ma mb) := by
  refine ⟨ps_if hc.pe ha.pe hb.pe, fun G0 H0 σ ρ G H s Dn F h => ?_⟩
  refine hc.sn σ ρ H0 G H s _ F.fm (pst_toS F h fun d s1 _ v G1 H1 t1 k1 r1 h1 => ?_)
  subst r1
  cases v with
  | true => exact ha.sn G0 H0 σ ρ G1 H1 s1 Dn (F.go t1 k1) h1
  | false => exact hb.sn G0 H0 σ ρ G1 H1 s1 Dn (F.go t1 k1) h1
/-- a target: what it does to the slots; is: the slots that it sets -/
def SndG (K : PySem.W.Frag) (O : Wo) (g : TG) (f : D → Ev → Option Ev) (is : List Nat) : Prop := ∀ H0 σ ρ G H (s : O.S) v d ρ' Q, Fm K O H0 σ ρ G H s → Rep K G v d → f d ρ = some ρ' →
  (∀ σ', Fm K O H0 σ' ρ' G H s → (∀ vs, (∀ i ∈ is, i ∈ vs) → wipe σ' vs = wipe σ vs) → Q σ' H) → g v σ H Q
structure DG (K : PySem.W.Frag) (O : Wo) (X : Cx) (e : Expr) (g : TG) (f : D → Ev → Option Ev) (is : List Nat) : Prop where
  pe : PG X e g
  sn : SndG K O g f is
theorem wipe_set {σ : L2.St} {i : Nat} {o : Option V} : ∀ {vs : List Nat}, i ∈ vs → wipe (σ.set i o) vs = wipe σ vs
  | [], h => by cases h
  | v :: vs, h => by
    by_cases hv : i = v
    · subst hv
      unfold wipe
      by_cases hm : i ∈ vs
      · rw [wipe_set hm]
      · have key : ∀ (ws : List Nat), i ∉ ws → wipe (σ.set i o) ws = (wipe σ ws).set i o := by
          intro ws
          induction ws with
          | nil => intro _; rfl
          | cons w ws ih =>
            intro hw
            have h1 : i ≠ w := fun e => hw (by rw [e]; exact List.mem_cons_self)
            unfold wipe
            rw [ih fun e => hw (List.mem_cons_of_mem _ e), List.set_comm _ _ h1]
        rw [key vs hm, List.set_set]
    · have hm : i ∈ vs := by
        rcases List.mem_cons.mp h with e | e
        · exact absurd e hv
        · exact e
      unfold wipe
      rw [wipe_set hm]
def fName (i : Nat) : D → Ev → Option Ev := fun d ρ => some (ρ.set i (.sh d))
theorem dg_name (i : Nat) {x : Str} {pos : Pos} (hN : X.N.Nodup) (hi : X.N[i]? = some x := by rfl) (hx : Loc X.env.scope x := by first | exact Or.inl rfl | exact Or.inr rfl) (hf : X.fn x = true ∨ X.env.scope.names.lookup x = some .local := by first | exact .inl rfl | exact .inr rfl | assumption) :
    DG K O X (.Name x pos) (gName i) (fName i) [i] := by
  refine ⟨pg_name hN hi hx hf, fun H0 σ ρ G H s v d ρ' Q F r e q => ?_⟩
  cases e
  exact q _ (F.set r) fun vs hv => wipe_set (hv i (by simp))
def SndGs (K : PySem.W.Frag) (O : Wo) (g : TGs) (f : List D → Ev → Option Ev) (is : List Nat) : Prop := ∀ H0 σ ρ G H (s : O.S) v d ρ' Q, Fm K O H0 σ ρ G H s → Reps K G v d → f d ρ = some ρ' →
  (∀ σ', Fm K O H0 σ' ρ' G H s → (∀ vs, (∀ i ∈ is, i ∈ vs) → wipe σ' vs = wipe σ vs) → Q σ' H) → g v σ H Q
structure DGs (K : PySem.W.Frag) (O : Wo) (X : Cx) (e : List Expr) (g : TGs) (f : List D → Ev → Option Ev) (is : List Nat) : Prop where
  pe : PGs X e g
  sn : SndGs K O g f is
def fNil : List D → Ev → Option Ev
  | [], ρ => some ρ
  | _ :: _, _ => none
def fCons (f : D → Ev → Option Ev) (g : List D → Ev → Option Ev) : List D → Ev → Option Ev
  | [], _ => none
  | d :: ds, ρ => (f d ρ).bind fun ρ1 => g ds ρ1
theorem dgs_nil : DGs K O X [] gNil fNil [] := by
  refine ⟨pgs_nil, fun H0 σ ρ G H s v d ρ' Q F r e q => ?_⟩
  cases r with
  | nil => cases e; exact ⟨rfl, q σ F fun _ _ => rfl⟩
  | cons _ _ => cases e
theorem dgs_cons {e : Expr} {es : List Expr} {t : TG} {u : TGs} {f : D → Ev → Option Ev} {g : List D → Ev → Option Ev} {is js : List Nat} (h1 : DG K O X e t f is) (h2 : DGs K O X es u g js)
    (hs : (assignEach (e :: es) X.env).map (·.2) = assign e X.env :: (assignEach es X.env).map (·.2) := by rfl) : DGs K O X (e :: es) (gCons t u) (fCons f g) (is ++ js) := by
  refine ⟨pgs_cons h1.pe h2.pe hs, fun H0 σ ρ G H s v d ρ' Q F r e q => ?_⟩
  cases r with
  | nil => cases e
  | @cons v d vs ds r rr =>
    simp only [fCons, Option.bind_eq_some_iff] at e
    obtain ⟨ρ1, e1, e2⟩ := e
    refine ⟨v, vs, rfl, h1.sn H0 σ ρ G H s v d ρ1 _ F r e1 fun σ1 F1 w1 => ?_⟩
    exact h2.sn H0 σ1 ρ1 G H s vs ds ρ' _ F1 rr e2 fun σ2 F2 w2 => q σ2 F2 fun ws hw => by
      rw [w2 ws fun i hi => hw i (List.mem_append_right _ hi), w1 ws fun i hi => hw i (List.mem_append_left _ hi)]
def fTup (n : Nat) (g : List D → Ev → Option Ev) : D → Ev → Option Ev
  | .tup xs, ρ => if xs.length = n then g xs ρ else none
  | _, _ => none
theorem dg_tup {es : List Expr} {k : Nat} {t : TGs} {g : List D → Ev → Option Ev} {is : List Nat} {n : Nat} {pos : Pos} (hK : X.K = K) (hc : X.calm = true) (h : DGs K O X es t g is)
    (hn : (assignEach es X.env).length = n := by rfl) (hst : (assignEach es X.env).findIdx? (·.1) = none := by rfl) : DG K O X (.Tuple es k pos) (gTup K n t) (fTup n g) is := by
  subst hK
  refine ⟨pg_tup hc h.pe hn hst, fun H0 σ ρ G H s v d ρ' Q F r e q => ?_⟩
  cases r with
  | tup hs r =>
    simp only [fTup] at e
    split at e
    · rename_i hl
      exact ⟨_, _, rfl, F.gh.seqT hs, r.length.trans hl, h.sn H0 σ ρ G H s _ _ ρ' _ F r e q⟩
    · cases e
  | _ => cases e
def mAsg (O : Wo) (m : ME O) (f : D → Ev → Option Ev) : MS O := fun ρ s => toS (m ρ s) ρ fun d s1 => match f d ρ with
  | some ρ1 => .nx ρ1 s1
  | none => .bad
theorem snd_asg {te : TE} {me : ME O} {g : TG} {f : D → Ev → Option Ev} {is : List Nat} (he : SndE K O Wx te me) (hg : SndG K O g f is) : SndS K O Wx (tAsg te g) (mAsg O me f) := by
  intro G0 H0 σ ρ G H s Dn F h
  refine he σ ρ H0 G H s _ F.fm (pst_toS F h fun d s1 _ v G1 H1 t1 k1 r1 h1 => ?_)
  have F1 := F.go t1 k1
  cases e : f d ρ with
  | none => rw [e] at h1; exact (show False from h1).elim
  | some ρ1 =>
    rw [e] at h1
    exact hg H0 σ ρ G1 H1 s1 v d ρ1 _ F1.fm r1 e fun σ' F' _ => h1 σ' G1 H1 (Sm.refl _) ⟨F', F1.tr⟩
theorem ds_set (i : Nat) {x : Str} {e : Expr} {te : TE} {me : ME O} {pos pos' : Pos} (hN : X.N.Nodup) (he : DE K O Wx X e te me) (hi : X.N[i]? = some x := by rfl) (hx : Loc X.env.scope x := by first | exact Or.inl rfl | exact Or.inr rfl) (hs : swapsWith e (some (.Name x pos')) pos.line X.env = pure false := by rfl)
    (hf : X.fn x = true ∨ X.env.scope.names.lookup x = some .local := by first | exact .inl rfl | exact .inr rfl | assumption) : DS K O Wx X (.Assign [.Name x pos'] e pos) (tAsg te (gName i)) (mAsg O me (fName i)) :=
  ⟨ps_set hN hi hx he.pe hs hf, snd_asg he.sn (dg_name (K := K) (O := O) (X := X) (pos := pos') i hN hi hx hf).sn⟩
theorem ds_asg {tg e : Expr} {te : TE} {me : ME O} {g : TG} {f : D → Ev → Option Ev} {is : List Nat} {pos : Pos} (he : DE K O Wx X e te me) (hg : DG K O X tg g f is) (hs : swapsWithSole [tg] e pos.line X.env = pure false := by rfl) (hw : swappedStores [tg] e X.env = pure none := by rfl)
    (h1 : (assignEach [tg] X.env).map (·.2) = [assign tg X.env] := by rfl) : DS K O Wx X (.Assign [tg] e pos) (tAsg te g) (mAsg O me f) := ⟨ps_asg he.pe hg.pe hs hw h1, snd_asg he.sn hg.sn⟩
/-- a, b = x, y -/
def mPar (O : Wo) (i j : Nat) (m : MA O) : MS O := fun ρ s => toS (m ρ s) ρ fun ds s1 => match ds with
  | [a, b] => .nx ((ρ.set i (.sh a)).set j (.sh b)) s1
  | _ => .bad
def mAug (O : Wo) (i : Nat) (f : D → D → Option D) (m : ME O) : MS O := fun ρ s => match ρ[i]? with
  | some (.sh x) => toS (m ρ s) ρ fun y s1 => match f x y with
    | some z => .nx (ρ.set i (.sh z)) s1
    | none => .bad
  | _ => .bad
theorem ds_aug (i : Nat) {x : Str} {e : Expr} {te : TE} {me : ME O} {op : Operator} {ti : TIp} {f : D → D → Option D} {pos pos' : Pos} (hN : X.N.Nodup) (ho : PIp X op ti) (hv : VOp K ti f) (he : DE K O Wx X e te me) (hi : X.N[i]? = some x := by rfl) (hx : Loc X.env.scope x := by first | exact Or.inl rfl | exact Or.inr rfl)
    (hf : X.fn x = true ∨ X.env.scope.names.lookup x = some .local := by first | exact .inl rfl | exact .inr rfl | assumption) : DS K O Wx X (.AugAssign (.Name x pos') op e pos) (tAug i te ti) (mAug O i f me) := by
  refine ⟨ps_aug hN hi hx he.pe ho hf, fun G0 H0 σ ρ G H s Dn F h => ?_⟩
  unfold mAug at h
  split at h
  · rename_i dx e1
    obtain ⟨v, ev, r⟩ := F.fm.get e1
    refine ⟨v, ev, he.sn σ ρ H0 G H s _ F.fm (pst_toS F h fun d s1 _ y G1 H1 t1 k1 r1 h1 => ?_)⟩
    have F1 := F.go t1 k1
    cases e2 : f dx d with
    | none => rw [e2] at h1; exact (show False from h1).elim
    | some z =>
      rw [e2] at h1
      refine hv G1 H1 v y dx d z _ F1.fm.gh (r.mono t1.gg) r1 e2 fun w G2 H2 t2 r2 => ?_
      have F2 := F1.go t2.up (F1.fm.keepW t2)
      exact h1 _ G2 H2 t2.gg ⟨F2.fm.set r2, F2.tr⟩
  · exact h.elim
/-- the iterator J gives the items, one by one -/
def ItOk (K : PySem.W.Frag) (J : It) (G : Gh) (items : List D) : Prop := ∀ G1 H, Sm G G1 → Sh G1 H → ∀ i : Nat,
  (∀ d, items[i]? = some d → J.go i H ∧ ∀ x H', J.yld i H x H' → ∃ G2, Tr0 G1 H G2 H' ∧ Rep K G2 x d) ∧ (items.length ≤ i → J.stop i H)
abbrev MI (O : Wo) := Ev → O.S → R O.S (List D)
def SndI (K : PySem.W.Frag) (O : Wo) (Wx : WX) (w : TI) (m : MI O) : Prop := ∀ σ ρ H0 G H s Q, Fm K O H0 σ ρ G H s → Pst K O Wx σ G H (fun G' J items => ItOk K J G' items) (m ρ s) Q → w σ H Q
structure DI (K : PySem.W.Frag) (O : Wo) (Wx : WX) (X : Cx) (tg e : Expr) (w : TI) (m : MI O) : Prop where
  pe : PI X tg e w
  sn : SndI K O Wx w m
theorem it_list {a : Addr} {vs : List V} {ds : List D} (hs : SqL K (fr G) a vs) (r : Reps K G vs ds) : ItOk K (Itl K a) G ds := fun G1 H e1 e2 i => by
  have h1 : SqL K H a vs := e2.seq (e1.seq hs)
  refine ⟨fun d hd => ?_, fun hl => ⟨vs, h1, by rw [r.length]; exact hl⟩⟩
  obtain ⟨v, hv, rv⟩ := r.get' hd
  refine ⟨⟨vs, v, h1, hv⟩, fun x H' y => ?_⟩
  obtain ⟨e, y⟩ := y
  subst e
  have := y vs h1
  rw [hv] at this
  cases this
  exact ⟨G1, .refl e2, rv.mono e1⟩
theorem it_tup {a : Addr} {vs : List V} {ds : List D} (hs : SqC K (fr G) a vs) (r : Reps K G vs ds) : ItOk K (Itt K a) G ds := fun G1 H e1 e2 i => by
  have h1 : SqT K H a vs := e2.seqT (e1.seqC hs)
  refine ⟨fun d hd => ?_, fun hl => ⟨vs, h1, by rw [r.length]; exact hl⟩⟩
  obtain ⟨v, hv, rv⟩ := r.get' hd
  refine ⟨⟨vs, v, h1, hv⟩, fun x H' y => ?_⟩
  obtain ⟨e, y⟩ := y
  subst e
  have := y vs h1
  rw [hv] at this
  cases this
  exact ⟨G1, .refl e2, rv.mono e1⟩
/-- the ints lo, lo + 1, .., n of them -/
def rangeD (lo : Int) (n : Nat) : List D := (List.range n).map fun (i : Nat) => .int (lo + (i : Int))
theorem it_range {lo : Int} {n : Nat} : ItOk K (Itr lo n) G (rangeD lo n) := fun G1 H e1 e2 i => by
  unfold rangeD
  refine ⟨fun d hd => ?_, fun hl => show n ≤ i by simpa using hl⟩
  rw [List.getElem?_map, Option.map_eq_some_iff] at hd
  obtain ⟨j, hj, rfl⟩ := hd
  obtain ⟨h1, h2⟩ := List.getElem?_eq_some_iff.mp hj
  rw [List.length_range] at h1
  rw [List.getElem_range] at h2
  subst h2
  refine ⟨h1, fun x H' y => ?_⟩
  obtain ⟨e, y⟩ := y
  subst e y
  exact ⟨G1, .refl e2, .int _⟩
def asList : D → Option (List D)
  | .lst xs => some xs
  | _ => none
def asTup : D → Option (List D)
  | .tup xs => some xs
  | _ => none
def mItL (O : Wo) (m : ME O) : MI O := fun ρ s => (m ρ s).bind fun x s1 => R.lift (asList x) s1
def mItT (O : Wo) (m : ME O) : MI O := fun ρ s => (m ρ s).bind fun x s1 => R.lift (asTup x) s1
def mRng1 (O : Wo) (m : MA O) : MI O := fun ρ s => (m ρ s).bind fun xs s1 => match xs with
  | [.int j] => if j ≤ 100000 ∧ -100000 ≤ j then .ok (rangeD 0 j.toNat) s1 else .bad
  | _ => .bad
theorem di_range1 {tg a : Expr} {ta : TA} {ma : MA O} {p pos : Pos} (hm : X.mg "range" = none) (ha : DA K O Wx X [a] ta ma) (hg : Gl X "range" := by rfl) (hs : starEach [a] X.env = [(false, eval a X.env)] := by rfl) : DI K O Wx X tg (.Call (.Name "range" p) [a] [] pos) (iRng1 ta) (mRng1 O ma) := by
  refine ⟨pi_range1 hg hm ha.pe hs, fun σ ρ H0 G H s Q F h => ?_⟩
  refine ha.sn σ ρ H0 G H s _ F (pst_bind h fun ds s1 _ x G1 H1 t1 k1 r1 h1 => ?_)
  split at h1
  · rename_i j
    cases r1 with
    | cons r1 r2 =>
      cases r2
      cases r1
      split at h1
      · rename_i hj
        exact ⟨_, rfl, by omega, by omega, h1 _ G1 H1 (.refl t1.gh) k1 it_range⟩
      · exact (show False from h1).elim
  · exact (show False from h1).elim
def forL (S : Type) (f : D → Ev → Option Ev) (mb : Ev → S → RS S) : List D → Ev → S → RS S
  | [], ρ, s => .nx ρ s
  | d :: ds, ρ, s => match f d ρ with
    | none => .bad
    | some ρ1 => match mb ρ1 s with
      | .nx ρ2 s2 => forL S f mb ds ρ2 s2
      | .ct ρ2 s2 => forL S f mb ds ρ2 s2
      | .bk ρ2 s2 => .nx ρ2 s2
      | r => r
def mFor (O : Wo) (mi : MI O) (f : D → Ev → Option Ev) (mb : MS O) : MS O := fun ρ s => toS (mi ρ s) ρ fun items s1 => forL O.S f mb items ρ s1
theorem ds_for {tg iter : Expr} {body : List Stmt} {wi : TI} {g : TG} {tb : TS} {mi : MI O} {f : D → Ev → Option Ev} {is : List Nat} {mb : MS O} {pos : Pos} (c : Cs K Wx X) (hi : DI K O Wx X tg iter wi mi) (hg : DG K O X tg g f is) (hb : DB K O Wx X body tb mb)
    (hs : ∀ x, foldedSetIterable iter X.env x = pure x := by intro _; rfl) : DS K O Wx X (.For tg iter body [] pos) (tFor wi g tb) (mFor O mi f mb) := by
  refine ⟨ps_for c.po c.hc hi.pe hg.pe hb.pe hs, fun G0 H0 σ ρ G H s Dn F h => ?_⟩
  refine hi.sn σ ρ H0 G H s _ F.fm (pst_toS F h fun items s1 _ J G1 H1 t1 k1 ok h1 => ?_)
  refine ⟨fun i m σ' H' => ∃ ρ' G' s', m = (items.drop i).length ∧ Sm G1 G' ∧ Fs K O G0 H0 σ' ρ' G' H' s' ∧ PstS K O Wx G0 H0 G' (forL O.S f mb (items.drop i) ρ' s') Dn, ⟨items.length, ρ, G1, s1, by simp, Sm.refl _, F.go t1 k1, by simpa using h1⟩, ?_⟩
  rintro i m σ' H' ⟨ρ', G', s', rfl, e1, F', h'⟩
  obtain ⟨ok1, ok2⟩ := ok G' H' e1 F'.fm.gh i
  cases hd : items.drop i with
  | nil =>
    rw [hd] at h'
    exact .inl ⟨ok2 (by simpa using hd), h' σ' G' H' (Sm.refl _) F'⟩
  | cons d ds =>
    have hlt : i < items.length := by
      by_cases z : i < items.length
      · exact z
      · rw [List.drop_eq_nil_of_le (by omega)] at hd; cases hd
    have hi? : items[i]? = some d := by
      have := List.drop_eq_getElem_cons hlt
      rw [hd] at this
      injection this with a b
      rw [List.getElem?_eq_getElem hlt, a]
    have hds : items.drop (i + 1) = ds := by
      have := List.drop_eq_getElem_cons hlt
      rw [hd] at this
      injection this with a b
      exact b.symm
    obtain ⟨go, yl⟩ := ok1 d hi?
    rw [hd] at h'
    refine .inr ⟨go, fun σ2 H2 => ∃ ρ2 G2 s2, Sm G1 G2 ∧ Fs K O G0 H0 σ2 ρ2 G2 H2 s2 ∧ PstS K O Wx G0 H0 G2 (forL O.S f mb ds ρ2 s2) Dn, ?_, fun x H2 y => ?_⟩
    · rintro σ2 H2 ⟨ρ2, G2, s2, a1, a2, a3⟩
      exact ⟨ds.length, by simp, ρ2, G2, s2, by rw [hds], a1, a2, by rw [hds]; exact a3⟩
    · obtain ⟨G2, t2, r2⟩ := yl x H2 y
      have F2 := F'.go t2.up (F'.fm.keepW t2)
      unfold forL at h'
      cases ef : f d ρ' with
      | none => rw [ef] at h'; exact (show False from h').elim
      | some ρ1 =>
        rw [ef] at h'
        refine hg.sn H0 σ' ρ' G2 H2 s' x d ρ1 _ F2.fm r2 ef fun σ3 F3 _ => ?_
        refine hb.sn G0 H0 σ3 ρ1 G2 H2 s' _ ⟨F3, F2.tr⟩ ?_
        have h2 := PstS.shift t2.gg h'
        revert h2
        dsimp only
        cases mb ρ1 s' with
        | nx ρ2 s2 => exact fun h2 σ4 G4 H4 a b => ⟨ρ2, G4, s2, (e1.trans t2.gg).trans a, b, h2.shift a⟩
        | ct ρ2 s2 => exact fun h2 σ4 G4 H4 a b => ⟨ρ2, G4, s2, (e1.trans t2.gg).trans a, b, h2.shift a⟩
        | bk ρ2 s2 => exact fun h2 => h2
        | rt d s => exact fun h2 => h2
        | rn ds s => exact fun h2 => h2
        | err c fs ρ s => exact fun h2 => h2
        | bad => exact fun h2 => h2
def whileL (S : Type) (mc : Ev → S → R S Bool) (mb : Ev → S → RS S) : Nat → Ev → S → RS S
  | 0, _, _ => .bad
  | n + 1, ρ, s => toS (mc ρ s) ρ fun b s1 => if b = true then match mb ρ s1 with
      | .nx ρ2 s2 => whileL S mc mb n ρ2 s2
      | .ct ρ2 s2 => whileL S mc mb n ρ2 s2
      | .bk ρ2 s2 => .nx ρ2 s2
      | r => r
    else .nx ρ s1
def mWhile (O : Wo) (fu : Ev → O.S → Nat) (mc : MT O) (mb : MS O) : MS O := fun ρ s => whileL O.S mc mb (fu ρ s) ρ s
theorem ds_while (fu : Ev → O.S → Nat) {cnd : Expr} {body : List Stmt} {tc : TT} {tb : TS} {mc : MT O} {mb : MS O} {pos : Pos} (c : Cs K Wx X) (hc : DT K O Wx X cnd tc mc) (hb : DB K O Wx X body tb mb) : DS K O Wx X (.While cnd body [] pos) (tWhile tc tb) (mWhile O fu mc mb) := by
  refine ⟨ps_while c.po hc.pe hb.pe, fun G0 H0 σ ρ G H s Dn F h => ?_⟩
  refine ⟨fun m σ' H' => ∃ ρ' G' s', Fs K O G0 H0 σ' ρ' G' H' s' ∧ PstS K O Wx G0 H0 G' (whileL O.S mc mb m ρ' s') Dn, ⟨fu ρ s, ρ, G, s, F, h⟩, ?_⟩
  rintro m σ' H' ⟨ρ', G', s', F', h'⟩
  cases m with
  | zero => exact (show False from h').elim
  | succ n =>
    unfold whileL at h'
    refine hc.sn σ' ρ' H0 G' H' s' _ F'.fm (pst_toS F' h' fun b s1 _ v G1 H1 t1 k1 r1 h1 => ?_)
    subst r1
    have F1 := F'.go t1 k1
    cases v with
    | false => exact h1 σ' G1 H1 (Sm.refl _) F1
    | true =>
      refine ⟨fun σ2 H2 => ∃ ρ2 G2 s2, Fs K O G0 H0 σ2 ρ2 G2 H2 s2 ∧ PstS K O Wx G0 H0 G2 (whileL O.S mc mb n ρ2 s2) Dn, ?_, ?_⟩
      · rintro σ2 H2 ⟨ρ2, G2, s2, a2, a3⟩
        exact ⟨n, by omega, ρ2, G2, s2, a2, a3⟩
      · refine hb.sn G0 H0 σ' ρ' G1 H1 s1 _ F1 ?_
        revert h1
        simp only [if_true]
        cases mb ρ' s1 with
        | nx ρ2 s2 => exact fun h2 σ4 G4 H4 a b => ⟨ρ2, G4, s2, b, h2.shift a⟩
        | ct ρ2 s2 => exact fun h2 σ4 G4 H4 a b => ⟨ρ2, G4, s2, b, h2.shift a⟩
        | bk ρ2 s2 => exact fun h2 => h2
        | rt d s => exact fun h2 => h2
        | rn ds s => exact fun h2 => h2
        | err c fs ρ s => exact fun h2 => h2
        | bad => exact fun h2 => h2
end
def runF (O : Wo) (n : Nat) (m : MS O) : List D → O.S → R O.S D := fun ds s => match m (ds.map .sh ++ List.replicate (n - ds.length) .no) s with
  | .nx _ s1 => .ok .non s1
  | .rt d s1 => .ok d s1
  | .rn ds s1 => .ok (.lst ds) s1
  | .err c fs _ s1 => .err c fs s1
  | _ => .bad
/-- what was kept apart never changes any more -/
theorem Tr.frz {W : Addr → Prop} {G : Gh} {H : Hp} {G' : Gh} {H' : Hp} {p : Addr} {o : HO} (t : Tr W G H G' H') (n : H p = none) (g : G' p = none) (h : H' p = some o) : Tr W G H (up G' p o) H' := by
  refine ⟨t.gg.trans (Sm.up g), fun b u e => ?_, fun b e => ?_, t.kp, t.dm, t.fz⟩
  · by_cases hb : b = p
    · subst hb; rw [up_same] at e; cases e; exact .of h
    · rw [up_ne hb] at e; exact t.gh b u e
  · by_cases hb : b = p
    · subst hb; exact .inr n
    · rw [up_ne hb] at e; exact t.gr b e
theorem sh_up {G : Gh} {H : Hp} {p : Addr} {o : HO} (g : Sh G H) (h : H p = some o) : Sh (up G p o) H := fun b u e => by
  by_cases hb : b = p
  · subst hb; rw [up_same] at e; cases e; exact .of h
  · rw [up_ne hb] at e; exact g b u e
theorem ok_up {K : PySem.W.Frag} {O : Wo} {s : O.S} {G : Gh} {H : Hp} {p : Addr} {o : HO} (k : O.ok K s G H) (g : G p = none) : O.ok K s (up G p o) H :=
  O.loc K s G H _ H (Sx.up g) (fun b n e => mk_up e) (fun _ _ => rfl) k
theorem ok_off {K : PySem.W.Frag} {O : Wo} {s : O.S} {G : Gh} {H : Hp} {p : Addr} {o : HO} (k : O.ok K s G H) (g : G p = none) (w : ¬ O.W p) : O.ok K s G (upd H p o) :=
  O.loc K s G H G _ (Sx.refl _) (fun _ _ e => e) (fun a h => upd_ne (by
    rintro rfl
    rcases h with h | ⟨n, h⟩
    · exact w h
    · exact h.none g)) k
theorem nW_of {K : PySem.W.Frag} {O : Wo} {s : O.S} {G : Gh} {H : Hp} {p : Addr} (k : O.ok K s G H) (n : H p = none) : ¬ O.W p := fun w => O.dom K s G H p k w n
theorem frz_rep {K : PySem.W.Frag} {G : Gh} {p : Addr} {vs : List V} {ds : List D} (g : G p = none) (r : Reps K G vs ds) : Rep K (up G p (.lst vs)) (.ref p) (.lst ds) :=
  .lst sqL_new (r.mono (Sm.up g))
section
variable {P : Program} {w : World} {K : PySem.W.Frag} {mg : Str → Option Value} {base : Heap} {O : Wo}
theorem start_fm {H0 : Hp} {G : Gh} {H : Hp} {s : O.S} (g : Sh G H) (wg : ∀ a, O.W a → G a = none) (ok : O.ok K s G H) {n : Nat} {N : List Str} (hn : N.length = n) : ∀ {vs : List V} {ds : List D}, Reps K G vs ds → Fm K O H0 (L2.start N vs) (ds.map .sh ++ List.replicate (n - ds.length) .no) G H s := by
  intro vs ds r
  subst hn
  have hl := r.length
  refine ⟨g, wg, ok, by simp [L2.start, hl], fun i o x a b => ?_, fun i j p x y hij a b c => ?_⟩
  · unfold L2.start at a
    by_cases hi : i < vs.length
    · rw [List.getElem?_append_left (by simpa using hi), List.getElem?_map] at a
      rw [List.getElem?_append_left (by rw [List.length_map, ← hl]; exact hi), List.getElem?_map] at b
      rw [Option.map_eq_some_iff] at a b
      obtain ⟨v, ha, rfl⟩ := a
      obtain ⟨d, hb, rfl⟩ := b
      obtain ⟨d', h1, h2⟩ := r.get ha
      rw [hb] at h1
      cases h1
      exact ⟨v, rfl, h2⟩
    · rw [List.getElem?_append_right (by rw [List.length_map, ← hl]; omega)] at b
      have := List.mem_of_getElem? b
      rw [List.mem_replicate] at this
      rw [this.2]
      trivial
  · have hx : isOwn x = false := by
      have := List.mem_of_getElem? a
      rw [List.mem_append] at this
      rcases this with q | q
      · rw [List.mem_map] at q
        obtain ⟨d, _, rfl⟩ := q
        rfl
      · rw [List.mem_replicate] at q
        rw [q.2]
        rfl
    rw [hx] at c
    cases c
theorem fo_mk {x qual : Str} {st : Stmt} {f : Addr} {fd : FuncData} {N ps : List Str} {k : Nat} {m : MS O} (F : Fun K x qual st f fd) (S : FnScope N ps (defScope st)) (hg : mg x = some (.ref f)) (hb : Binds K fd ps [])
    (hbody : ∀ (cdv : Value) (A : Around) (outer : List Env) (s : Shared) (H : Hp) (E : XK), Room k (A.deeper (envOfC qual (defScope st) s.heap.objs.size f cdv)) →
      Cs K (fun cls d _ H => E cls d H) (cxOf (L2.CX P w) P w K mg base N qual (defScope st) f cdv A outer s H E) →
      ∃ t, DB K O (fun cls d _ H => E cls d H) (cxOf (L2.CX P w) P w K mg base N qual (defScope st) f cdv A outer s H E) (defBody st) t m) : Fo P w K mg base O (k + 1) x ps.length (runF O N.length m) := by
  refine ⟨f, fd, ps, F.okX S (fun vs H Q E h => h.1) (fun cdv A outer s H vs Q E hr h => ?_), hg, F.kp, hb⟩
  obtain ⟨hl, G, ds, s0, g, wg, ok, r, q⟩ := h
  have tk : Takes (cxOf (L2.CX P w) P w K mg base N qual (defScope st) f cdv A outer s H E) (fun cls d _ H => E cls d H) := takes_of rfl rfl rfl rfl
  obtain ⟨t, hd⟩ := hbody cdv A outer s H E hr ⟨⟨rfl, tk⟩, passes_of rfl, rfl, S.nd⟩
  refine ⟨t, hd.pe, hd.sn G H _ _ G H s0 _ ⟨start_fm g wg ok rfl r, .refl g⟩ ?_⟩
  unfold runF at q
  revert q
  cases m (ds.map .sh ++ List.replicate (N.length - ds.length) .no) s0 with
  | nx ρ s1 => exact fun q σ' G' H' e F' => q .non G' H' F'.tr F'.fm.ok .non
  | rt d s1 => exact fun q v G' H' e t' k' r' => q v G' H' t' k' r'
  | rn ds s1 => exact fun q p vs G' H' e t' k' n g hp r' => q (.ref p) _ H' (t'.frz n g hp) (ok_up k' g) (frz_rep g r')
  | err c fs ρ s1 => exact fun q σ' dd xs G' H' e F' a b c' => q dd xs G' H' F'.tr F'.fm.ok a b c'
  | bk ρ s1 => exact fun q => q.elim
  | ct ρ s1 => exact fun q => q.elim
  | bad => exact fun q => q.elim
theorem Fo.imp {k n : Nat} {x : Str} {m m' : List D → O.S → R O.S D} (F : Fo P w K mg base O k x n m) (h : ∀ ds s, ds.length = n → m' ds s = .bad ∨ m ds s = m' ds s) : Fo P w K mg base O k x n m' := by
  obtain ⟨f, fd, ps, Fn, hm, kp, bi⟩ := F.ex
  refine ⟨f, fd, ps, Fn.imp fun vs H Q E q => ?_, hm, kp, bi⟩
  obtain ⟨hl, G, ds, s0, g, wg, ok, r, q⟩ := q
  refine ⟨hl, G, ds, s0, g, wg, ok, r, ?_⟩
  rcases h ds s0 (r.length.symm.trans hl) with e | e
  · rw [e] at q; exact q.elim
  · rw [e]; exact q
theorem Fo.mono {k j n : Nat} {x : Str} {m : List D → O.S → R O.S D} (F : Fo P w K mg base O k x n m) (h : k ≤ j) : Fo P w K mg base O j x n m := by
  obtain ⟨f, fd, ps, Fn, hm, kp, bi⟩ := F.ex
  exact ⟨f, fd, ps, Fn.mono h, hm, kp, bi⟩
end
end Mr
namespace Mr
open PySem PySem.Spec PyProof.Rows L2 RZ
structure Sr where
  k : Bool
  it : Addr
  l : Addr
def It01 (k : Bool) (h : Heap) (it l : Addr) (i : Nat) : Prop := match k with
  | true => h.IsListIter it l i
  | false => h.IsTupleIter it l i
def Sq01 (k : Bool) (h : Heap) (l : Addr) (xs : Array Value) : Prop := match k with
  | true => h.IsList l xs
  | false => h.IsTuple l xs
theorem It01.at {k : Bool} {h h' : Heap} {it l : Addr} {i : Nat} (x : It01 k h it l i) (e : ∀ o, h.get? it = some o → h'.get? it = some o) : It01 k h' it l i := by
  cases k
  · exact Heap.IsTupleIter.at x e
  · exact Heap.IsListIter.at x e
theorem It01.obj {k : Bool} {h : Heap} {it l : Addr} {i : Nat} (x : It01 k h it l i) : ∃ o, h.get? it = some o ∧ o.data = .fields #[.ref l, .int i 0] := by
  cases k <;> exact let ⟨o, e, _, d⟩ := x; ⟨o, e, d⟩
theorem Sq01.at {k : Bool} {h h' : Heap} {l : Addr} {xs : Array Value} (x : Sq01 k h l xs) (e : ∀ o, h.get? l = some o → h'.get? l = some o) : Sq01 k h' l xs := by
  cases k <;> exact let ⟨o, ho, r⟩ := x; ⟨o, e o ho, r⟩
def itO (k : Bool) (l : Addr) : Obj := match k with
  | true => { cls := .type "list_iterator", data := .fields #[.ref l, .int 0 0] }
  | false => { cls := .type "tuple_iterator", data := .fields #[.ref l, .int 0 0] }
abbrev tupO (xs : Array Value) : Obj := { cls := .type "tuple", data := .seq xs }
section
variable {prog : Program} {w : World} {A : Around} {E : Value → Shared → Prop} {s : Shared}
theorem next01_item {k : Bool} {it l : Addr} {i : Nat} {items : Array Value} {x : Value} {Q : Value → Shared → Prop} (hit : It01 k s.heap it l i)
    (hl : Sq01 k s.heap l items) (hx : items[i]? = some x) (hQ : ∀ h', It01 k h' it l (i + 1) → Heap.SameBut it s.heap h' → Q x { s with heap := h' }) :
    wpAny (model prog w) A (Builtin.SmallTypes.nextOf (.ref it)) Q E s := by
  cases k
  · exact nextOf_tuple_item hit hl hx hQ
  · exact wpAny_nextOf_list_item hit hl hx hQ
theorem next01_end {k : Bool} {it l : Addr} {i : Nat} {items : Array Value} {Q : Value → Shared → Prop} (hh : A.handled = none)
    (hit : It01 k s.heap it l i) (hl : Sq01 k s.heap l items) (hx : items[i]? = none)
    (hE : ∀ h' e, Heap.ExtBut it s.heap h' → (∃ o, h'.get? e = some o ∧ o.cls = .type "StopIteration") → E (.ref e) { s with heap := h' }) :
    wpAny (model prog w) A (Builtin.SmallTypes.nextOf (.ref it)) Q E s := by
  cases k
  · exact nextOf_tuple_end hh hit hl hx hE
  · exact wpAny_nextOf_list_end hh hit hl hx hE
theorem iter01 {k : Bool} {l : Addr} {items : Array Value} {Q : Value → Shared → Prop} (hl : Sq01 k s.heap l items)
    (hQ : Q (.ref s.heap.objs.size) { s with heap := s.heap.push (itO k l) }) :
    wpAny (model prog w) A (pyIter (.ref l)) Q E s := by
  cases k
  · exact wpAny_pyIter_tuple hl hQ
  · exact wpAny_pyIter_list hl hQ
end
/-- each source has one more item -/
inductive AtI (h : Heap) (i : Nat) : List Sr → List Value → Prop
  | nil : AtI h i [] []
  | cons {r : Sr} {rs : List Sr} {x : Value} {xs : List Value} {items : Array Value} : It01 r.k h r.it r.l i → Sq01 r.k h r.l items → items[i]? = some x → AtI h i rs xs → AtI h i (r :: rs) (x :: xs)
/-- some source has no more items -/
inductive EndI (h : Heap) (i : Nat) : List Sr → Prop
  | here {r : Sr} {rs : List Sr} {items : Array Value} : It01 r.k h r.it r.l i → Sq01 r.k h r.l items → items[i]? = none → EndI h i (r :: rs)
  | next {r : Sr} {rs : List Sr} {items : Array Value} {x : Value} : It01 r.k h r.it r.l i → Sq01 r.k h r.l items → items[i]? = some x → EndI h i rs → EndI h i (r :: rs)
theorem AtI.length {h : Heap} {i : Nat} {rs : List Sr} {xs : List Value} (a : AtI h i rs xs) : xs.length = rs.length := by
  induction a with
  | nil => rfl
  | cons _ _ _ _ ih => rw [List.length_cons, List.length_cons, ih]
theorem AtI.keep {h h' : Heap} {i : Nat} {rs : List Sr} {xs : List Value} (a : AtI h i rs xs) : (∀ r ∈ rs, (∀ o, h.get? r.it = some o → h'.get? r.it = some o) ∧ ∀ o, h.get? r.l = some o → h'.get? r.l = some o) → AtI h' i rs xs := by
  induction a with
  | nil => exact fun _ => .nil
  | cons h1 h2 h3 _ ih => exact fun k => .cons (h1.at (k _ List.mem_cons_self).1) (h2.at (k _ List.mem_cons_self).2) h3 (ih fun q hq => k q (List.mem_cons_of_mem _ hq))
theorem EndI.keep {h h' : Heap} {i : Nat} {rs : List Sr} (a : EndI h i rs) : (∀ r ∈ rs, (∀ o, h.get? r.it = some o → h'.get? r.it = some o) ∧ ∀ o, h.get? r.l = some o → h'.get? r.l = some o) → EndI h' i rs := by
  induction a with
  | here h1 h2 h3 => exact fun k => .here (h1.at (k _ List.mem_cons_self).1) (h2.at (k _ List.mem_cons_self).2) h3
  | next h1 h2 h3 _ ih => exact fun k => .next (h1.at (k _ List.mem_cons_self).1) (h2.at (k _ List.mem_cons_self).2) h3 (ih fun q hq => k q (List.mem_cons_of_mem _ hq))
def setFrom (a : Array Value) (k : Nat) : List Value → Array Value
  | [] => a
  | x :: xs => setFrom (a.setIfInBounds k x) (k + 1) xs
theorem setFrom_list : ∀ (xs : List Value) (a : Array Value) (pre suf : List Value), a.toList = pre ++ suf → suf.length = xs.length → (setFrom a pre.length xs).toList = pre ++ xs
  | [], a, pre, suf, h, hl => by
    cases suf with
    | nil => simpa [setFrom] using h
    | cons => cases hl
  | x :: xs, a, pre, suf, h, hl => by
    cases suf with
    | nil => cases hl
    | cons y suf =>
      have e : (a.setIfInBounds pre.length x).toList = (pre ++ [x]) ++ suf := by
        rw [Array.toList_setIfInBounds, h]
        simp
      have := setFrom_list xs _ (pre ++ [x]) suf e (by simpa using hl)
      rw [List.length_append] at this
      unfold setFrom
      rw [show pre.length + 1 = pre.length + [x].length from rfl, this]
      simp
theorem setFrom_all {xs : List Value} {a : Array Value} (h : a.size = xs.length) : setFrom a 0 xs = xs.toArray := by
  have := setFrom_list xs a [] a.toList rfl (by simpa using h)
  exact Array.toList_inj.mp (by simpa using this)
structure Apart (z TI TO : Addr) (src : List Sr) : Prop where
  TIz : TI ≠ z
  TOz : TO ≠ z
  TITO : TI ≠ TO
  it : ∀ r ∈ src, r.it ≠ z ∧ r.it ≠ TI ∧ r.it ≠ TO ∧ r.l ≠ z ∧ r.l ≠ TO
  its : src.Pairwise fun a b => a.it ≠ b.it
  lit : ∀ r ∈ src, ∀ q ∈ src, r.l ≠ q.it
section
variable {prog : Program} {w : World} {A : Around} {E : Value → Shared → Prop}
theorem zloop_item {σ : Type} {init : σ} {b : Value × Nat → σ → Sem (ForInStep σ)} {TO : Addr} {i : Nat}
    (hb : ∀ (s : Shared) (r : Sr) (x : Value) (j : Nat) (kept items : Array Value) (Q : ForInStep σ → Shared → Prop), It01 r.k s.heap r.it r.l i → Sq01 r.k s.heap r.l items → items[i]? = some x → r.it ≠ TO → s.heap.get? TO = some (tupO kept) → kept.size ≤ 1000 →
      (∀ h', It01 r.k h' r.it r.l (i + 1) → h'.get? TO = some (tupO (kept.setIfInBounds j x)) → (∀ c, c ≠ TO → c ≠ r.it → h'.get? c = s.heap.get? c) → h'.objs.size = s.heap.objs.size → Q (.yield init) { s with heap := h' }) →
      wpAny (model prog w) A (b (.ref r.it, j) init) Q E s) :
    ∀ (rs : List Sr) (xs : List Value) (k : Nat) (kept : Array Value) (s : Shared) (Q : σ → Shared → Prop), AtI s.heap i rs xs → (∀ r ∈ rs, r.it ≠ TO ∧ r.l ≠ TO) → (rs.Pairwise fun a b => a.it ≠ b.it) → (∀ r ∈ rs, ∀ q ∈ rs, r.l ≠ q.it) → s.heap.get? TO = some (tupO kept) → kept.size ≤ 1000 →
      (∀ h', (∀ r ∈ rs, It01 r.k h' r.it r.l (i + 1)) → h'.get? TO = some (tupO (setFrom kept k xs)) → (∀ c, c ≠ TO → (∀ r ∈ rs, c ≠ r.it) → h'.get? c = s.heap.get? c) → h'.objs.size = s.heap.objs.size → Q init { s with heap := h' }) →
      wpAny (model prog w) A (forIn ((rs.map fun r => Value.ref r.it).zipIdx k) init b) Q E s := by
  intro rs
  induction rs with
  | nil =>
    intro xs k kept s Q hat _ _ _ hTO _ hQ
    cases hat
    simp only [List.map_nil, List.zipIdx_nil, List.forIn_nil]
    exact wpAny_pure (hQ s.heap (fun r hr => absurd hr List.not_mem_nil) hTO (fun _ _ _ => rfl) rfl)
  | cons r rs ih =>
    intro xs k kept s Q hat ap pw li hTO hz hQ
    obtain ⟨x, xs, items, rfl, h1, h2, h3, h4⟩ : ∃ x xs' items, xs = x :: xs' ∧ It01 r.k s.heap r.it r.l i ∧ Sq01 r.k s.heap r.l items ∧ items[i]? = some x ∧ AtI s.heap i rs xs' := by
      cases hat with
      | cons h1 h2 h3 h4 => exact ⟨_, _, _, rfl, h1, h2, h3, h4⟩
    simp only [List.map_cons, List.zipIdx_cons, List.forIn_cons]
    have ar := ap r List.mem_cons_self
    have pr : ∀ {q : Sr}, q ∈ rs → r.it ≠ q.it := fun hq => List.rel_of_pairwise_cons pw hq
    refine wpAny_bind (hb s r x k kept items _ h1 h2 h3 ar.1 hTO hz fun h' i1 t1 f1 z1 => ?_)
    refine ih xs (k + 1) (kept.setIfInBounds k x) { s with heap := h' } Q (h4.keep fun q hq => ⟨fun o e => ?_, fun o e => ?_⟩) (fun q hq => ap q (List.mem_cons_of_mem _ hq)) (List.Pairwise.of_cons pw) (fun q hq q2 hq2 => li q (List.mem_cons_of_mem _ hq) q2 (List.mem_cons_of_mem _ hq2)) t1 (by simpa using hz) fun h'' i2 t2 f2 z2 => ?_
    · rw [f1 _ (ap q (List.mem_cons_of_mem _ hq)).1 (pr hq).symm]; exact e
    · rw [f1 _ (ap q (List.mem_cons_of_mem _ hq)).2 (li q (List.mem_cons_of_mem _ hq) r List.mem_cons_self)]; exact e
    · refine hQ h'' (fun q hq => ?_) t2 (fun c c1 c2 => ?_) (z2.trans z1)
      · rcases List.mem_cons.mp hq with rfl | hq
        · exact i1.at fun o e => by rw [f2 _ ar.1 fun q2 hq2 => pr hq2]; exact e
        · exact i2 q hq
      · rw [f2 c c1 fun q hq => c2 q (List.mem_cons_of_mem _ hq)]
        exact f1 c c1 (c2 r List.mem_cons_self)
theorem zloop_end {σ : Type} {init : σ} {b : Value × Nat → σ → Sem (ForInStep σ)} {TO : Addr} {i : Nat}
    (hb : ∀ (s : Shared) (r : Sr) (x : Value) (j : Nat) (kept items : Array Value) (Q : ForInStep σ → Shared → Prop), It01 r.k s.heap r.it r.l i → Sq01 r.k s.heap r.l items → items[i]? = some x → r.it ≠ TO → s.heap.get? TO = some (tupO kept) → kept.size ≤ 1000 →
      (∀ h', It01 r.k h' r.it r.l (i + 1) → h'.get? TO = some (tupO (kept.setIfInBounds j x)) → (∀ c, c ≠ TO → c ≠ r.it → h'.get? c = s.heap.get? c) → h'.objs.size = s.heap.objs.size → Q (.yield init) { s with heap := h' }) →
      wpAny (model prog w) A (b (.ref r.it, j) init) Q E s) (z : Addr) (oz : Obj)
    (he : ∀ (s : Shared) (r : Sr) (j : Nat) (items : Array Value) (Q : ForInStep σ → Shared → Prop), It01 r.k s.heap r.it r.l i → Sq01 r.k s.heap r.l items → items[i]? = none → r.it ≠ z → s.heap.get? z = some oz →
      (∀ h' e, (∀ c o, c ≠ z → c ≠ r.it → s.heap.get? c = some o → h'.get? c = some o) → (∃ o, h'.get? e = some o ∧ o.cls = .type "StopIteration") → E (.ref e) { s with heap := h' }) → wpAny (model prog w) A (b (.ref r.it, j) init) Q E s) :
    ∀ (rs : List Sr) (k : Nat) (kept : Array Value) (s : Shared) (Q : σ → Shared → Prop), EndI s.heap i rs → (∀ r ∈ rs, r.it ≠ TO ∧ r.l ≠ TO ∧ r.it ≠ z) → z ≠ TO → (rs.Pairwise fun a b => a.it ≠ b.it) → (∀ r ∈ rs, ∀ q ∈ rs, r.l ≠ q.it) → s.heap.get? TO = some (tupO kept) → kept.size ≤ 1000 → s.heap.get? z = some oz →
      (∀ h' e, (∀ c o, c ≠ z → c ≠ TO → (∀ r ∈ rs, c ≠ r.it) → s.heap.get? c = some o → h'.get? c = some o) → (∃ o, h'.get? e = some o ∧ o.cls = .type "StopIteration") → E (.ref e) { s with heap := h' }) →
      wpAny (model prog w) A (forIn ((rs.map fun r => Value.ref r.it).zipIdx k) init b) Q E s := by
  intro rs
  induction rs with
  | nil =>
    intro k kept s Q hat
    cases hat
  | cons r rs ih =>
    intro k kept s Q hat ap zT pw li hTO hz oz hE
    have hat : (∃ items, It01 r.k s.heap r.it r.l i ∧ Sq01 r.k s.heap r.l items ∧ items[i]? = none) ∨ (∃ items x, It01 r.k s.heap r.it r.l i ∧ Sq01 r.k s.heap r.l items ∧ items[i]? = some x ∧ EndI s.heap i rs) := by
      cases hat with
      | here h1 h2 h3 => exact .inl ⟨_, h1, h2, h3⟩
      | next h1 h2 h3 h4 => exact .inr ⟨_, _, h1, h2, h3, h4⟩
    simp only [List.map_cons, List.zipIdx_cons, List.forIn_cons]
    have ar := ap r List.mem_cons_self
    have pr : ∀ {q : Sr}, q ∈ rs → r.it ≠ q.it := fun hq => List.rel_of_pairwise_cons pw hq
    rcases hat with ⟨items, h1, h2, h3⟩ | ⟨items, x, h1, h2, h3, h4⟩
    · exact wpAny_bind (he s r k items _ h1 h2 h3 ar.2.2 oz fun h' e f st => hE h' e (fun c o c1 c2 c3 q => f c o c1 (c3 r List.mem_cons_self) q) st)
    refine wpAny_bind (hb s r x k kept items _ h1 h2 h3 ar.1 hTO hz fun h' i1 t1 f1 z1 => ?_)
    refine ih (k + 1) (kept.setIfInBounds k x) { s with heap := h' } Q (h4.keep fun q hq => ⟨fun o e => ?_, fun o e => ?_⟩) (fun q hq => ap q (List.mem_cons_of_mem _ hq)) zT (List.Pairwise.of_cons pw) (fun q hq q2 hq2 => li q (List.mem_cons_of_mem _ hq) q2 (List.mem_cons_of_mem _ hq2)) t1 (by simpa using hz) ?_ fun h'' e f st => ?_
    · rw [f1 _ (ap q (List.mem_cons_of_mem _ hq)).1 (pr hq).symm]; exact e
    · rw [f1 _ (ap q (List.mem_cons_of_mem _ hq)).2.1 (li q (List.mem_cons_of_mem _ hq) r List.mem_cons_self)]; exact e
    · rw [f1 _ zT (Ne.symm ar.2.2)]; exact oz
    · refine hE h'' e (fun c o c1 c2 c3 q => f c o c1 c2 (fun q2 hq2 => c3 q2 (List.mem_cons_of_mem _ hq2)) ?_) st
      rw [f1 c c2 (c3 r List.mem_cons_self)]
      exact q
abbrev frE (z TO : Addr) (src : List Sr) (h h' : Heap) : Prop := ∀ c o, c ≠ z → c ≠ TO → (∀ r ∈ src, c ≠ r.it) → h.get? c = some o → h'.get? c = some o
variable {s : Shared}
theorem zipN_step {z TI TO : Addr} {i : Nat} {σ : Type} {init : σ} {cont : Option Value → Sem (ForInStep σ)} {r : Sr} {x : Value} {j : Nat} {kept items : Array Value} {Q : ForInStep σ → Shared → Prop}
    (hcont : ∀ (s : Shared) (Q : ForInStep σ → Shared → Prop), s.heap.get? TO = some (tupO kept) → (∀ h', h'.get? TO = some (tupO (kept.setIfInBounds j x)) → Heap.SameBut TO s.heap h' → Q (.yield init) { s with heap := h' }) → wpAny (model prog w) A (cont (some x)) Q E s)
    (h1 : It01 r.k s.heap r.it r.l i) (h2 : Sq01 r.k s.heap r.l items) (h3 : items[i]? = some x) (ne : r.it ≠ TO) (hTO : s.heap.get? TO = some (tupO kept)) 
    (hQ : ∀ h', It01 r.k h' r.it r.l (i + 1) → h'.get? TO = some (tupO (kept.setIfInBounds j x)) → (∀ c, c ≠ TO → c ≠ r.it → h'.get? c = s.heap.get? c) → h'.objs.size = s.heap.objs.size → Q (.yield init) { s with heap := h' }) :
    wpAny (model prog w) A ((do let v ← (do let y ← Builtin.SmallTypes.nextOf (.ref r.it); return some y).onRaise fun _ => setField (.ref z) 0 .none; cont v)) Q E s := by
  refine wpAny_bind (wpAny_onRaise (wpAny_bind (next01_item h1 h2 h3 fun h' i1 sb => wpAny_pure ?_)))
  have hTO' : h'.get? TO = some (tupO kept) := by rw [sb.2 TO (Ne.symm ne)]; exact hTO
  refine hcont _ _ hTO' fun h'' t2 sb2 => hQ h'' (i1.at fun o e => ?_) t2 (fun c c1 c2 => ?_) ?_
  · rw [sb2.2 _ ne]; exact e
  · rw [sb2.2 c c1]; exact sb.2 c c2
  · exact sb2.1.trans sb.1
theorem zipN_next_item {z TI TO : Addr} {r0 : Sr} {rs : List Sr} {xs : List Value} {i : Nat} {kept : Array Value} {Q : Value → Shared → Prop} (ap : Apart z TI TO (r0 :: rs))
    (hz : IsZip s.heap z TI TO .none) (hTI : s.heap.get? TI = some (tupO ((r0 :: rs).map fun r => Value.ref r.it).toArray)) (hTO : s.heap.get? TO = some (tupO kept)) (hk : kept.size = (r0 :: rs).length) (hkl : (r0 :: rs).length ≤ 1000) (hat : AtI s.heap i (r0 :: rs) xs)
    (hQ : ∀ h', IsZip h' z TI TO (rawInt s.heap.objs.size) → h'.get? TO = some (tupO xs.toArray) → (∀ r ∈ (r0 :: rs), It01 r.k h' r.it r.l (i + 1)) → h'.get? s.heap.objs.size = some (tupO xs.toArray) → h'.objs.size = s.heap.objs.size + 1 →
      frE z TO (r0 :: rs) s.heap h' → Q (.ref s.heap.objs.size) { s with heap := h' }) :
    wpAny (model prog w) A (Builtin.«zip.__next__» ⟨[.ref z], []⟩) (fun fin s' => ∃ v, fin = .done (.ret v) ∧ Q v s') E s := by
  have hxl := hat.length
  show wpAny _ _ (field (.ref z) 2 >>= _) _ _ _
  refine wpAny_bind (wpAny_field hz rfl (x := .bool false) rfl ?_)
  show wpAny _ _ (field (.ref z) 3 >>= _) _ _ _
  refine wpAny_bind (wpAny_field hz rfl (x := .ref TI) rfl ?_)
  refine wpAny_bind (wpAny_seqItems hTI rfl ?_)
  show wpAny _ _ (Builtin.SmallTypes.ownedTupleIsFree (.ref z) >>= _) _ _ _
  refine wpAny_bind ?_
  unfold Builtin.SmallTypes.ownedTupleIsFree
  refine wpAny_bind (wpAny_field hz rfl (x := .none) rfl (wpAny_pure ?_))
  simp only [if_true]
  refine wpAny_bind (wpAny_rule ?_)
  refine wpAny_bind (wpAny_field hz rfl (x := .ref TO) rfl ?_)
  refine wpAny_bind (wpAny_setField_rec hz (by simp) fun h₁ hz₁ hs₁ => ?_)
  replace hz₁ : IsZip h₁ z TI TO .ellipsis := hz₁
  have e₁ : ∀ c o, c ≠ z → s.heap.get? c = some o → h₁.get? c = some o := fun c o hc e => by rw [hs₁.2 c hc]; exact e
  refine wpAny_bind ?_
  refine zloop_item (TO := TO) (i := i) ?_ (r0 :: rs) xs 0 kept { s with heap := h₁ } _ (hat.keep fun r hr => ⟨fun o => e₁ _ o (ap.it r hr).1, fun o => e₁ _ o (ap.it r hr).2.2.2.1⟩) (fun r hr => ⟨(ap.it r hr).2.2.1, (ap.it r hr).2.2.2.2⟩) ap.its ap.lit (e₁ _ _ ap.TOz hTO) (by omega) ?_
  · intro s r x j kept items Q h1 h2 h3 ne hTO hkz hQ
    refine zipN_step (TI := TI) (cont := _) ?_ h1 h2 h3 ne hTO hQ
    intro s Q hTO hQ
    refine wpAny_bind (wpAny_seqItems hTO rfl ?_)
    refine wpAny_bind (wpAny_updateSeq hTO rfl ?_ ?_ ?_)
    · refine wpAny_bind (wpAny_letGo (wpAny_pure (hQ _ ?_ (Heap.SameBut.update ..))))
      rw [Heap.get?_update_self _ hTO rfl]
      simp [Obj.mapSeq]
    · have : (1000 : Nat) ≤ sizeLine := by size_fits
      omega
    · have : (1000 : Nat) ≤ sizeLine := by size_fits
      rw [Array.size_setIfInBounds]
      omega
  intro h₅ i5 t5 f5 z5
  rw [setFrom_all (by omega)] at t5
  have hsz : h₅.objs.size = s.heap.objs.size := z5.trans hs₁.1
  have zs : ∀ r ∈ r0 :: rs, z ≠ r.it := fun r hr => (ap.it r hr).1.symm
  have hz₅ : IsZip h₅ z TI TO .ellipsis := (f5 z (Ne.symm ap.TOz) zs).trans hz₁
  refine wpAny_bind (wpAny_seqItems t5 rfl ?_)
  refine wpAny_bind (wpAny_newTuple ?_)
  show wpAny _ _ (Builtin.SmallTypes.ownedTupleHandOut (.ref z) (.ref h₅.objs.size) >>= _) _ _ _
  refine wpAny_bind ?_
  unfold Builtin.SmallTypes.ownedTupleHandOut
  have hzlt : z < h₅.objs.size := Heap.lt_size hz₅
  have hz₆ : IsZip (h₅.push (tupO xs.toArray)) z TI TO .ellipsis := Heap.get?_push_of_some _ hz₅
  refine wpAny_bind (wpAny_setField_rec hz₆ (by simp) fun h₇ hz₇ hs₇ => ?_)
  replace hz₇ : IsZip h₇ z TI TO (rawInt h₅.objs.size) := hz₇
  refine wpAny_setField_rec hz₇ (by simp) fun h₈ hz₈ hs₈ => ?_
  replace hz₈ : IsZip h₈ z TI TO (rawInt h₅.objs.size) := hz₈
  have up : ∀ c o, c ≠ z → h₅.get? c = some o → h₈.get? c = some o := fun c o c1 e => by
    rw [hs₈.2 c c1, hs₇.2 c c1]
    exact Heap.get?_push_of_some _ e
  have hT₈ : h₈.get? h₅.objs.size = some (tupO xs.toArray) := by
    rw [hs₈.2 _ (Nat.ne_of_gt hzlt), hs₇.2 _ (Nat.ne_of_gt hzlt)]
    exact Heap.get?_push_size _ rfl
  have hz8 : h₈.objs.size = h₅.objs.size + 1 := by rw [hs₈.1, hs₇.1, Heap.size_push]
  rw [hsz] at hz₈ hT₈ hz8
  refine wpAny_pure ⟨_, rfl, ?_⟩
  show Q (.ref h₅.objs.size) _
  rw [hsz]
  refine hQ h₈ hz₈ (up _ _ ap.TOz t5) (fun r hr => (i5 r hr).at fun o e => up _ o (ap.it r hr).1 e) hT₈ hz8 fun c o c1 c2 c3 e => up c o c1 ?_
  rw [f5 c c2 c3]
  exact e₁ c o c1 e
theorem zipN_next_end {z TI TO : Addr} {r0 : Sr} {rs : List Sr} {i : Nat} {kept : Array Value} {Q : Fin → Shared → Prop} (hh : A.handled = none) (ap : Apart z TI TO (r0 :: rs))
    (hz : IsZip s.heap z TI TO .none) (hTI : s.heap.get? TI = some (tupO ((r0 :: rs).map fun r => Value.ref r.it).toArray)) (hTO : s.heap.get? TO = some (tupO kept)) (hk : kept.size ≤ 1000) (hat : EndI s.heap i (r0 :: rs))
    (hE : ∀ h' e, frE z TO (r0 :: rs) s.heap h' → (∃ o, h'.get? e = some o ∧ o.cls = .type "StopIteration") → E (.ref e) { s with heap := h' }) :
    wpAny (model prog w) A (Builtin.«zip.__next__» ⟨[.ref z], []⟩) Q E s := by
  show wpAny _ _ (field (.ref z) 2 >>= _) _ _ _
  refine wpAny_bind (wpAny_field hz rfl (x := .bool false) rfl ?_)
  show wpAny _ _ (field (.ref z) 3 >>= _) _ _ _
  refine wpAny_bind (wpAny_field hz rfl (x := .ref TI) rfl ?_)
  refine wpAny_bind (wpAny_seqItems hTI rfl ?_)
  show wpAny _ _ (Builtin.SmallTypes.ownedTupleIsFree (.ref z) >>= _) _ _ _
  refine wpAny_bind ?_
  unfold Builtin.SmallTypes.ownedTupleIsFree
  refine wpAny_bind (wpAny_field hz rfl (x := .none) rfl (wpAny_pure ?_))
  simp only [if_true]
  refine wpAny_bind (wpAny_rule ?_)
  refine wpAny_bind (wpAny_field hz rfl (x := .ref TO) rfl ?_)
  refine wpAny_bind (wpAny_setField_rec hz (by simp) fun h₁ hz₁ hs₁ => ?_)
  replace hz₁ : IsZip h₁ z TI TO .ellipsis := hz₁
  have e₁ : ∀ c o, c ≠ z → s.heap.get? c = some o → h₁.get? c = some o := fun c o hc e => by rw [hs₁.2 c hc]; exact e
  refine wpAny_bind ?_
  refine zloop_end (TO := TO) (i := i) ?_ z _ ?_ (r0 :: rs) 0 kept { s with heap := h₁ } _ (hat.keep fun r hr => ⟨fun o => e₁ _ o (ap.it r hr).1, fun o => e₁ _ o (ap.it r hr).2.2.2.1⟩) (fun r hr => ⟨(ap.it r hr).2.2.1, (ap.it r hr).2.2.2.2, (ap.it r hr).1⟩) (Ne.symm ap.TOz) ap.its ap.lit (e₁ _ _ ap.TOz hTO) hk hz₁ ?_
  · intro s r x j kept items Q h1 h2 h3 ne hTO hkz hQ
    refine zipN_step (TI := TI) (cont := _) ?_ h1 h2 h3 ne hTO hQ
    intro s Q hTO hQ
    refine wpAny_bind (wpAny_seqItems hTO rfl ?_)
    refine wpAny_bind (wpAny_updateSeq hTO rfl ?_ ?_ ?_)
    · refine wpAny_bind (wpAny_letGo (wpAny_pure (hQ _ ?_ (Heap.SameBut.update ..))))
      rw [Heap.get?_update_self _ hTO rfl]
      simp [Obj.mapSeq]
    · have : (1000 : Nat) ≤ sizeLine := by size_fits
      omega
    · have : (1000 : Nat) ≤ sizeLine := by size_fits
      rw [Array.size_setIfInBounds]
      omega
  · intro s r j items Q h1 h2 h3 ne oz hE
    refine wpAny_bind (wpAny_onRaise ?_)
    show wpAny _ _ (Builtin.SmallTypes.nextOf (.ref r.it) >>= _) _ _ _
    refine wpAny_bind (next01_end hh h1 h2 h3 fun h₂ e hs₂ he => ?_)
    obtain ⟨oe, hoe, hce⟩ := he
    have hz₂ : IsZip h₂ z TI TO .ellipsis := hs₂ _ _ (Ne.symm ne) oz
    have hez : e ≠ z := fun x => by subst x; rw [hz₂] at hoe; cases hoe; simp at hce
    exact wpAny_setField_rec hz₂ (by simp) fun h₃ _ hs₃ => hE h₃ e (fun c o c1 c2 x => hs₃.extBut _ _ c1 (hs₂ _ _ c2 x)) ⟨oe, hs₃.extBut _ _ hez hoe, hce⟩
  · exact fun h' e f st => hE h' e (fun c o c1 c2 c3 q => f c o c1 c2 c3 (e₁ c o c1 q)) st
theorem pyNext_zipN_item {z TI TO : Addr} {r0 : Sr} {rs : List Sr} {xs : List Value} {i : Nat} {kept : Array Value} {Q : Option Value → Shared → Prop} (ap : Apart z TI TO (r0 :: rs))
    (hz : IsZip s.heap z TI TO .none) (hTI : s.heap.get? TI = some (tupO ((r0 :: rs).map fun r => Value.ref r.it).toArray)) (hTO : s.heap.get? TO = some (tupO kept)) (hk : kept.size = (r0 :: rs).length) (hkl : (r0 :: rs).length ≤ 1000) (hat : AtI s.heap i (r0 :: rs) xs)
    (hQ : ∀ h', IsZip h' z TI TO (rawInt s.heap.objs.size) → h'.get? TO = some (tupO xs.toArray) → (∀ r ∈ (r0 :: rs), It01 r.k h' r.it r.l (i + 1)) → h'.get? s.heap.objs.size = some (tupO xs.toArray) → h'.objs.size = s.heap.objs.size + 1 →
      frE z TO (r0 :: rs) s.heap h' → Q (some (.ref s.heap.objs.size)) { s with heap := h' }) : wpAny (model prog w) A (pyNext (.ref z)) Q E s := by
  have hT : s.TypeIs (.ref z) "zip" := ⟨_, hz, rfl⟩
  unfold pyNext
  exact wpAny_bind (wpAny_attempt (wpAny_callSpecial?_slot (name := Str.ofString "__next__") hT F.slot_zip_next
    (wpAny_call_entry F.slot_zip_next hT F.entry_zip_next
      (zipN_next_item ap hz hTI hTO hk hkl hat fun h' a1 a2 a3 a4 a5 a6 => wpAny_pure (hQ h' a1 a2 a3 a4 a5 a6)) (F.args_zip_next_1 _))))
theorem pyNext_zipN_end {z TI TO : Addr} {r0 : Sr} {rs : List Sr} {i : Nat} {kept : Array Value} {Q : Option Value → Shared → Prop} (hh : A.handled = none) (ap : Apart z TI TO (r0 :: rs))
    (hz : IsZip s.heap z TI TO .none) (hTI : s.heap.get? TI = some (tupO ((r0 :: rs).map fun r => Value.ref r.it).toArray)) (hTO : s.heap.get? TO = some (tupO kept)) (hk : kept.size ≤ 1000) (hat : EndI s.heap i (r0 :: rs))
    (hQ : ∀ h', frE z TO (r0 :: rs) s.heap h' → Q none { s with heap := h' }) : wpAny (model prog w) A (pyNext (.ref z)) Q E s := by
  have hT : s.TypeIs (.ref z) "zip" := ⟨_, hz, rfl⟩
  unfold pyNext
  refine wpAny_bind (wpAny_attempt (wpAny_callSpecial?_slot (name := Str.ofString "__next__") hT F.slot_zip_next
    (wpAny_call_entry F.slot_zip_next hT F.entry_zip_next (zipN_next_end hh ap hz hTI hTO hk hat fun h' e hk he => ?_) (F.args_zip_next_1 _))))
  obtain ⟨o, ho, hc⟩ := he
  refine wpAny_bind (wpAny_isInstance (T := "StopIteration") (b := true) ⟨o, ho, hc⟩ isSubtype_stop ?_)
  exact wpAny_pure (hQ _ hk)
end
theorem Sq01.push {k : Bool} {h : Heap} {l : Addr} {xs : Array Value} (x : Sq01 k h l xs) (o : Obj) : Sq01 k (h.push o) l xs := x.at fun _ e => Heap.get?_push_of_some _ e
abbrev zOb (ti to : Addr) : Obj := { cls := .type "zip", data := .fields #[.none, .bool false, .bool false, .ref ti, .ref to] }
theorem meets_zip2 (k1 k2 : Bool) (l1 l2 : Addr) (xs ys : Array Value) :
    Meets (Builtin.«zip.__new__» ⟨[.type "zip", .ref l1, .ref l2], []⟩) (fun _ R s => Sq01 k1 s.heap l1 xs ∧ Sq01 k2 s.heap l2 ys ∧
      R (.ok (.ret (.ref (((s.heap.push (itO k1 l1)).push (itO k2 l2)).push (tupO #[.ref s.heap.objs.size, .ref (s.heap.push (itO k1 l1)).objs.size]) |>.push (tupO #[.none, .none])).objs.size))) { s with heap := (((s.heap.push (itO k1 l1)).push (itO k2 l2)).push (tupO #[.ref s.heap.objs.size, .ref (s.heap.push (itO k1 l1)).objs.size]) |>.push (tupO #[.none, .none])).push (zOb ((s.heap.push (itO k1 l1)).push (itO k2 l2)).objs.size (((s.heap.push (itO k1 l1)).push (itO k2 l2)).push (tupO #[.ref s.heap.objs.size, .ref (s.heap.push (itO k1 l1)).objs.size])).objs.size) }) :=
  .of_wp fun prog w A R s h => by
    obtain ⟨hp, g, d, tk, os⟩ := s; obtain ⟨hl1, hl2, h⟩ := h
    have hsub := sub_zip
    have hL1 : Sq01 k1 (Shared.heap ⟨hp, g, d, tk, os⟩) l1 xs := hl1
    have hL2 : Sq01 k2 (Shared.heap ⟨hp.push (itO k1 l1), g, d, tk, os⟩) l2 ys := hl2.push _
    wp_walk using iter01 hL1, iter01 hL2
    exact ⟨_, rfl, h⟩
abbrev zi1 (h : Heap) (k1 : Bool) (l1 : Addr) : Heap := h.push (itO k1 l1)
abbrev zi2 (h : Heap) (k1 k2 : Bool) (l1 l2 : Addr) : Heap := (zi1 h k1 l1).push (itO k2 l2)
abbrev zt2 (h : Heap) (k1 k2 : Bool) (l1 l2 : Addr) : Heap := (zi2 h k1 k2 l1 l2).push (tupO #[.ref h.objs.size, .ref (zi1 h k1 l1).objs.size])
abbrev zu2 (h : Heap) (k1 k2 : Bool) (l1 l2 : Addr) : Heap := (zt2 h k1 k2 l1 l2).push (tupO #[.none, .none])
abbrev zv2 (h : Heap) (k1 k2 : Bool) (l1 l2 : Addr) : Heap := (zu2 h k1 k2 l1 l2).push (zOb (zi2 h k1 k2 l1 l2).objs.size (zt2 h k1 k2 l1 l2).objs.size)
theorem it01_new (k : Bool) (h : Heap) (l : Addr) : It01 k (h.push (itO k l)) h.objs.size l 0 := by
  cases k
  · exact ⟨_, Heap.get?_push_size _ rfl, rfl, rfl⟩
  · exact ⟨_, Heap.get?_push_size _ rfl, rfl, rfl⟩
section
variable {prog : Program} {w : World} {A : Around} {E : Value → Shared → Prop} {s : Shared}
theorem call_zip2 {k1 k2 : Bool} {l1 l2 : Addr} {xs ys : Array Value} {Q : Value → Shared → Prop} (hl1 : Sq01 k1 s.heap l1 xs) (hl2 : Sq01 k2 s.heap l2 ys)
    (h : ∀ h', IsZip h' (s.heap.objs.size + 4) (s.heap.objs.size + 2) (s.heap.objs.size + 3) .none → h'.get? (s.heap.objs.size + 2) = some (tupO #[.ref s.heap.objs.size, .ref (s.heap.objs.size + 1)]) →
      h'.get? (s.heap.objs.size + 3) = some (tupO #[.none, .none]) → It01 k1 h' s.heap.objs.size l1 0 → It01 k2 h' (s.heap.objs.size + 1) l2 0 → (∀ c o, s.heap.get? c = some o → h'.get? c = some o) → Q (.ref (s.heap.objs.size + 4)) { s with heap := h' }) :
    wpAny (model prog w) A (call (.type "zip") [.ref l1, .ref l2]) Q E s := by
  refine callType_new F.called_zip (by decide) (F.typeCall_zip_2 _ _) (F.newCall_zip_2 _ _) (fun obj => F.args_object_init_3 obj _ _) F.entry_zip_new (meets_zip2 k1 k2 l1 l2 xs ys) ⟨hl1, hl2, ?_⟩
  have z1 : (zi1 s.heap k1 l1).objs.size = s.heap.objs.size + 1 := Heap.size_push ..
  have z2 : (zi2 s.heap k1 k2 l1 l2).objs.size = s.heap.objs.size + 2 := by rw [Heap.size_push, z1]
  have z3 : (zt2 s.heap k1 k2 l1 l2).objs.size = s.heap.objs.size + 3 := by rw [Heap.size_push, z2]
  have z4 : (zu2 s.heap k1 k2 l1 l2).objs.size = s.heap.objs.size + 4 := by rw [Heap.size_push, z3]
  have g5 : (zv2 s.heap k1 k2 l1 l2).get? (zu2 s.heap k1 k2 l1 l2).objs.size = some _ := Heap.get?_push_size _ rfl
  have g4 : (zv2 s.heap k1 k2 l1 l2).get? (zt2 s.heap k1 k2 l1 l2).objs.size = some _ := Heap.get?_push_of_some _ (Heap.get?_push_size _ rfl)
  have g3 : (zv2 s.heap k1 k2 l1 l2).get? (zi2 s.heap k1 k2 l1 l2).objs.size = some _ := Heap.get?_push_of_some _ (Heap.get?_push_of_some _ (Heap.get?_push_size _ rfl))
  have g2 : It01 k2 (zv2 s.heap k1 k2 l1 l2) (zi1 s.heap k1 l1).objs.size l2 0 := (it01_new k2 _ l2).at fun o e => Heap.get?_push_of_some _ (Heap.get?_push_of_some _ (Heap.get?_push_of_some _ e))
  have g1 : It01 k1 (zv2 s.heap k1 k2 l1 l2) s.heap.objs.size l1 0 := (it01_new k1 _ l1).at fun o e => Heap.get?_push_of_some _ (Heap.get?_push_of_some _ (Heap.get?_push_of_some _ (Heap.get?_push_of_some _ e)))
  show _ ∧ _
  rw [z2, z3, z4] at g5
  rw [z1, z2] at g3
  rw [z3] at g4
  rw [z1] at g2
  rw [show (((s.heap.push (itO k1 l1)).push (itO k2 l2)).push (tupO #[.ref s.heap.objs.size, .ref (s.heap.push (itO k1 l1)).objs.size]) |>.push (tupO #[.none, .none])).objs.size = s.heap.objs.size + 4 from z4]
  exact ⟨⟨_, g5, rfl⟩, h _ g5 g3 g4 g1 g2 fun c o x => Heap.get?_push_of_some _ (Heap.get?_push_of_some _ (Heap.get?_push_of_some _ (Heap.get?_push_of_some _ (Heap.get?_push_of_some _ x))))⟩
end
end Mr
namespace Mr
open PySem PySem.Spec PyProof.Rows L2 RZ
def SqX (K : PySem.W.Frag) (H : Hp) (k : Bool) (a : Addr) (xs : List V) : Prop := match k with
  | true => SqL K H a xs
  | false => SqT K H a xs
inductive AtV (K : PySem.W.Frag) (H : Hp) (i : Nat) : List (Bool × Addr) → List V → Prop
  | nil : AtV K H i [] []
  | cons {k : Bool} {a : Addr} {ks : List (Bool × Addr)} {x : V} {xs ys : List V} : SqX K H k a xs → xs[i]? = some x → AtV K H i ks ys → AtV K H i ((k, a) :: ks) (x :: ys)
inductive EndV (K : PySem.W.Frag) (H : Hp) (i : Nat) : List (Bool × Addr) → Prop
  | here {k : Bool} {a : Addr} {ks : List (Bool × Addr)} {xs : List V} : SqX K H k a xs → xs.length ≤ i → EndV K H i ((k, a) :: ks)
  | next {k : Bool} {a : Addr} {ks : List (Bool × Addr)} {x : V} {xs : List V} : SqX K H k a xs → xs[i]? = some x → EndV K H i ks → EndV K H i ((k, a) :: ks)
/-- the sources as they stand at each turn, the items in new tuples -/
def ItN (K : PySem.W.Frag) (ks : List (Bool × Addr)) : It :=
  ⟨fun i H => ∃ ys, AtV K H i ks ys, fun i H v H' => ∃ T ys, v = .ref T ∧ H T = none ∧ H' = upd H T (.tup ys) ∧ ∀ zs, AtV K H i ks zs → zs = ys, fun i H => EndV K H i ks⟩
section
variable {X : Cx} {pins : List (Addr × Obj)} {σ : L2.St} {H : Hp} {s : Shared}
theorem SqX.has {k : Bool} {a : Addr} {xs : List V} (I : Inv X pins σ H s) (q : SqX X.K H k a xs) : ∃ its : List Value, Vals xs its ∧ Sq01 k s.heap a its.toArray := by
  cases k
  · obtain ⟨its, rv, p, _⟩ := I.tuple q
    exact ⟨its, rv, p⟩
  · obtain ⟨its, rv, p, _⟩ := I.list q
    exact ⟨its, rv, p.isList⟩
theorem SqX.inj {k : Bool} {a : Addr} {xs ys : List V} (I : Inv X pins σ H s) (q : SqX X.K H k a xs) (r : SqX X.K H k a ys) : xs = ys := by
  cases k
  · exact I.tuple_inj q r
  · exact I.list_inj q r
theorem AtV.inj {i : Nat} {ks : List (Bool × Addr)} {xs ys : List V} (I : Inv X pins σ H s) (a : AtV X.K H i ks xs) : AtV X.K H i ks ys → ys = xs := by
  induction a generalizing ys with
  | nil => intro b; cases b; rfl
  | cons h1 h2 _ ih =>
    intro b
    cases b with
    | cons g1 g2 g3 =>
      rw [ih g3]
      have := g1.inj I h1
      subst this
      rw [h2] at g2
      cases g2
      rfl
theorem AtV.has {i : Nat} (I : Inv X pins σ H s) : ∀ {src : List Sr} {xs : List V}, (∀ r ∈ src, It01 r.k s.heap r.it r.l i) → AtV X.K H i (src.map fun r => (r.k, r.l)) xs → ∃ us, Vals xs us ∧ AtI s.heap i src us := by
  intro src
  induction src with
  | nil => intro xs _ a; cases a; exact ⟨[], .nil, .nil⟩
  | cons r rs ih =>
    intro xs hi a
    cases a with
    | cons h1 h2 h3 =>
      obtain ⟨us, v1, a1⟩ := ih (fun q hq => hi q (List.mem_cons_of_mem _ hq)) h3
      obtain ⟨its, rv, p⟩ := h1.has I
      obtain ⟨u, hu, ru⟩ := rv.get h2
      exact ⟨u :: us, .cons ru v1, .cons (hi r List.mem_cons_self) p (by simpa using hu) a1⟩
theorem EndV.has {i : Nat} (I : Inv X pins σ H s) : ∀ {src : List Sr}, (∀ r ∈ src, It01 r.k s.heap r.it r.l i) → EndV X.K H i (src.map fun r => (r.k, r.l)) → EndI s.heap i src := by
  intro src
  induction src with
  | nil => intro _ a; cases a
  | cons r rs ih =>
    intro hi a
    cases a with
    | here h1 h2 =>
      obtain ⟨its, rv, p⟩ := h1.has I
      have := rv.length
      exact .here (hi r List.mem_cons_self) p (by simp; omega)
    | next h1 h2 h3 =>
      obtain ⟨its, rv, p⟩ := h1.has I
      obtain ⟨u, hu, ru⟩ := rv.get h2
      exact .next (hi r List.mem_cons_self) p (by simpa using hu) (ih (fun q hq => hi q (List.mem_cons_of_mem _ hq)) h3)
end
def zFp (z TI TO : Addr) (src : List Sr) : List Addr := z :: TI :: TO :: src.map fun r => r.it
def zSt (z TI TO : Addr) (src : List Sr) (i : Nat) (h : Heap) : Prop :=
  IsZip h z TI TO .none ∧ h.get? TI = some (tupO (src.map fun r => Value.ref r.it).toArray) ∧ (∃ kept, kept.size = src.length ∧ h.get? TO = some (tupO kept)) ∧ ∀ r ∈ src, It01 r.k h r.it r.l i
theorem turn_zipN {P : Program} {w : World} {K : PySem.W.Frag} {elts : List Expr} {kk : Nat} {tpos : Pos} {z TI TO : Addr} {r0 : Sr} {rs : List Sr} (D : Apart z TI TO (r0 :: rs)) (hl : (r0 :: rs).length ≤ 1000) :
    Turn P w K (.Tuple elts kk tpos) (ItN K ((r0 :: rs).map fun r => (r.k, r.l))) (zFp z TI TO (r0 :: rs)) z (zSt z TI TO (r0 :: rs)) where
  mem := by simp [zFp]
  obj := fun i h st c hc => by
    obtain ⟨hz, hTI, ⟨kept, _, hTO⟩, hi⟩ := st
    unfold zFp at hc
    rcases List.mem_cons.mp hc with rfl | hc
    · exact ⟨_, hz, fun v q => nomatch q⟩
    rcases List.mem_cons.mp hc with rfl | hc
    · exact ⟨_, hTI, fun v q => nomatch q⟩
    rcases List.mem_cons.mp hc with rfl | hc
    · exact ⟨_, hTO, fun v q => nomatch q⟩
    obtain ⟨r, hr, rfl⟩ := List.mem_map.mp hc
    obtain ⟨o, e, d⟩ := (hi r hr).obj
    exact ⟨o, e, fun v q => by rw [d] at q; cases q⟩
  keep := fun i h h' st k => by
    obtain ⟨hz, hTI, ⟨kept, hk, hTO⟩, hi⟩ := st
    exact ⟨k z (by simp [zFp]) _ hz, k TI (by simp [zFp]) _ hTI, ⟨kept, hk, k TO (by simp [zFp]) _ hTO⟩, fun r hr => (hi r hr).at fun o q => k r.it (by unfold zFp; exact List.mem_cons_of_mem _ (List.mem_cons_of_mem _ (List.mem_cons_of_mem _ (List.mem_map_of_mem hr)))) o q⟩
  item := by
    intro X hP hw hK hc i pins s σ H E I hf st hg
    subst hP hw hK
    obtain ⟨hz, hTI, ⟨kept, hk, hTO⟩, hi⟩ := st
    obtain ⟨ys, hat⟩ := hg
    obtain ⟨us, vu, hat'⟩ := hat.has I hi
    have hul := hat'.length
    have hzl : z < s.heap.objs.size := Heap.lt_size hz
    refine pyNext_zipN_item D hz hTI hTO hk hl hat' fun h' z' TO' i' hT hsz hk' => ?_
    refine ⟨_, rfl, wpAny_letOwnedTupleGo_zip (s := { s with heap := h' }) z' fun h'' z'' sb => ?_⟩
    have hT2 : h''.get? s.heap.objs.size = some (tupO us.toArray) := (sb.2 _ (Nat.ne_of_gt hzl)).trans hT
    have hyl : ys.length ≤ sizeLine := by
      have e := vu.length
      have : (1000 : Nat) ≤ sizeLine := by size_fits
      omega
    have new : ObjOk X.prog X.w (upd H s.heap.objs.size (.tup ys)) h'' s.heap.objs.size (.tup ys) := ⟨hyl, us, vu, ⟨_, hT2, rfl, _, rfl⟩⟩
    have nin : ∀ {c : Addr}, c ∉ zFp z TI TO (r0 :: rs) → c ≠ z ∧ c ≠ TO ∧ ∀ r ∈ r0 :: rs, c ≠ r.it := fun {c} hn => by
      unfold zFp at hn
      refine ⟨fun e => hn (by rw [e]; exact List.mem_cons_self), fun e => hn (by rw [e]; exact List.mem_cons_of_mem _ (List.mem_cons_of_mem _ List.mem_cons_self)), fun r hr e => hn ?_⟩
      rw [e]
      exact List.mem_cons_of_mem _ (List.mem_cons_of_mem _ (List.mem_cons_of_mem _ (List.mem_map_of_mem hr)))
    have I1 : Inv X pins σ (upd H s.heap.objs.size (.tup ys)) { s with heap := h'' } :=
      I.turnedNew (t' := s.toks) (ch := zFp z TI TO (r0 :: rs)) (fun c o hb q => (sb.2 c (nin hb).1).trans (hk' c o (nin hb).1 (nin hb).2.1 (nin hb).2.2 q)) hf (Nat.le_refl _) new
    have TIi : ∀ r ∈ r0 :: rs, TI ≠ r.it := fun r hr => (D.it r hr).2.1.symm
    refine ⟨.ref s.heap.objs.size, _, I1, rfl, ⟨_, ys, rfl, I.hok.fresh (Nat.le_refl _), rfl, fun zs hzs => hat.inj I hzs⟩, ⟨z'', (sb.2 _ D.TIz).trans (hk' _ _ D.TIz D.TITO TIi hTI), ⟨us.toArray, by simpa using hul, (sb.2 _ D.TOz).trans TO'⟩, fun r hr => (i' r hr).at fun o q => (sb.2 _ (D.it r hr).1).trans q⟩, fun c hcm => ?_⟩
    have hlt : c < s.heap.objs.size := by
      unfold zFp at hcm
      rcases List.mem_cons.mp hcm with rfl | hcm
      · exact hzl
      rcases List.mem_cons.mp hcm with rfl | hcm
      · exact Heap.lt_size hTI
      rcases List.mem_cons.mp hcm with rfl | hcm
      · exact Heap.lt_size hTO
      obtain ⟨r, hr, rfl⟩ := List.mem_map.mp hcm
      obtain ⟨o, e, d⟩ := (hi r hr).obj
      exact Heap.lt_size e
    rw [upd_ne (Nat.ne_of_lt hlt)]
    exact (hf c hcm).1
  done := by
    intro X hP hw hK hc i pins s σ H E I hf st hg
    subst hP hw hK
    obtain ⟨hz, hTI, ⟨kept, hk, hTO⟩, hi⟩ := st
    have nin : ∀ {c : Addr}, c ∉ zFp z TI TO (r0 :: rs) → c ≠ z ∧ c ≠ TO ∧ ∀ r ∈ r0 :: rs, c ≠ r.it := fun {c} hn => by
      unfold zFp at hn
      refine ⟨fun e => hn (by rw [e]; exact List.mem_cons_self), fun e => hn (by rw [e]; exact List.mem_cons_of_mem _ (List.mem_cons_of_mem _ List.mem_cons_self)), fun r hr e => hn ?_⟩
      rw [e]
      exact List.mem_cons_of_mem _ (List.mem_cons_of_mem _ (List.mem_cons_of_mem _ (List.mem_map_of_mem hr)))
    exact pyNext_zipN_end (I.ok.hd hc) D hz hTI hTO (by omega) (EndV.has I hi hg) fun h' hk => ⟨rfl, I.turnedL (t' := s.toks) (ch := zFp z TI TO (r0 :: rs)) (fun c o hb q => hk c o (nin hb).1 (nin hb).2.1 (nin hb).2.2 q) hf⟩
  self := fun A i s Q E st h => wpAny_pyIter_zip st.1 h
theorem sq01_lt {k : Bool} {h : Heap} {l : Addr} {xs : Array Value} (q : Sq01 k h l xs) : l < h.objs.size := by
  cases k <;> (obtain ⟨o, e, _⟩ := q; exact Heap.lt_size e)
theorem neA {a b : Nat} (h : a ≠ b) : @Ne Addr a b := h
theorem apart2 (k1 k2 : Bool) (n a b : Nat) (la : a < n) (lb : b < n) : Apart (n + 4) (n + 2) (n + 3) [⟨k1, n, a⟩, ⟨k2, n + 1, b⟩] := by
  refine ⟨neA (by first | omega | (dsimp only; omega)), neA (by first | omega | (dsimp only; omega)), neA (by first | omega | (dsimp only; omega)), ?_, ?_, ?_⟩
  · intro r hr
    simp only [List.mem_cons, List.not_mem_nil, or_false] at hr
    rcases hr with rfl | rfl <;> exact ⟨neA (by first | omega | (dsimp only; omega)), neA (by first | omega | (dsimp only; omega)), neA (by first | omega | (dsimp only; omega)), neA (by first | omega | (dsimp only; omega)), neA (by first | omega | (dsimp only; omega))⟩
  · exact .cons (fun r hr => by rw [List.mem_singleton] at hr; subst hr; exact neA (by first | omega | (dsimp only; omega))) (.cons (fun r hr => absurd hr List.not_mem_nil) .nil)
  · intro r hr q hq
    simp only [List.mem_cons, List.not_mem_nil, or_false] at hr hq
    rcases hr with rfl | rfl <;> rcases hq with rfl | rfl <;> exact neA (by first | omega | (dsimp only; omega))
theorem le_of5 {n c : Nat} (h : c = n + 4 ∨ c = n + 2 ∨ c = n + 3 ∨ c = n ∨ c = n + 1) : n ≤ c := by omega
def iZip2 (K : PySem.W.Frag) (ta : TA) : TI := fun σ H R => ta σ H fun vs H1 => ∃ k1 k2 a b xs ys, vs = [.ref a, .ref b] ∧ SqX K H1 k1 a xs ∧ SqX K H1 k2 b ys ∧ R (ItN K [(k1, a), (k2, b)]) H1
theorem pi_zip2 {X : Cx} {e e2 : Expr} {ta : TA} {p pos tpos : Pos} {elts : List Expr} {kk : Nat} (hg : Gl X "zip") (hm : X.mg "zip" = none) (ha : PA X [e, e2] ta)
    (hs : starEach [e, e2] X.env = (false, eval e X.env) :: starEach [e2] X.env := by rfl) (hpl : (backTo pos (starEach [e2] X.env)).any (·.1) = false := by rfl) :
    PI X (.Tuple elts kk tpos) (.Call (.Name "zip" p) [e, e2] [] pos) (iZip2 X.K ta) := by
  refine ⟨fun pins s σ H R I h => ?_⟩
  refine Call_ (ld_blt I hg hm PyProof.Rows.boot_zip (PyProof.Rows.callWith_type1 (thn (ha.run pos pins s σ H _ I h) fun us s1 ⟨vs, H1, I1, r1, q1⟩ => ?_) hs hpl))
  obtain ⟨k1, k2, a, b, xs, ys, ex, hqx, hqy, q⟩ := q1
  subst ex
  cases r1 with
  | cons r rr =>
    cases rr with
    | cons r' rr =>
      cases rr
      cases r
      cases r'
      obtain ⟨its, rv, p1⟩ := hqx.has I1
      obtain ⟨its2, rv2, p2⟩ := hqy.has I1
      have la := sq01_lt p1
      have lb := sq01_lt p2
      refine call_zip2 p1 p2 fun h' hz hTI hTO h1 h2 hk => wpAny_pyIter_zip hz ?_
      have I2 : Inv X pins σ H1 { s1 with heap := h' } := I1.kept (t' := s1.toks) hk
      have D := apart2 k1 k2 s1.heap.objs.size a b la lb
      refine ⟨s1.heap.objs.size + 4, zFp _ _ _ [⟨k1, s1.heap.objs.size, a⟩, ⟨k2, s1.heap.objs.size + 1, b⟩], _, _, H1, rfl, I2, turn_zipN D (by simp), ⟨hz, hTI, ⟨_, rfl, hTO⟩, ?_⟩, fun c hcm => ?_, q⟩
      · intro r hr
        simp only [List.mem_cons, List.not_mem_nil, or_false] at hr
        rcases hr with rfl | rfl
        · exact h1
        · exact h2
      · have hle : s1.heap.objs.size ≤ c := by
          simp only [zFp, List.map_cons, List.map_nil, List.mem_cons, List.not_mem_nil, or_false] at hcm
          exact le_of5 hcm
        exact I1.fpOk hle (I1.hok.fresh hle)
end Mr
namespace Mr
open PySem PySem.Spec PyProof.Rows L2 RZ
section
variable {K : PySem.W.Frag} {O : Wo} {Wx : WX} {X : Cx} {G0 : Gh} {H0 : Hp} {G : Gh} {H : Hp} {G1 : Gh} {H1 : Hp} {σ : L2.St} {ρ : Ev} {s s1 : O.S}
def zipD (xs ys : List D) : List D := (xs.zip ys).map fun p => .tup [p.1, p.2]
theorem zipD_at {xs ys : List D} {i : Nat} {d : D} (h : (zipD xs ys)[i]? = some d) : ∃ a b, xs[i]? = some a ∧ ys[i]? = some b ∧ d = .tup [a, b] := by
  unfold zipD at h
  rw [List.getElem?_map, Option.map_eq_some_iff] at h
  obtain ⟨p, hp, rfl⟩ := h
  rw [List.getElem?_zip_eq_some] at hp
  exact ⟨p.1, p.2, hp.1, hp.2, rfl⟩
theorem zipD_length (xs ys : List D) : (zipD xs ys).length = min xs.length ys.length := by simp [zipD]
theorem new_pair {H : Hp} {T : Addr} {x y : V} {a b : D} (g : Sh G H) (n : H T = none) (ra : Rep K G x a) (rb : Rep K G y b) : Tr0 G H (up G T (.tup [x, y])) (upd H T (.tup [x, y])) ∧ Rep K (up G T (.tup [x, y])) (.ref T) (.tup [a, b]) :=
  ⟨Tr0.new g n, new_tup g n (.cons ra (.cons rb .nil))⟩
theorem SqX.mono {k : Bool} {a : Addr} {vs : List V} (e : Sh G H) (q : SqX K (fr G) k a vs) : SqX K H k a vs := by
  cases k
  · exact e.seqT0 q
  · exact e.seq q
def dZip : List D → Option (List D)
  | [.lst xs, .lst ys] => some (zipD xs ys)
  | [.tup xs, .tup ys] => some (zipD xs ys)
  | [.lst xs, .tup ys] => some (zipD xs ys)
  | [.tup xs, .lst ys] => some (zipD xs ys)
  | _ => none
def mItA (O : Wo) (f : List D → Option (List D)) (m : MA O) : MI O := fun ρ s => (m ρ s).bind fun xs s1 => R.lift (f xs) s1
/-- an expression whose value is a new list, that nobody else holds -/
def PstN (K : PySem.W.Frag) (O : Wo) (Wx : WX) (σ : L2.St) (G : Gh) (H : Hp) (r : R O.S (List D)) (Q : VK) : Prop :=
  match r with
  | .ok ds s' => ∀ p vs G' H', Tr O.W G H G' H' → O.ok K s' G' H' → H p = none → G' p = none → H' p = some (.lst vs) → Reps K G' vs ds → Q (.ref p) H'
  | .err c fs s' => ∀ dd xs G' H', Tr O.W G H G' H' → O.ok K s' G' H' → XdA H' dd xs → NwA O dd → RepF K G' xs fs → Wx (.ref c) dd σ H'
  | .bad => False
def SndN (K : PySem.W.Frag) (O : Wo) (Wx : WX) (t : TE) (m : MA O) : Prop := ∀ σ ρ H0 G H s Q, Fm K O H0 σ ρ G H s → PstN K O Wx σ G H (m ρ s) Q → t σ H Q
structure DN (K : PySem.W.Frag) (O : Wo) (Wx : WX) (X : Cx) (e : Expr) (t : TE) (m : MA O) : Prop where
  hK : X.K = K
  tk : Takes X Wx
  pe : PE X e t
  sn : SndN K O Wx t m
def mLst (O : Wo) (m : MA O) : ME O := fun ρ s => (m ρ s).bind fun xs s1 => .ok (.lst xs) s1
theorem DN.de {e : Expr} {t : TE} {m : MA O} (h : DN K O Wx X e t m) : DE K O Wx X e t (mLst O m) := by
  refine ⟨h.hK, h.tk, h.pe, fun σ ρ H0 G H s Q F q => ?_⟩
  refine h.sn σ ρ H0 G H s Q F ?_
  unfold mLst at q
  revert q
  cases m ρ s with
  | ok ds s1 =>
    exact fun q p vs G' H' t k n g e r => q (.ref p) (up G' p (.lst vs)) H' (t.frz n g e) (ok_up k g) (.lst sqL_new (r.mono (Sm.up g)))
  | err c fs s1 => exact fun q => q
  | bad => exact fun q => q
/-- a hidden new object is written -/
theorem Tr.mut {W : Addr → Prop} {G : Gh} {H : Hp} {G' : Gh} {H' : Hp} {p : Addr} {o : HO} (t : Tr W G H G' H') (n : H p = none) (g : G' p = none) : Tr W G H G' (upd H' p o) := by
  refine ⟨t.gg, t.gh.upd g, t.gr, fun b u w m e => by rw [upd_ne (ne_of_none e n)]; exact t.kp b u w m e, fun b e => ?_, fun b u v e => by rw [upd_ne (ne_of_none e n)]; exact t.fz b u v e⟩
  by_cases hb : b = p
  · subst hb; exact n
  · rw [upd_ne hb] at e; exact t.dm b e
def listMax (xs : List D) : Option (List D) := if xs.length ≤ 100000 then some xs else none
def mDisp (O : Wo) (m : MA O) : MA O := fun ρ s => (m ρ s).bind fun xs s1 => R.lift (listMax xs) s1
theorem dn_list {es : List Expr} {ta : TA} {ma : MA O} {pos : Pos} (ha : DA K O Wx X es ta ma) : DN K O Wx X (.List es pos) (tLst ta) (mDisp O ma) := by
  refine ⟨ha.hK, ha.tk, pe_lst ha.pe, fun σ ρ H0 G H s Q F h => ?_⟩
  refine ha.sn σ ρ H0 G H s _ F ?_
  unfold mDisp at h
  revert h
  cases ma ρ s with
  | ok ds s1 =>
    intro h xs G1 H1 t1 k1 r1
    have F1 := F.tr t1 k1
    rw [bind_ok] at h
    unfold listMax at h
    split at h
    · rename_i hz
      refine ⟨by rw [r1.length]; exact sz5 hz, fun p np => ?_⟩
      refine h p xs G1 (upd H1 p (.lst xs)) (t1.mut (t1.dm p np) (F1.gh.free np)) ?_ (t1.dm p np) (F1.gh.free np) upd_same r1
      exact ok_off k1 (F1.gh.free np) (nW_of k1 np)
    · exact h.elim
  | err c fs s1 => exact fun h => h
  | bad => exact fun h => h
abbrev WF : WX := fun _ _ _ _ => False
def wipeE (ρ : Ev) : List Nat → Ev
  | [] => ρ
  | v :: vs => (wipeE ρ vs).set v .no
theorem Fm.clr (f : Fm K O H0 σ ρ G H s) (i : Nat) : Fm K O H0 (σ.set i none) (ρ.set i .no) G H s := by
  refine ⟨f.gh, f.wg, f.ok, by simpa using f.len, fun j o x a b => ?_, fun j k p x y hjk a b c e g => ?_⟩
  · by_cases hj : i = j
    · subst hj
      have h2 := (List.getElem?_eq_some_iff.mp b).1
      rw [List.length_set] at h2
      rw [List.getElem?_set_self h2] at b
      cases b
      trivial
    · rw [List.getElem?_set_ne hj] at a b
      exact f.sl j o x a b
  · by_cases hj : i = j
    · subst hj
      have h2 := (List.getElem?_eq_some_iff.mp a).1
      rw [List.length_set] at h2
      rw [List.getElem?_set_self h2] at a
      cases a
      cases c
    · by_cases hk : i = k
      · subst hk
        have h2 := (List.getElem?_eq_some_iff.mp b).1
        rw [List.length_set] at h2
        rw [List.getElem?_set_self h2] at b
        cases b
        cases e
      · rw [List.getElem?_set_ne hj] at a g
        rw [List.getElem?_set_ne hk] at b
        rw [List.getElem?_set_ne hk]
        exact f.ds j k p x y hjk a b c e g
theorem Fm.wipe (f : Fm K O H0 σ ρ G H s) : ∀ vs : List Nat, Fm K O H0 (L2.wipe σ vs) (wipeE ρ vs) G H s
  | [] => f
  | v :: vs => (f.wipe vs).clr v
structure DTs (K : PySem.W.Frag) (O : Wo) (Wx : WX) (X : Cx) (e : List Expr) (t : TT) (m : MT O) : Prop where
  pe : PTs X e t
  sn : SndT K O Wx t m
def mYes (O : Wo) : MT O := fun _ s => .ok true s
theorem dts_nil : DTs K O Wx X [] tYes (mYes O) := ⟨pts_nil, fun σ ρ H0 G H s Q F h => h true G H (.refl F.gh) F.ok rfl⟩
theorem dts_one {c : Expr} {t : TT} {m : MT O} (h : DT K O Wx X c t m) : DTs K O Wx X [c] t m := ⟨pts_one h.pe, h.sn⟩
def lcL (S : Type) (f : D → Ev → Option Ev) (mt : Ev → S → R S Bool) (me : Ev → S → R S D) (ρ : Ev) : List D → List D → S → R S (List D)
  | [], acc, s => .ok acc s
  | d :: ds, acc, s => match f d ρ with
    | none => .bad
    | some ρ1 => match mt ρ1 s with
      | .ok true s1 => match me ρ1 s1 with
        | .ok y s2 => if acc.length < 100000 then lcL S f mt me ρ ds (acc ++ [y]) s2 else .bad
        | _ => .bad
      | .ok false s1 => lcL S f mt me ρ ds acc s1
      | _ => .bad
def mLc (O : Wo) (mi : MI O) (f : D → Ev → Option Ev) (mt : MT O) (me : ME O) (vs : List Nat) : MA O := fun ρ s => (mi ρ s).bind fun items s1 => lcL O.S f mt me (wipeE ρ vs) items [] s1
theorem snd_lc {wi : TI} {mi : MI O} {g : TG} {f : D → Ev → Option Ev} {is vs : List Nat} {tt : TT} {mt : MT O} {te : TE} {me : ME O} (hi : SndI K O Wx wi mi) (hg : SndG K O g f is) (ht : SndT K O WF tt mt) (he : SndE K O WF te me) (hv : ∀ i ∈ is, i ∈ vs) :
    SndN K O Wx (tLc wi g tt te vs) (mLc O mi f mt me vs) := by
  intro σ ρ H0 G H s Q F h
  refine hi σ ρ H0 G H s _ F ?_
  unfold mLc at h
  revert h
  cases mi ρ s with
  | err c fs s1 => exact fun h => h
  | bad => exact fun h => h
  | ok items s1 =>
    intro h J G1 H1 t1 k1 ok Da nD
    rw [bind_ok] at h
    have F1 := F.tr t1 k1
    have nDH : H Da = none := t1.dm Da nD
    have nW : ¬ O.W Da := nW_of k1 nD
    refine ⟨fun i m H2 => ∃ G2 s2 accV acc, m = (items.drop i).length ∧ Tr O.W G1 H1 G2 H2 ∧ O.ok K s2 G2 H2 ∧ G2 Da = none ∧ H2 Da = some (.lst accV) ∧ Reps K G2 accV acc ∧ PstN K O Wx σ G H (lcL O.S f mt me (wipeE ρ vs) (items.drop i) acc s2) Q, ?_, ?_⟩
    · refine ⟨items.length, G1, s1, [], [], by simp, (Tr.refl F1.gh).mut nD (F1.gh.free nD), ?_, F1.gh.free nD, upd_same, .nil, by simpa using h⟩
      exact ok_off k1 (F1.gh.free nD) nW
    · rintro i m H2 ⟨G2, s2, accV, acc, rfl, t2, k2, g2, hD, ra, h2⟩
      obtain ⟨ok1, ok2⟩ := ok G2 H2 t2.gg t2.gh i
      have F2 : Fm K O H0 σ ρ G2 H2 s2 := F1.tr t2 k2
      cases hd : items.drop i with
      | nil =>
        rw [hd] at h2
        exact .inl ⟨ok2 (by simpa using hd), h2 Da accV G2 H2 (t1.trans t2) k2 nDH g2 hD ra⟩
      | cons d ds =>
        have hlt : i < items.length := by
          by_cases z : i < items.length
          · exact z
          · rw [List.drop_eq_nil_of_le (by omega)] at hd; cases hd
        have hi? : items[i]? = some d := by
          have := List.drop_eq_getElem_cons hlt
          rw [hd] at this
          injection this with a b
          rw [List.getElem?_eq_getElem hlt, a]
        have hds : items.drop (i + 1) = ds := by
          have := List.drop_eq_getElem_cons hlt
          rw [hd] at this
          injection this with a b
          exact b.symm
        obtain ⟨go, yl⟩ := ok1 d hi?
        rw [hd] at h2
        refine .inr ⟨go, fun H3 => ∃ G3 s3 accV acc, Tr O.W G1 H1 G3 H3 ∧ O.ok K s3 G3 H3 ∧ G3 Da = none ∧ H3 Da = some (.lst accV) ∧ Reps K G3 accV acc ∧ PstN K O Wx σ G H (lcL O.S f mt me (wipeE ρ vs) ds acc s3) Q, ?_, fun x H3 y => ?_⟩
        · rintro H3 ⟨G3, s3, aV, a, b1, b2, b3, b4, b5, b6⟩
          exact ⟨ds.length, by simp, G3, s3, aV, a, by rw [hds], b1, b2, b3, b4, b5, by rw [hds]; exact b6⟩
        · obtain ⟨G3, t3, r3⟩ := yl x H3 y
          have F3 := F2.tr0 t3
          have F3w := F3.wipe vs
          have kpD : ∀ {Ga : Gh} {Ha : Hp} {Gb : Gh} {Hb : Hp}, Tr O.W Ga Ha Gb Hb → Ga Da = none → Ha Da = some (.lst accV) → Gb Da = none ∧ Hb Da = some (.lst accV) := fun {Ga Ha Gb Hb} t a b => by
            refine ⟨?_, t.kp _ _ nW (fun n => by rw [a]; simp) b⟩
            cases e : Gb Da with
            | none => rfl
            | some z => rcases t.gr Da (by rw [e]; simp) with q | q <;> simp_all
          obtain ⟨g3, hD3⟩ := kpD t3.up g2 hD
          unfold lcL at h2
          cases ef : f d (wipeE ρ vs) with
          | none => rw [ef] at h2; exact (show False from h2).elim
          | some ρ1 =>
            rw [ef] at h2
            refine hg H0 (L2.wipe σ vs) (wipeE ρ vs) G3 H3 s2 x d ρ1 _ F3w r3 ef fun σ4 F4 w4 => ?_
            refine ⟨by rw [w4 vs hv]; exact wipe_idem σ vs, ?_⟩
            refine ht σ4 ρ1 H0 G3 H3 s2 _ F4 ?_
            revert h2
            dsimp only
            cases mt ρ1 s2 with
            | bad => exact fun h2 => h2
            | err c fs s' => exact fun h2 => (show False from h2).elim
            | ok b s5 =>
              intro h2 b' G5 H5 t5 k5 e5
              subst e5
              obtain ⟨g5, hD5⟩ := kpD t5 g3 hD3
              cases b' with
              | false =>
                rw [if_neg Bool.false_ne_true]
                exact ⟨G5, s5, accV, acc, (t2.trans t3.up).trans t5, k5, g5, hD5, (ra.mono t3.gg).mono t5.gg, h2⟩
              | true =>
                rw [if_pos rfl]
                have F5 := F4.tr t5 k5
                refine he σ4 ρ1 H0 G5 H5 s5 _ F5 ?_
                revert h2
                dsimp only
                cases me ρ1 s5 with
                | bad => exact fun h2 => h2
                | err c fs s' => exact fun h2 => (show False from h2).elim
                | ok dy s6 =>
                  intro h2 yv G6 H6 t6 k6 r6
                  obtain ⟨g6, hD6⟩ := kpD t6 g5 hD5
                  have ra6 : Reps K G6 accV acc := ((ra.mono t3.gg).mono t5.gg).mono t6.gg
                  dsimp only at h2
                  split at h2
                  · rename_i hz
                    refine ⟨accV, hD6, by rw [ra6.length]; exact sz5l hz, G6, s6, accV ++ [yv], acc ++ [dy], (((t2.trans t3.up).trans t5).trans t6).mut nD g6, ?_, g6, upd_same, ra6.append (.cons r6 .nil), h2⟩
                    exact ok_off k6 g6 nW
                  · exact (show False from h2).elim
where
  wipe_idem (σ : L2.St) (vs : List Nat) : L2.wipe (L2.wipe σ vs) vs = L2.wipe σ vs := by
    have key : ∀ ws : List Nat, (∀ i ∈ ws, i ∈ vs) → L2.wipe (L2.wipe σ ws) vs = L2.wipe σ vs := by
      intro ws
      induction ws with
      | nil => intro _; rfl
      | cons w ws ih =>
        intro hw
        show L2.wipe ((L2.wipe σ ws).set w none) vs = _
        rw [wipe_set (hw w List.mem_cons_self)]
        exact ih fun i hi => hw i (List.mem_cons_of_mem _ hi)
    exact key vs fun _ h => h
/-- [e for tg in iter if ..] -/
theorem dn_lc {elt tg iter : Expr} {ifs : List Expr} {scope : Scope} {own : List (Str × Nat)} {pos : Pos} {wi : TI} {g : TG} {tt : TT} {te : TE} {mi : MI O} {f : D → Ev → Option Ev} {is : List Nat} {mt : MT O} {me : ME O} (c : Cs K Wx X) (hi : DI K O Wx X tg iter wi mi) (ok : BlkOk X.N X.env.scope scope own)
    (hg : ∀ (s : Shared) (H : Hp) (C : Addr) (cl : List (Str × Addr)) (fp : List Addr), DG K O (X.blk s H scope (compEnvC scope cl C X.env) fp) tg g f is)
    (ht : ∀ (s : Shared) (H : Hp) (C : Addr) (cl : List (Str × Addr)) (fp : List Addr), Cn K WF (X.blk s H scope (compEnvC scope cl C X.env) fp) → DTs K O WF (X.blk s H scope (compEnvC scope cl C X.env) fp) ifs tt mt)
    (he : ∀ (s : Shared) (H : Hp) (C : Addr) (cl : List (Str × Addr)) (fp : List Addr), Cn K WF (X.blk s H scope (compEnvC scope cl C X.env) fp) → DE K O WF (X.blk s H scope (compEnvC scope cl C X.env) fp) elt te me)
    (hv : ∀ i ∈ is, i ∈ own.map (·.2) := by decide) (hs : ∀ x, foldedSetIterable iter X.env x = pure x := by intro _; rfl) : DN K O Wx X (.ListComp elt [⟨tg, iter, ifs, 0⟩] scope pos) (tLc wi g tt te (own.map (·.2))) (mLc O mi f mt me (own.map (·.2))) := by
  have cn : ∀ (s : Shared) (H : Hp) (C : Addr) (cl : List (Str × Addr)) (fp : List Addr), Cn K WF (X.blk s H scope (compEnvC scope cl C X.env) fp) := fun s H C cl fp => ⟨c.cn.hK, takes0⟩
  refine ⟨c.cn.hK, c.cn.tk, pe_lc c.hc c.nd hi.pe ok (fun s H C cl fp => (hg s H C cl fp).pe) (fun s H C cl fp => (ht s H C cl fp (cn ..)).pe) (fun s H C cl fp => (he s H C cl fp (cn ..)).pe) hs, ?_⟩
  exact snd_lc hi.sn (hg X.s_0 (fun _ => none) 0 [] []).sn (ht X.s_0 (fun _ => none) 0 [] [] (cn ..)).sn (he X.s_0 (fun _ => none) 0 [] [] (cn ..)).sn hv
end
end Mr
namespace Mr
open PySem PySem.Spec PyProof.Rows L2 RZ
section
variable {K : PySem.W.Frag} {O : Wo} {Wx : WX} {X : Cx} {G0 : Gh} {H0 : Hp} {G : Gh} {H : Hp} {G1 : Gh} {H1 : Hp} {σ : L2.St} {ρ : Ev} {s s1 : O.S}
theorem own_in {x : Sl} {o : Option V} (h : SlOk K O H0 G H o x) (hx : isOwn x = true) : ∃ p u, o = some (.ref p) ∧ H p = some u := by
  cases x with
  | own xs => obtain ⟨p, vs, a, b, _⟩ := h; exact ⟨p, _, a, b⟩
  | ownD xs => obtain ⟨p, vs, a, b, _⟩ := h; exact ⟨p, _, a, b⟩
  | ownI C xs => obtain ⟨p, dx, vs, a, b, _⟩ := h; exact ⟨p, _, a, b⟩
  | _ => cases hx
/-- slot i is set to a new thing of one's own, at p -/
theorem Fm.put (f : Fm K O H0 σ ρ G H s) (t : Tr O.W G H G1 H1) (k : O.ok K s1 G1 H1) {i : Nat} {p : Addr} {x : Sl} (np : H p = none) (ok : SlOk K O H0 G1 H1 (some (.ref p)) x) : Fm K O H0 (σ.set i (some (.ref p))) (ρ.set i x) G1 H1 s1 := by
  have f1 := f.tr t k
  have far : ∀ (j : Nat) (y : Sl), ρ[j]? = some y → isOwn y = true → σ[j]? ≠ some (some (.ref p)) := fun j y a b e => by
    obtain ⟨o, e1, e2⟩ := f.at a
    rw [e] at e1
    cases e1
    obtain ⟨q, u, e3, e4⟩ := own_in e2 b
    cases e3
    rw [np] at e4
    cases e4
  refine ⟨f1.gh, f1.wg, k, by simpa using f.len, fun j o y a b => ?_, fun j l q y z hjl a b c e g => ?_⟩
  · by_cases hj : i = j
    · subst hj
      have h1 := (List.getElem?_eq_some_iff.mp a).1
      have h2 := (List.getElem?_eq_some_iff.mp b).1
      rw [List.length_set] at h1 h2
      rw [List.getElem?_set_self h1] at a
      rw [List.getElem?_set_self h2] at b
      cases a; cases b
      exact ok
    · rw [List.getElem?_set_ne hj] at a b
      exact f1.sl j o y a b
  · by_cases hj : i = j
    · subst hj
      have hl : ¬ i = l := hjl
      have h1 := (List.getElem?_eq_some_iff.mp g).1
      rw [List.length_set] at h1
      rw [List.getElem?_set_self h1] at g
      rw [List.getElem?_set_ne hl] at b ⊢
      cases g
      exact far l z b e
    · rw [List.getElem?_set_ne hj] at a g
      by_cases hl : i = l
      · subst hl
        intro g2
        have h1 := (List.getElem?_eq_some_iff.mp g2).1
        rw [List.length_set] at h1
        rw [List.getElem?_set_self h1] at g2
        cases g2
        exact far j y a c g
      · rw [List.getElem?_set_ne hl] at b ⊢
        exact f1.ds j l q y z hjl a b c e g
/-- the thing of slot i, at p, is written -/
theorem Fm.wr (f : Fm K O H0 σ ρ G H s) {i : Nat} {p : Addr} {x y : Sl} {o : HO} (hi : ρ[i]? = some x) (hx : isOwn x = true) (hy : isOwn y = true) (hp : σ[i]? = some (some (.ref p))) (gp : G p = none) (wp : ¬ O.W p) (nx : ∀ u, H p = some u → ∀ fs, u ≠ .xd fs) (ok : SlOk K O H0 G (upd H p o) (some (.ref p)) y) :
    Fm K O H0 σ (ρ.set i y) G (upd H p o) s := by
  refine ⟨f.gh.upd gp, f.wg, ok_off f.ok gp wp, by simpa using f.len, fun j o' z a b => ?_, fun j l q z z2 hjl a b c e g => ?_⟩
  · by_cases hj : i = j
    · subst hj
      have h2 := (List.getElem?_eq_some_iff.mp b).1
      rw [List.length_set] at h2
      rw [List.getElem?_set_self h2] at b
      cases b
      rw [hp] at a
      cases a
      exact ok
    · rw [List.getElem?_set_ne hj] at b
      have q := f.sl j o' z a b
      have far : isOwn z = true → o' ≠ some (.ref p) := fun hz e => by
        subst e
        exact f.ds i j p x z hj hi b hx hz hp a
      cases z with
      | no => trivial
      | sh d => exact q
      | own xs =>
        obtain ⟨r, vs, e1, e2, e3, e4, e5, e6⟩ := q
        exact ⟨r, vs, e1, by rw [upd_ne (fun e => far rfl (by rw [e1, e]))]; exact e2, e3, e4, e5, e6⟩
      | ownD xs =>
        obtain ⟨r, vs, e1, e2, e3, e4, e5, e6⟩ := q
        exact ⟨r, vs, e1, by rw [upd_ne (fun e => far rfl (by rw [e1, e]))]; exact e2, e3, e4, e5, e6⟩
      | ownI C xs =>
        obtain ⟨r, dx, vs, e1, e2, e3, e4, e5, e6⟩ := q
        exact ⟨r, dx, vs, e1, by rw [upd_ne (fun e => far rfl (by rw [e1, e]))]; exact e2, e3, e4, e5, e6⟩
      | exc c fs =>
        obtain ⟨a', dd, xs, e1, e2, e3, e4, e5⟩ := q
        exact ⟨a', dd, xs, e1, e2, e3.kp (fun d1 _ e3 => by rw [upd_ne (fun e => nx _ (by rw [← e]; exact e3) xs rfl)]; exact e3), e4, e5⟩
  · have own_of : ∀ (j : Nat) (z : Sl), (ρ.set i y)[j]? = some z → isOwn z = true → ∃ z', ρ[j]? = some z' ∧ isOwn z' = true := fun j z a c => by
      by_cases hj : i = j
      · subst hj; exact ⟨x, hi, hx⟩
      · rw [List.getElem?_set_ne hj] at a; exact ⟨z, a, c⟩
    obtain ⟨u1, a1, c1⟩ := own_of j z a c
    obtain ⟨u2, a2, c2⟩ := own_of l z2 b e
    exact f.ds j l q u1 u2 hjl a1 a2 c1 c2 g
theorem Fs.wr (f : Fs K O G0 H0 σ ρ G H s) {i : Nat} {p : Addr} {x y : Sl} {o : HO} (hi : ρ[i]? = some x) (hx : isOwn x = true) (hy : isOwn y = true) (hp : σ[i]? = some (some (.ref p))) (gp : G p = none) (wp : ¬ O.W p) (h0 : H0 p = none) (nx : ∀ u, H p = some u → ∀ fs, u ≠ .xd fs) (ok : SlOk K O H0 G (upd H p o) (some (.ref p)) y) :
    Fs K O G0 H0 σ (ρ.set i y) G (upd H p o) s := ⟨f.fm.wr hi hx hy hp gp wp nx ok, f.tr.mut h0 gp⟩
/-- x = a new list -/
def mOwn (O : Wo) (i : Nat) (m : MA O) : MS O := fun ρ s => toS (m ρ s) ρ fun xs s1 => .nx (ρ.set i (.own xs)) s1
theorem snd_own {i : Nat} {te : TE} {me : MA O} (he : SndN K O Wx te me) : SndS K O Wx (tAsg te (gName i)) (mOwn O i me) := by
  intro G0 H0 σ ρ G H s Dn F h
  refine he σ ρ H0 G H s _ F.fm ?_
  unfold mOwn at h
  revert h
  cases me ρ s with
  | ok ds s1 =>
    intro h p vs G' H' t k n g e r
    have n0 : H0 p = none := F.tr.dm p n
    have nW : ¬ O.W p := nW_of F.fm.ok n
    exact h _ G' H' t.gg ⟨F.fm.put t k n ⟨p, vs, rfl, e, r, g, nW, n0⟩, F.tr.trans t⟩
  | err c fs s' => exact fun h dd xs G' H' t k e n r => h σ dd xs G' H' t.gg (F.go t k) e n r
  | bad => exact fun h => h
theorem ds_own (i : Nat) {x : Str} {e : Expr} {te : TE} {me : MA O} {pos pos' : Pos} (hN : X.N.Nodup) (he : DN K O Wx X e te me) (hi : X.N[i]? = some x := by rfl) (hx : Loc X.env.scope x := by first | exact Or.inl rfl | exact Or.inr rfl) (hs : swapsWith e (some (.Name x pos')) pos.line X.env = pure false := by rfl)
    (hf : X.fn x = true ∨ X.env.scope.names.lookup x = some .local := by first | exact .inl rfl | exact .inr rfl | assumption) : DS K O Wx X (.Assign [.Name x pos'] e pos) (tAsg te (gName i)) (mOwn O i me) := ⟨ps_set hN hi hx he.pe hs hf, snd_own he.sn⟩
/-- x = [.. for ..], x a local: the list is told (mAsg), or one's own (mOwn) -/
structure DLc (K : PySem.W.Frag) (O : Wo) (Wx : WX) (X : Cx) (elt tg iter : Expr) (ifs : List Expr) (scope : Scope) (pos : Pos) (t : TE) (m : MA O) : Prop where
  dn : DN K O Wx X (.ListComp elt [⟨tg, iter, ifs, 0⟩] scope pos) t m
  ps : ∀ (i : Nat) (y : Str) (py spos : Pos), X.N[i]? = some y → X.env.scope.names.lookup y = some .local → swapsWith (.ListComp elt [⟨tg, iter, ifs, 0⟩] scope pos) (some (.Name y py)) spos.line X.env = pure true →
    PS X (.Assign [.Name y py] (.ListComp elt [⟨tg, iter, ifs, 0⟩] scope pos) spos) (tAsg t (gName i))
theorem dlc {elt tg iter : Expr} {ifs : List Expr} {scope : Scope} {own : List (Str × Nat)} {pos : Pos} {wi : TI} {g : TG} {tt : TT} {te : TE} {mi : MI O} {f : D → Ev → Option Ev} {is : List Nat} {mt : MT O} {me : ME O} (c : Cs K Wx X) (hi : DI K O Wx X tg iter wi mi) (ok : BlkOk X.N X.env.scope scope own)
    (hg : ∀ (s : Shared) (H : Hp) (C : Addr) (cl : List (Str × Addr)) (fp : List Addr), DG K O (X.blk s H scope (compEnvC scope cl C X.env) fp) tg g f is)
    (ht : ∀ (s : Shared) (H : Hp) (C : Addr) (cl : List (Str × Addr)) (fp : List Addr), Cn K WF (X.blk s H scope (compEnvC scope cl C X.env) fp) → DTs K O WF (X.blk s H scope (compEnvC scope cl C X.env) fp) ifs tt mt)
    (he : ∀ (s : Shared) (H : Hp) (C : Addr) (cl : List (Str × Addr)) (fp : List Addr), Cn K WF (X.blk s H scope (compEnvC scope cl C X.env) fp) → DE K O WF (X.blk s H scope (compEnvC scope cl C X.env) fp) elt te me)
    (hv : ∀ i ∈ is, i ∈ own.map (·.2) := by decide) (hs : ∀ x, foldedSetIterable iter X.env x = pure x := by intro _; rfl) : DLc K O Wx X elt tg iter ifs scope pos (tLc wi g tt te (own.map (·.2))) (mLc O mi f mt me (own.map (·.2))) := by
  have cn : ∀ (s : Shared) (H : Hp) (C : Addr) (cl : List (Str × Addr)) (fp : List Addr), Cn K WF (X.blk s H scope (compEnvC scope cl C X.env) fp) := fun s H C cl fp => ⟨c.cn.hK, takes0⟩
  exact ⟨dn_lc c hi ok hg ht he hv hs, fun i y py spos hy hyl hsw => ps_setLc c.hc c.nd hy hyl hsw hi.pe ok (fun s H C cl fp => (hg s H C cl fp).pe) (fun s H C cl fp => (ht s H C cl fp (cn ..)).pe) (fun s H C cl fp => (he s H C cl fp (cn ..)).pe) hs⟩
theorem ds_setLc (i : Nat) {y : Str} {elt tg iter : Expr} {ifs : List Expr} {scope : Scope} {pos py spos : Pos} {t : TE} {m : MA O} (hN : X.N.Nodup) (h : DLc K O Wx X elt tg iter ifs scope pos t m) (hi : X.N[i]? = some y := by rfl) (hyl : X.env.scope.names.lookup y = some .local := by rfl)
    (hsw : swapsWith (.ListComp elt [⟨tg, iter, ifs, 0⟩] scope pos) (some (.Name y py)) spos.line X.env = pure true := by exact sw_true rfl rfl rfl (by decide +kernel))
    (hf : X.fn y = true ∨ X.env.scope.names.lookup y = some .local := by first | exact .inl rfl | exact .inr rfl | assumption) : DS K O Wx X (.Assign [.Name y py] (.ListComp elt [⟨tg, iter, ifs, 0⟩] scope pos) spos) (tAsg t (gName i)) (mAsg O (mLst O m) (fName i)) :=
  ⟨h.ps i y py spos hi hyl hsw, snd_asg h.dn.de.sn (dg_name (K := K) (O := O) (X := X) (pos := py) i hN hi (.inl hyl) hf).sn⟩
theorem not_xd_l {H : Hp} {p : Addr} {vs : List V} (h : H p = some (.lst vs)) : ∀ u, H p = some u → ∀ fs, u ≠ .xd fs := fun u e fs z => by rw [h] at e; cases e; cases z
/-- x.append(e) -/
def mAppend (O : Wo) (i : Nat) (m : ME O) : MS O := fun ρ s => match ρ[i]? with
  | some (.own xs) => toS (m ρ s) ρ fun d s1 => if xs.length < 100000 then .nx (ρ.set i (.own (xs ++ [d]))) s1 else .bad
  | _ => .bad
theorem ds_append (i : Nat) {x : Str} {e : Expr} {te : TE} {me : ME O} {p1 p2 p3 p4 : Pos} (he : DE K O Wx X e te me) (hN : X.N[i]? = some x := by rfl) (hv : Vis X.env.scope x := by first | exact Or.inl rfl | exact Or.inr (Or.inl rfl) | exact Or.inr (Or.inr rfl)) (hd : (x == ("__debug__" : Str)) = false := by decide)
    (hcd : (x == ("__classdict__" : Str)) = false := by decide) (hbase : attributeBase (.Name x p1) "append" X.env (eval (.Name x p1) X.env) = eval (.Name x p1) X.env := by rfl)
    (hfew : ((backTo p3 (starEach [e] X.env)).all (fun x => !x.1) && (backToKw p3 (keywordEach [] X.env)).all (fun x => x.1.isSome) && decide ([e].length + ([] : List Keyword).length + (if ([] : List Keyword).isEmpty then 0 else 1) < 30)) = true := by rfl)
    (hline : (p2.endLine == p3.line) = true := by rfl) (hse : starEach [e] X.env = (false, eval e X.env) :: starEach [] X.env := by rfl) (hpl : (backTo p3 (starEach [] X.env)).any (·.1) = false := by rfl)
    (hs : swapsWith (.Call (.Attribute (.Name x p1) "append" p2) [e] [] p3) none p4.line X.env = pure false := by rfl) : DS K O Wx X (.Expr (.Call (.Attribute (.Name x p1) "append" p2) [e] [] p3) p4) (tDrop (tBM K "list" rAppend (tVar i) (tCons te tNil))) (mAppend O i me) := by
  refine ⟨by rw [← he.hK]; exact ps_expr (pe_bm PySem.F.plainAttrs_list PySem.F.slot_list_append PySem.F.type_list_append mt_append (pe_var hN hv hd hcd) (pa_cons he.pe pa_nil hse) hbase hfew hline hse hpl) hs, fun G0 H0 σ ρ G H s Dn F h => ?_⟩
  unfold mAppend at h
  split at h
  · rename_i xs ei
    obtain ⟨o, eo, p, vs, rfl, hp, r, gp, wp, h0⟩ := F.fm.at ei
    refine ⟨.ref p, eo, .inl ⟨rfl, vs, .inl (.inl hp)⟩, ?_⟩
    refine he.sn σ ρ H0 G H s _ F.fm (pst_toS F h fun d s1 _ v G1 H1 t1 k1 r1 h1 => ?_)
    have F1 := F.go t1 k1
    split at h1
    · rename_i hz
      obtain ⟨o', eo', p', vs', e', hp', r', gp', wp', h0'⟩ := F1.fm.at ei
      rw [eo] at eo'
      subst e'
      cases eo'
      exact ⟨p, vs', v, rfl, rfl, hp', by rw [r'.length]; exact sz5l hz, h1 σ G1 _ (Sm.refl _) (F1.wr ei rfl rfl eo gp' wp' h0' (not_xd_l hp') ⟨p, _, rfl, upd_same, r'.append (.cons r1 .nil), gp', wp', h0'⟩)⟩
    · exact (show False from h1).elim
  · exact h.elim
/-- x.extend(a new list) -/
def mExtend (O : Wo) (i : Nat) (m : MA O) : MS O := fun ρ s => match ρ[i]? with
  | some (.own xs) => toS (m ρ s) ρ fun ds s1 => if xs.length + ds.length ≤ 100000 then .nx (ρ.set i (.own (xs ++ ds))) s1 else .bad
  | _ => .bad
theorem ds_extend (i : Nat) {x : Str} {e : Expr} {te : TE} {me : MA O} {p1 p2 p3 p4 : Pos} (he : DN K O Wx X e te me) (hN : X.N[i]? = some x := by rfl) (hv : Vis X.env.scope x := by first | exact Or.inl rfl | exact Or.inr (Or.inl rfl) | exact Or.inr (Or.inr rfl)) (hd : (x == ("__debug__" : Str)) = false := by decide) (hcd : (x == ("__classdict__" : Str)) = false := by decide)
    (hbase : attributeBase (.Name x p1) "extend" X.env (eval (.Name x p1) X.env) = eval (.Name x p1) X.env := by rfl)
    (hfew : ((backTo p3 (starEach [e] X.env)).all (fun x => !x.1) && (backToKw p3 (keywordEach [] X.env)).all (fun x => x.1.isSome) && decide ([e].length + ([] : List Keyword).length + (if ([] : List Keyword).isEmpty then 0 else 1) < 30)) = true := by rfl)
    (hline : (p2.endLine == p3.line) = true := by rfl) (hse : starEach [e] X.env = (false, eval e X.env) :: starEach [] X.env := by rfl) (hpl : (backTo p3 (starEach [] X.env)).any (·.1) = false := by rfl)
    (hs : swapsWith (.Call (.Attribute (.Name x p1) "extend" p2) [e] [] p3) none p4.line X.env = pure false := by rfl) : DS K O Wx X (.Expr (.Call (.Attribute (.Name x p1) "extend" p2) [e] [] p3) p4) (tDrop (tBM K "list" rExtend (tVar i) (tCons te tNil))) (mExtend O i me) := by
  refine ⟨by rw [← he.hK]; exact ps_expr (pe_bm PySem.F.plainAttrs_list PySem.F.slot_list_extend PySem.F.type_list_extend mt_extend (pe_var hN hv hd hcd) (pa_cons he.pe pa_nil hse) hbase hfew hline hse hpl) hs, fun G0 H0 σ ρ G H s Dn F h => ?_⟩
  unfold mExtend at h
  split at h
  · rename_i xs ei
    obtain ⟨o, eo, p, vs, rfl, hp, r, gp, wp, h0⟩ := F.fm.at ei
    refine ⟨.ref p, eo, .inl ⟨rfl, vs, .inl (.inl hp)⟩, ?_⟩
    refine he.sn σ ρ H0 G H s _ F.fm ?_
    revert h
    cases me ρ s with
    | err c fs s' => exact fun h dd xs G' H' t k e n r => h σ dd xs G' H' t.gg (F.go t k) e n r
    | bad => exact fun h => h
    | ok ds s1 =>
      intro h q ws G1 H1 t1 k1 nq gq hq rq
      have F1 := F.go t1 k1
      rw [toS_ok] at h
      split at h
      · rename_i hz
        obtain ⟨o', eo', p', vs', e', hp', r', gp', wp', h0'⟩ := F1.fm.at ei
        rw [eo] at eo'
        subst e'
        cases eo'
        exact ⟨p, q, vs', ws, rfl, rfl, hp', hq, by rw [r'.length, rq.length]; exact sz5 hz, h σ G1 _ t1.gg (F1.wr ei rfl rfl eo gp' wp' h0' (not_xd_l hp') ⟨p, _, rfl, upd_same, r'.append rq, gp', wp', h0'⟩)⟩
      · exact h.elim
  · exact h.elim
def frzE (i : Nat) (ρ : Ev) : Ev := match ρ[i]? with
  | some (.own xs) => ρ.set i (.sh (.lst xs))
  | _ => ρ
theorem Fm.frz (f : Fm K O H0 σ ρ G H s) (i : Nat) : ∃ G', Sm G G' ∧ Sh G' H ∧ (∀ b, G' b ≠ none → G b ≠ none ∨ H0 b = none) ∧ Fm K O H0 σ (frzE i ρ) G' H s := by
  unfold frzE
  split
  · rename_i xs ei
    obtain ⟨o, eo, p, vs, rfl, hp, r, gp, wp, h0⟩ := f.at ei
    have e1 : Sm G (up G p (.lst vs)) := Sm.up gp
    have e2 : Sh (up G p (.lst vs)) H := sh_up f.gh hp
    refine ⟨up G p (.lst vs), e1, e2, fun b e => ?_, ⟨e2, fun a w => ?_, ok_up f.ok gp, by simpa using f.len, fun j o' z a b => ?_, fun j l q z z2 hjl a b c e g => ?_⟩⟩
    · by_cases hb : b = p
      · subst hb; exact .inr h0
      · rw [up_ne hb] at e; exact .inl e
    · rw [up_ne (fun e => wp (by rw [← e]; exact w))]; exact f.wg a w
    · by_cases hj : i = j
      · subst hj
        have h2 := (List.getElem?_eq_some_iff.mp b).1
        rw [List.length_set] at h2
        rw [List.getElem?_set_self h2] at b
        cases b
        rw [eo] at a
        cases a
        exact ⟨_, rfl, .lst sqL_new (r.mono e1)⟩
      · rw [List.getElem?_set_ne hj] at b
        have q := f.sl j o' z a b
        have far : isOwn z = true → o' ≠ some (.ref p) := fun hz e => by
          subst e
          exact f.ds i j p _ z hj ei b rfl hz eo a
        cases z with
        | no => trivial
        | sh d => obtain ⟨v, q1, q2⟩ := q; exact ⟨v, q1, q2.mono e1⟩
        | own xs =>
          obtain ⟨r, vs, e1', e2', e3, e4, e5, e6⟩ := q
          exact ⟨r, vs, e1', e2', e3.mono e1, by rw [up_ne (fun e => far rfl (by rw [e1', e]))]; exact e4, e5, e6⟩
        | ownD xs =>
          obtain ⟨r, vs, e1', e2', e3, e4, e5, e6⟩ := q
          exact ⟨r, vs, e1', e2', e3.mono e1, by rw [up_ne (fun e => far rfl (by rw [e1', e]))]; exact e4, e5, e6⟩
        | ownI C xs =>
          obtain ⟨r, dx, vs, e1', e2', e3, e4, e5, e6⟩ := q
          exact ⟨r, dx, vs, e1', e2', e3.mono e1, by rw [up_ne (fun e => far rfl (by rw [e1', e]))]; exact e4, e5, e6⟩
        | exc c fs =>
          obtain ⟨a', dd, xs, q1, q2, q3, q4, q5⟩ := q
          exact ⟨a', dd, xs, q1, q2, q3, q4.mono e1, q5⟩
    · by_cases hj : i = j
      · subst hj
        have h2 := (List.getElem?_eq_some_iff.mp a).1
        rw [List.length_set] at h2
        rw [List.getElem?_set_self h2] at a
        cases a
        cases c
      · by_cases hk : i = l
        · subst hk
          have h2 := (List.getElem?_eq_some_iff.mp b).1
          rw [List.length_set] at h2
          rw [List.getElem?_set_self h2] at b
          cases b
          cases e
        · rw [List.getElem?_set_ne hj] at a
          rw [List.getElem?_set_ne hk] at b
          exact f.ds j l q z z2 hjl a b c e g
  · exact ⟨G, Sm.refl _, f.gh, fun b e => .inl e, f⟩
/-- ahead of a block: slot i's list is from now on as all others -/
def mFrz (O : Wo) (i : Nat) (m : MS O) : MS O := fun ρ s => m (frzE i ρ) s
theorem SndS.frz {t : TS} {m : MS O} (i : Nat) (h : SndS K O Wx t m) : SndS K O Wx t (mFrz O i m) := by
  intro G0 H0 σ ρ G H s Dn F q
  obtain ⟨G', e1, e2, e3, F'⟩ := F.fm.frz i
  refine h G0 H0 σ (frzE i ρ) G' H s Dn ⟨F', ?_⟩ (PstS.shift e1 q)
  refine ⟨F.tr.gg.trans e1, e2, fun b e => ?_, F.tr.kp, F.tr.dm, F.tr.fz⟩
  rcases e3 b e with q | q
  · exact F.tr.gr b q
  · exact .inr q
theorem db_frz (i : Nat) {e : List Stmt} {t : TS} {m : MS O} (h : DB K O Wx X e t m) : DB K O Wx X e t (mFrz O i m) := ⟨h.pe, h.sn.frz i⟩
/-- lent for one expression whose value is a plain scalar -/
def scalD : D → Bool
  | .non => true
  | .bl _ => true
  | .int _ => true
  | .str _ => true
  | _ => false
theorem Rep.scal {v : V} {d : D} (r : Rep K G v d) (h : scalD d = true) : ∀ G', Rep K G' v d := by
  cases r <;> first | (cases h; done) | (intro G'; constructor)
def dLen : List D → Option D
  | [.lst xs] => some (.int xs.length)
  | [.tup xs] => some (.int xs.length)
  | [.str x] => if x.length ≤ 100000 then some (.int x.length) else none
  | _ => none
theorem vcl_len : VCl K (fun xs H Q => ∃ x n, xs = [x] ∧ LenV K x H n ∧ Q (.int n) H) dLen := by
  intro G H x dx d Q g rx e q
  unfold dLen at e
  split at e
  · cases e
    cases rx with
    | cons r1 r2 =>
      cases r2
      cases r1 with
      | lst hs r => exact ⟨_, _, rfl, .inl ⟨_, g.seq hs, r.length.symm⟩, q _ G H (.refl g) (.int _)⟩
  · cases e
    cases rx with
    | cons r1 r2 =>
      cases r2
      cases r1 with
      | tup hs r => exact ⟨_, _, rfl, .inr ⟨_, g.seqT hs, r.length.symm⟩, q _ G H (.refl g) (.int _)⟩
  · split at e
    · rename_i hz
      cases e
      cases rx with
      | cons r1 r2 =>
        cases r2
        cases r1
        exact ⟨_, _, rfl, ⟨sz5 hz, rfl⟩, q _ G H (.refl g) (.int _)⟩
    · cases e
  · cases e
theorem call_lenG (hK : X.K = K) : CallR X (.builtin "len") (fun xs H Q => ∃ x n, xs = [x] ∧ LenV K x H n ∧ Q (.int n) H) := by subst hK; exact call_len
def dInt1 (f : Int → Option D) : List D → Option D
  | [.int i] => f i
  | _ => none
def dAbs : List D → Option D := dInt1 fun i => some (.int (if i < 0 then -i else i))
theorem vcl_abs : VCl K (fun xs H Q => ∃ i, xs = [.int i] ∧ Q (.int (if i < 0 then -i else i)) H) dAbs := by
  intro G H x dx d Q g rx e q
  unfold dAbs dInt1 at e
  split at e
  · cases e
    cases rx with
    | cons r1 r2 =>
      cases r2
      cases r1
      exact ⟨_, rfl, q _ G H (.refl g) (.int _)⟩
  · cases e
def dI2 (f : Int → Int → Int) : List D → Option D
  | [.int i, .int j] => some (.int (f i j))
  | _ => none
theorem vcl_i2 {f : Int → Int → Int} : VCl K (fun xs H Q => ∃ i j, xs = [.int i, .int j] ∧ Q (.int (f i j)) H) (dI2 f) := by
  intro G H x dx d Q g rx e q
  unfold dI2 at e
  split at e
  · cases e
    cases rx with
    | cons r1 r2 =>
      cases r2 with
      | cons r2 r3 =>
        cases r3
        cases r1
        cases r2
        exact ⟨_, _, rfl, q _ G H (.refl g) (.int _)⟩
  · cases e
def dMin2 : List D → Option D := dI2 fun i j => if j < i then j else i
/-- ints of a list of data -/
def toInts : List D → Option (List Int)
  | [] => some []
  | .int i :: xs => (toInts xs).map (i :: ·)
  | _ :: _ => none
theorem Reps.toInts {G : Gh} : ∀ {vs : List V} {ds : List D} {ns : List Int}, Reps K G vs ds → Mr.toInts ds = some ns → vs = ns.map V.int
  | _, _, _, .nil, h => by cases h; rfl
  | _, _, _, .cons q r, h => by
    cases q <;> simp only [Mr.toInts, Option.map_eq_some_iff] at h <;> first | (cases h; done) | skip
    obtain ⟨ns, h1, rfl⟩ := h
    rw [Reps.toInts r h1]
    rfl
@[simp] theorem toInts_map (ns : List Int) : Mr.toInts (ns.map D.int) = some ns := by
  induction ns with
  | nil => rfl
  | cons n ns ih => simp [Mr.toInts, ih]
def dSum : List D → Option D
  | [.lst xs] => (toInts xs).map fun ns => .int ns.sum
  | _ => none
def toBools : List D → Option (List Bool)
  | [] => some []
  | .bl i :: xs => (toBools xs).map (i :: ·)
  | _ :: _ => none
theorem Reps.toBools {G : Gh} : ∀ {vs : List V} {ds : List D} {ns : List Bool}, Reps K G vs ds → Mr.toBools ds = some ns → vs = ns.map V.bl
  | _, _, _, .nil, h => by cases h; rfl
  | _, _, _, .cons q r, h => by
    cases q <;> simp only [Mr.toBools, Option.map_eq_some_iff] at h <;> first | (cases h; done) | skip
    obtain ⟨ns, h1, rfl⟩ := h
    rw [Reps.toBools r h1]
    rfl
@[simp] theorem toBools_map (ns : List Bool) : Mr.toBools (ns.map D.bl) = some ns := by
  induction ns with
  | nil => rfl
  | cons n ns ih => simp [Mr.toBools, ih]
def dAll : List D → Option D
  | [.lst xs] => (toBools xs).map fun ns => .bl (ns.all id)
  | _ => none
def dAny : List D → Option D
  | [.lst xs] => (toBools xs).map fun ns => .bl (ns.any id)
  | _ => none
theorem vcl_all : VCl K (rAll K) dAll := by
  intro G H x dx d Q g rx e q
  unfold dAll at e
  split at e
  · rw [Option.map_eq_some_iff] at e
    obtain ⟨ns, e, rfl⟩ := e
    cases rx with
    | cons r1 r2 =>
      cases r2
      cases r1 with
      | lst hs r =>
        have := r.toBools e
        subst this
        exact ⟨_, ns, rfl, g.seq hs, q _ G H (.refl g) (.bl _)⟩
  · cases e
theorem call_allG (hK : X.K = K) (hc : X.calm = true) : CallR X (.builtin "all") (rAll K) := by subst hK; exact cr_all hc
def dListOf : List D → Option D
  | [.lst xs] => some (.lst xs)
  | [.tup xs] => some (.lst xs)
  | _ => none
def rListOf (K : PySem.W.Frag) : List V → Hp → VK → Prop := fun xs H Q => ∃ p ys, xs = [.ref p] ∧ (SqL K H p ys ∨ SqT K H p ys) ∧ ∀ l, H l = none → Q (.ref l) (upd H l (.lst ys))
theorem vcl_listOf : VCl K (rListOf K) dListOf := by
  intro G H x dx d Q g rx e q
  unfold dListOf at e
  split at e
  · cases e
    cases rx with
    | cons r1 r2 =>
      cases r2
      cases r1 with
      | lst hs r => exact ⟨_, _, rfl, .inl (g.seq hs), fun p n => q _ _ _ (Tr0.new g n) (new_lst g n r)⟩
  · cases e
    cases rx with
    | cons r1 r2 =>
      cases r2
      cases r1 with
      | tup hs r => exact ⟨_, _, rfl, .inr (g.seqT hs), fun p n => q _ _ _ (Tr0.new g n) (new_lst g n r)⟩
  · cases e
theorem call_listG (hK : X.K = K) : CallR X (.type "list") (rListOf K) := by subst hK; exact call_list_of
def dTupOf : List D → Option D
  | [.lst xs] => some (.tup xs)
  | [.tup xs] => some (.tup xs)
  | _ => none
def rTupOf (K : PySem.W.Frag) : List V → Hp → VK → Prop := fun xs H Q => ∃ p ys, xs = [.ref p] ∧ ((SqL K H p ys ∧ ∀ l, H l = none → Q (.ref l) (upd H l (.tup ys))) ∨ (SqT K H p ys ∧ Q (.ref p) H))
theorem vcl_tupOf : VCl K (rTupOf K) dTupOf := by
  intro G H x dx d Q g rx e q
  unfold dTupOf at e
  split at e
  · cases e
    cases rx with
    | cons r1 r2 =>
      cases r2
      cases r1 with
      | lst hs r => exact ⟨_, _, rfl, .inl ⟨g.seq hs, fun p n => q _ _ _ (Tr0.new g n) (new_tup g n r)⟩⟩
  · cases e
    cases rx with
    | cons r1 r2 =>
      cases r2
      cases r1 with
      | tup hs r => exact ⟨_, _, rfl, .inr ⟨g.seqT hs, q _ G H (.refl g) (.tup hs r)⟩⟩
  · cases e
theorem call_tupG (hK : X.K = K) : CallR X (.type "tuple") (rTupOf K) := by subst hK; exact call_tuple_of
def tyD : D → Option String
  | .non => some "NoneType"
  | .bl _ => some "bool"
  | .int _ => some "int"
  | .str _ => some "str"
  | .lst _ => some "list"
  | .tup _ => some "tuple"
  | _ => none
theorem sqL_ty {H : Hp} {a : Addr} {xs : List V} (h : SqL K H a xs) : TyX K H (.ref a) (.type "list") := by
  rcases h with (h | ⟨o, h⟩) | ⟨o, its, n, h1, h2, _⟩
  · exact .base (.lst h)
  · exact .base (.frz h)
  · exact .kList h1 h2
theorem sqT_ty {H : Hp} {a : Addr} {xs : List V} (h : SqT K H a xs) : TyX K H (.ref a) (.type "tuple") := by
  rcases h with (h | ⟨o, h⟩) | ⟨o, its, n, h1, h2, _⟩
  · exact .base (.tup h)
  · exact .fTuple h
  · exact .kTuple h1 h2
theorem Rep.ty_of {H : Hp} {v : V} {d : D} {n : String} (g : Sh G H) (r : Rep K G v d) (h : tyD d = some n) : TyX K H v (.type n) := by
  cases r with
  | non => cases h; exact .base .non
  | bl b => cases h; exact .base (.bl b)
  | int i => cases h; exact .base (.int i)
  | str x => cases h; exact .base (.str x)
  | lst hs r => cases h; exact sqL_ty (g.seq hs)
  | tup hs r => cases h; exact sqT_ty (g.seqT hs)
  | ref a => cases h
  | ty n => cases h
  | ins _ _ => cases h
  | dct _ _ => cases h
  | obj _ => cases h
def clsNames : List D → Option (List String)
  | [] => some []
  | .ty n :: xs => (clsNames xs).map (n :: ·)
  | _ :: _ => none
theorem Reps.cls {G : Gh} : ∀ {vs : List V} {ds : List D} {ns : List String}, Reps K G vs ds → clsNames ds = some ns → Paired ClsV vs (ns.map Value.type)
  | _, _, _, .nil, h => by cases h; exact .nil
  | _, _, _, .cons q r, h => by
    cases q <;> simp only [clsNames, Option.map_eq_some_iff] at h <;> first | (cases h; done) | skip
    obtain ⟨ns, h1, rfl⟩ := h
    exact .cons (.ty _) (Reps.cls r h1)
def kitAnyB (a : String) : List String → Option Bool
  | [] => some false
  | b :: bs => match kitB a b with
    | some true => some true
    | some false => kitAnyB a bs
    | none => none
theorem kitAnyB_ok {a : String} : ∀ {bs : List String} {r : Bool}, kitAnyB a bs = some r → PySem.W.kitAny K (.type a) (bs.map Value.type) = some r
  | [], r, h => by cases h; exact kitAny_nil
  | b :: bs, r, h => by
    unfold kitAnyB at h
    split at h
    · rename_i e
      cases h
      exact kitAny_cons (kit_ty e) (fun z => by cases z) (fun _ => rfl)
    · rename_i e
      exact kitAny_cons (kit_ty e) (fun _ => kitAnyB_ok h) (fun z => by cases z)
    · cases h
theorem call_isiG (hK : X.K = K) : CallR X (.builtin "isinstance") (rIsi K) := by subst hK; exact call_isi
end
end Mr
namespace Mr
open PySem PySem.Spec PyProof.Rows L2 RZ
theorem sh_mono {G : Gh} {H H' : Hp} (g : Sh G H) (h : ∀ b o, H b = some o → H' b = some o) : Sh G H' := fun b u e => (g b u e).mono (h b)
/-- what may stand in a field: a text, an int, a tuple of ints -/
def FmtV (K : PySem.W.Frag) (x : V) (H : Hp) : Prop :=
  (∃ y : Str, x = .str y ∧ y.length ≤ 20000) ∨ (∃ i : Int, x = .int i ∧ i.natAbs.log2 < 1920) ∨
    ∃ (a : Addr) (ns : List Int), x = .ref a ∧ SqT K H a (ns.map V.int) ∧ ns.length ≤ 8 ∧ ∀ n ∈ ns, n.natAbs.log2 < 1920
def tFmtG (K : PySem.W.Frag) (te : TE) : TE := fun σ H Q => te σ H fun x H1 => FmtV K x H1 ∧ ∀ m : Str, m.length ≤ 20000 → Q (.str m) H1
theorem piled_ints : ∀ ns : List Int, (∀ n ∈ ns, n.natAbs.log2 < 1920) → piled (ns.map fun n => Str.ofString (toString n)) ≤ ns.length * 1923
  | [], _ => Nat.zero_le _
  | n :: ns, h => by
    have h1 := int_text_len_1921 (h n List.mem_cons_self)
    have h2 := piled_ints ns fun m hm => h m (List.mem_cons_of_mem _ hm)
    rw [List.map_cons, piled_cons, List.length_cons]
    omega
theorem repr_ints {prog : Program} {w : World} : ∀ {ns : List Int} {its : List Value}, Vals (ns.map V.int) its → (∀ n ∈ ns, n.natAbs.log2 < 1920) → ReprAll prog w its (ns.map fun n => Str.ofString (toString n))
  | [], _, r, _ => by
    cases r
    exact .nil
  | n :: l, _, r, h => by
    cases r with
    | cons r1 r2 =>
      obtain ⟨t, rfl⟩ := r1
      exact .cons (ReprIs.int t (h n List.mem_cons_self)) (repr_ints r2 fun z hz => h z (List.mem_cons_of_mem _ hz))
theorem pe_fmtG {X : Cx} {K : PySem.W.Frag} {e : Expr} {te : TE} {pos : Pos} {k : Nat} (hK : X.K = K) (hr : Room k X.A) (he : PE X e te) : PE X (.FormattedValue e (-1) none pos) (tFmtG K te) := by
  subst hK
  refine ⟨fun pins s σ H Q I h => ?_⟩
  refine wpAny_FormattedValue_plain (thn (he.run pins s σ H _ I h) fun v s1 hv => ?_)
  obtain ⟨x, H1, I1, r1, fv, q⟩ := hv
  have h20 : 20000 ≤ sizeLine := by decide
  rcases fv with ⟨y, rfl, hz⟩ | ⟨i, rfl, hz⟩ | ⟨a, ns, rfl, ht, hl, hn⟩
  · obtain ⟨t, rfl⟩ := r1
    exact wpAny_formatField_str ⟨.str y, H1, I1, ⟨t, rfl⟩, q y hz⟩ ⟨.str y, H1, I1.tok _, ⟨_, rfl⟩, q y hz⟩ (Nat.le_trans hz h20)
  · obtain ⟨t, rfl⟩ := r1
    exact wpAny_formatField_int hz ⟨.str (toString i), H1, I1.tok _, ⟨_, rfl⟩, q _ (Nat.le_trans (int_text_len_1921 hz) (by decide))⟩
  · cases r1
    obtain ⟨its, rv, ⟨o, ho, hcl, n, hd⟩, _⟩ := I1.tuple ht
    have hp := piled_ints ns hn
    have htx := fmt_text (ns.map fun n => Str.ofString (toString n))
    have hu := hr.units
    refine fmt_tuple (ts := ns.map fun n => Str.ofString (toString n)) (by omega) ho hcl hd (repr_ints rv hn) (by omega) fun m u tk hm => ⟨.str m, H1, I1.tok _, ⟨u, rfl⟩, q m (by omega)⟩
/-- a part of an f-string that gives some text -/
def PartOk (t : TE) (σ : L2.St) (H : Hp) : Prop := ∀ Q : VK, (∀ m : Str, m.length ≤ 20000 → Q (.str m) H) → t σ H Q
theorem part_c {x : Str} {σ : L2.St} {H : Hp} (h : x.length ≤ 20000) : PartOk (tC (.str x)) σ H := fun Q q => q x h
theorem part_v {K : PySem.W.Frag} {i : Nat} {v : V} {σ : L2.St} {H : Hp} (e : σ[i]? = some (some v)) (f : FmtV K v H) : PartOk (tFmtG K (tVar i)) σ H := fun Q q => ⟨v, e, f, q⟩
theorem js_ok {σ : L2.St} {H : Hp} {Q : Str → Hp → Prop} : ∀ {ts : List TE} {acc : Str}, (∀ t ∈ ts, PartOk t σ H) → acc.length + 20000 * ts.length ≤ 200000 → (∀ m : Str, m.length ≤ 200000 → Q m H) → tJs ts acc σ H Q
  | [], acc, _, hz, q => q acc (by simpa using hz)
  | t :: ts, acc, h, hz, q => h t List.mem_cons_self _ fun m hm => by
    have e : (acc ++ m).length = acc.length + m.length := strLen_append _ _
    rw [List.length_cons] at hz
    refine ⟨m, rfl, Nat.le_trans (show (acc ++ m).length ≤ 200000 by omega) (by decide), js_ok (fun t ht => h t (List.mem_cons_of_mem _ ht)) (by omega) q⟩
/-- the base class, at L -/
structure LcT (K : PySem.W.Frag) (mg : Str → Option Value) (L : Addr) : Prop where
  gL : mg "LateCopyError" = some (.ref L)
  rd : PySem.W.readsIn K L (.type "type") = true
  fc : PySem.W.findCls K (.ref L) (.type "type") "__init__" = some (.val (.builtin "ValueError.__init__"))
  sp : PySem.W.specialIn K (.ref L) "__getattribute__" = some (some (.builtin "type.__getattribute__"))
theorem pe_lcinit {X : Cx} {K : PySem.W.Frag} {L : Addr} {e : Expr} {es : List Expr} {ta : TA} {p1 p2 pos : Pos} {pl : Sem Bool} (hK : X.K = K) (T : LcT K X.mg L) (ha : PA X (e :: es) ta) (hg : Gl X "LateCopyError" := by rfl)
    (hc : eval (.Call (.Attribute (.Name "LateCopyError" p1) "__init__" p2) (e :: es) [] pos) X.env = (do
      let ov ← eval (.Name "LateCopyError" p1) X.env
      standAt p2.atName
      let (f, first) ← holding [ov] (getMethod ov "__init__" pl)
      callWith pos f first (backTo pos (starEach (e :: es) X.env)) (backToKw pos (keywordEach [] X.env))) := by rfl)
    (he : starEach (e :: es) X.env = (false, eval e X.env) :: starEach es X.env := by rfl) (hpl : (backTo pos (starEach es X.env)).any (·.1) = false := by rfl) :
    PE X (.Call (.Attribute (.Name "LateCopyError" p1) "__init__" p2) (e :: es) [] pos) (tVeI K ta) := by
  subst hK
  refine ⟨fun pins s σ H Q I h => ?_⟩
  refine PySem.W.methodCall_KW (ld_glob I hg T.gL ?_ (by decide)) hc
  refine PySem.W.method_cls I.kIn T.sp (PySem.W.cls_value I.kIn T.rd T.fc (by decide +kernel) ?_)
  show wpAny _ _ (callWith pos (Value.builtin "ValueError.__init__") [] (backTo pos (starEach (e :: es) X.env)) []) _ _ _
  refine PyProof.Rows.callWith_method1 (thn (ha.run pos pins _ σ H _ (I.tok _) h) fun us s1 ⟨vs, H1, I1, r1, a, C, ws, ev, hl, T, ea, q⟩ => ?_) he hpl
  subst ev
  cases r1 with
  | @cons _ u0 _ ur ra rw' =>
    obtain rfl : u0 = Value.ref a := ra
    have hlen : ur.length ≤ sizeLine := by
      rw [← Paired.length rw', sizeLine_eq]
      omega
    exact oinit_ok T I1 ea hlen fun s' J => ⟨.non, H1, J, rfl, q⟩
/-- an error's __init__(self, f1, ..): the fields are stored -/
def spIni (K : PySem.W.Frag) (C : Addr) (fs : List Str) : Sp := fun vs H Q _ => ∃ (a : Addr) (ws : List V), vs = .ref a :: ws ∧ ws.length = fs.length ∧ H a = some (exo a C none) ∧ (∀ v ∈ ws, FmtV K v H) ∧
  ∀ (dx : Addr) (H' : Hp), H dx = none → dx ≠ a → (∀ b, b ≠ a → b ≠ dx → H' b = H b) → H' a = some (exo a C (some dx)) → H' dx = some (exd dx (fs.zip ws).reverse) → Q .non H'
/-- what the written part says of an error class -/
structure ErT (P : Program) (w : World) (K : PySem.W.Frag) (mg : Str → Option Value) (base : Heap) (x : Str) (C : Addr) (fs : List Str) : Prop where
  gC : mg x = some (.ref C)
  T : OexC K C
  xf : XfC K C
  no : ∀ f ∈ fs, PySem.W.findIn K (.ref C) f = some none
  ini : ∃ fI fd, PySem.W.findIn K (.ref C) "__init__" = some (some (.ref fI)) ∧ PySem.W.typeIn K (.ref fI) = some (.type "function") ∧ FnOk P w K mg base CX0 1 fI fd ("self" :: fs) (spIni K C fs) ∧ Binds K fd ("self" :: fs) []
section
variable {P : Program} {w : World} {K : PySem.W.Frag} {mg : Str → Option Value} {base : Heap} {C L : Addr}
theorem init1_read {f : Str} {ts : List TE} {v : V} {a : Addr} {H : Hp} {Q : VK} {E : XK} {σ : L2.St} (T : OexC K C) (hno : PySem.W.findIn K (.ref C) f = some none) (es : σ[0]? = some (some (.ref a))) (ev : σ[1]? = some (some v)) (ea : H a = some (exo a C none)) (hp : ∀ t ∈ ts, PartOk t σ H) (hl : ts.length ≤ 10)
    (q : ∀ (dx : Addr) (H' : Hp), H dx = none → dx ≠ a → (∀ b, b ≠ a → b ≠ dx → H' b = H b) → H' a = some (exo a C (some dx)) → H' dx = some (exd dx [(f, v)]) → Q .non H') :
    tSeq (tDrop (tVeI K (tCons (tVar 0) (tCons (fun σ H Q => tJs ts Str.empty σ H fun out H1 => Q (.str out) H1) tNil)))) (tOst K f (tVar 0) (tVar 1)) { nx := fun _ H' => Q .non H', rt := Q } σ H := by
  refine ⟨.ref a, es, js_ok hp (by show 0 + 20000 * ts.length ≤ 200000; omega) fun m hm => ?_⟩
  refine ⟨a, C, [.str m], rfl, Nat.le_of_ble_eq_true rfl, T, ea, ?_⟩
  refine ⟨v, ev, .ref a, es, a, C, rfl, T, hno, .inl ⟨ea, fun dx nd ne => ?_⟩⟩
  refine q dx _ nd ne (fun b b1 b2 => by rw [upd_ne b1, upd_ne b2]) upd_same (by rw [upd_ne ne, upd_same])
end
section
variable {K : PySem.W.Frag} {O : Wo} {Wx : WX} {X : Cx} {G0 : Gh} {H0 : Hp} {G : Gh} {H : Hp} {G1 : Gh} {H1 : Hp} {σ : L2.St} {ρ : Ev} {s s1 : O.S}
def fmtD : D → Bool
  | .str y => decide (y.length ≤ 20000)
  | .int i => decide (i.natAbs.log2 < 1920)
  | .tup xs => match toInts xs with
    | some ns => decide (ns.length ≤ 8) && ns.all fun n => decide (n.natAbs.log2 < 1920)
    | none => false
  | _ => false
theorem fmt_ok {H : Hp} {v : V} {d : D} (g : Sh G H) (r : Rep K G v d) (h : fmtD d = true) : FmtV K v H := by
  cases r with
  | str y => exact .inl ⟨y, rfl, of_decide_eq_true h⟩
  | int i => exact .inr (.inl ⟨i, rfl, of_decide_eq_true h⟩)
  | tup hs r =>
    simp only [fmtD] at h
    split at h
    · rename_i ns e
      have := r.toInts e
      subst this
      rw [Bool.and_eq_true, List.all_eq_true] at h
      exact .inr (.inr ⟨_, ns, rfl, g.seqT hs, of_decide_eq_true h.1, fun n hn => of_decide_eq_true (h.2 n hn)⟩)
    · cases h
  | _ => cases h
theorem Reps.mem {vs : List V} {ds : List D} (r : Reps K G vs ds) : ∀ v ∈ vs, ∃ d ∈ ds, Rep K G v d := by
  induction vs generalizing ds with
  | nil => intro v h; cases h
  | cons w vs ih =>
    cases r with
    | cons q r =>
      intro v h
      rcases List.mem_cons.mp h with e | e
      · subst e; exact ⟨_, List.mem_cons_self, q⟩
      · obtain ⟨d, h1, h2⟩ := ih r v e
        exact ⟨d, List.mem_cons_of_mem _ h1, h2⟩
theorem repF_zip : ∀ {fs : List Str} {vs : List V} {ds : List D}, Reps K G vs ds → RepF K G (fs.zip vs) (fs.zip ds)
  | [], _, _, _ => by simp; exact .nil
  | _ :: _, _, _, .nil => by simp; exact .nil
  | f :: fs, _, _, .cons q r => .cons q (repF_zip r)
theorem RepF.append : ∀ {a b : List (Str × V)} {c d : List (Str × D)}, RepF K G a c → RepF K G b d → RepF K G (a ++ b) (c ++ d)
  | _, _, _, _, .nil, r => r
  | _, _, _, _, .cons h r, q => .cons h (r.append q)
theorem RepF.reverse {a : List (Str × V)} {c : List (Str × D)} (r : RepF K G a c) : RepF K G a.reverse c.reverse := by
  induction a generalizing c with
  | nil => cases r; exact .nil
  | cons p a ih =>
    cases r with
    | cons h r =>
      rw [List.reverse_cons, List.reverse_cons]
      exact (ih r).append (.cons h .nil)
/-- raise X(e, ..) -/
def mRaise (O : Wo) (C : Addr) (fs : List Str) (m : MA O) : MS O := fun ρ s => toS (m ρ s) ρ fun ds s1 => if ds.length = fs.length ∧ fs.length ≤ 100 ∧ ds.all fmtD = true then .err C (fs.zip ds).reverse ρ s1 else .bad
theorem ds_raise {x : Str} {C : Addr} {fs : List Str} {e : Expr} {es : List Expr} {ta : TA} {ma : MA O} {p pos pos2 : Pos} {j : Nat} (c : Cs K Wx X) (T : ErT X.prog X.w K X.mg X.base x C fs) (hr : Room j X.A) (hj : 2 ≤ j) (ha : DA K O Wx X (e :: es) ta ma) (hg : Gl X x := by rfl)
    (hdb : (x == ("__debug__" : Str)) = false := by decide) (he : starEach (e :: es) X.env = (false, eval e X.env) :: starEach es X.env := by rfl) (hpl : (backTo pos (starEach es X.env)).any (·.1) = false := by rfl) :
    DS K O Wx X (.Raise (some (.Call (.Name x p) (e :: es) [] pos)) none pos2) (fun _ σ H => tMkO C (spIni K C fs) [] ta σ H fun cls d H' => Wx cls d σ H') (mRaise O C fs ma) := by
  obtain ⟨fI, fd, iC, tI, F1, hb⟩ := T.ini
  refine ⟨?_, fun G0 H0 σ ρ G H s Dn F h => ?_⟩
  · have := c.cn.hK
    subst this
    exact ps_raise c.hc c.cn.tk (pmk_oex T.T iC tI F1 (hr.mono hj) hb .nil pass0 hg T.gC ha.pe hdb he hpl)
  · refine ha.sn σ ρ H0 G H s _ F.fm (pst_toS F h fun ds s1 _ vs G1 H1 t1 k1 r1 h1 => ?_)
    have F1 := F.go t1 k1
    split at h1
    · rename_i hc
      obtain ⟨hl, h100, hf⟩ := hc
      have hz : vs.length = fs.length := r1.length.trans hl
      refine ⟨by rw [hz]; omega, fun a na => ⟨a, vs, by rw [List.append_nil], hz, upd_same, fun v hv => ?_, fun dx H' nd ne hk ea ed => ⟨rfl, dx, (fs.zip vs).reverse, ea, ed, ?_, ?_⟩⟩⟩
      · obtain ⟨d, hd, rd⟩ := r1.mem v hv
        have t := Tr0.hid (o := exo a C none) F1.fm.gh na
        exact fmt_ok t.gh (rd.mono t.gg) (List.all_eq_true.mp hf d hd)
      · rw [upd_ne ne] at nd
        exact nd
      · rw [upd_ne ne] at nd
        -- the heap behind: G1 as it stands; the error's dict is new
        have hH : ∀ b o, H1 b = some o → (upd (del H' a) dx (.xd (fs.zip vs).reverse)) b = some o := fun b o e => by
          have b1 : b ≠ a := ne_of_none e na
          have b2 : b ≠ dx := ne_of_none e nd
          rw [upd_ne b2, del_ne b1, hk b b1 b2, upd_ne b1]
          exact e
        have t2 : Tr0 G1 H1 G1 (upd (del H' a) dx (.xd (fs.zip vs).reverse)) := ⟨Sx.refl _, sh_mono F1.fm.gh hH, fun b e => .inl e, fun b o e => hH b o e, fun b e => by
          cases q : H1 b with
          | none => rfl
          | some o => (rw [hH b o q] at e; cases e), fun _ _ e => e⟩
        have k2 := F1.fm.keepW t2
        have nW : ¬ O.W dx := nW_of k1 nd
        exact h1 σ (some dx) _ G1 _ (Sm.refl _) (F1.go t2.up k2) upd_same (nwA nW) (repF_zip r1).reverse
    · exact (show False from h1).elim
def noExc : Sl → Bool
  | .exc _ _ => false
  | _ => true
def clrS {S : Type} (i : Nat) : RS S → RS S
  | .nx ρ s => if (ρ.set i .no).all noExc = true then .nx (ρ.set i .no) s else .bad
  | .bk ρ s => if (ρ.set i .no).all noExc = true then .bk (ρ.set i .no) s else .bad
  | .ct ρ s => if (ρ.set i .no).all noExc = true then .ct (ρ.set i .no) s else .bad
  | .rt d s => .rt d s
  | .rn ds s => .rn ds s
  | _ => .bad
end
end Mr
namespace Mr
open PySem PySem.Spec PyProof.Rows L2 RZ
structure Dr where
  xs : List Int
  n : Int
  zs : List Int
  k : Int
  st : List Ob
theorem ObOk.loc {K : PySem.W.Frag} {G G' : Gh} {H H' : Hp} {a : Addr} {o : Ob} (e : Sm G G') (h : H' a = H a) (q : ObOk K G H a o) : ObOk K G' H' a o := by
  cases o with
  | lst xs => obtain ⟨vs, h1, h2⟩ := q; exact ⟨vs, h.trans h1, h2.mono e⟩
  | dct xs => obtain ⟨vs, h1, h2⟩ := q; exact ⟨vs, h.trans h1, h2.mono e⟩
  | dlk xs => obtain ⟨od, vs, h1, h2⟩ := q; exact ⟨od, vs, h.trans h1, h2.mono e⟩
  | ins C xs => obtain ⟨dx, vs, h1, h2⟩ := q; exact ⟨dx, vs, h.trans h1, h2.mono e⟩
  | dcT xs => obtain ⟨vs, h1, h2⟩ := q; exact ⟨vs, h.trans h1, h2.mono e⟩
theorem StOk.loc {K : PySem.W.Frag} {G G' : Gh} {H H' : Hp} {st : List Ob} (e : Sx G G') (nm : ∀ b n, Mkk G' b n → Mkk G b n) (h : ∀ a, (∃ n, Mkk G a n) → H' a = H a) (q : StOk K G H st) : StOk K G' H' st where
  at_ := fun n o ho => by
    obtain ⟨a, h1, h2⟩ := q.at_ n o ho
    exact ⟨a, h1.mono e, h2.loc e.m (h a ⟨n, h1.mk⟩)⟩
  lt := fun a n ha => q.lt a n (nm a n ha)
  inj := fun a b n ha hb => q.inj a b n (nm a n ha) (nm b n hb)
theorem StOk.off {K : PySem.W.Frag} {G : Gh} {H : Hp} {st : List Ob} {p : Addr} {o : HO} (q : StOk K G H st) (g : G p = none) : StOk K G (upd H p o) st :=
  q.loc (Sx.refl _) (fun _ _ e => e) fun a ⟨n, h⟩ => upd_ne (fun z => h.none (by rw [z]; exact g))
/-- the world of a source at d, its lists at a and b; and the store -/
abbrev DrW (d a b : Addr) : Wo where
  S := Dr
  W := fun p => p = d ∨ p = a ∨ p = b
  ok := fun K s G H => (H d = some (.lst [.ref a, .int s.n, .ref b, .int s.k]) ∧ H a = some (.lst (s.xs.map V.int)) ∧ H b = some (.lst (s.zs.map V.int))) ∧ d ≠ a ∧ d ≠ b ∧ a ≠ b ∧ StOk K G H s.st
  ec := fun _ _ _ => False
  sf := fun _ => True
  st := Dr.st
  wi := fun s l => { s with st := l }
  loc := fun K s G H G' H' e nm h k => by
    refine ⟨⟨?_, ?_, ?_⟩, k.2.1, k.2.2.1, k.2.2.2.1, k.2.2.2.2.loc e nm fun a w => h a (.inr w)⟩
    · rw [h d (.inl (.inl rfl))]; exact k.1.1
    · rw [h a (.inl (.inr (.inl rfl)))]; exact k.1.2.1
    · rw [h b (.inl (.inr (.inr rfl)))]; exact k.1.2.2
  dom := fun K s G H p k w => by
    rcases w with rfl | rfl | rfl
    · rw [k.1.1]; simp
    · rw [k.1.2.1]; simp
    · rw [k.1.2.2]; simp
  sto := fun K s G H k => k.2.2.2.2
  stu := fun K s G H G' H' l k h q => by
    refine ⟨⟨?_, ?_, ?_⟩, k.2.1, k.2.2.1, k.2.2.2.1, q⟩
    · rw [h d (.inl rfl)]; exact k.1.1
    · rw [h a (.inr (.inl rfl))]; exact k.1.2.1
    · rw [h b (.inr (.inr rfl))]; exact k.1.2.2
section
variable {K : PySem.W.Frag} {Wx : WX} {X : Cx} {d a b : Addr} {G0 : Gh} {H0 : Hp} {G : Gh} {H : Hp} {G1 : Gh} {H1 : Hp} {σ : L2.St} {ρ : Ev} {s s1 : Dr}
/-- slot i holds the source -/
def isDr (d : Addr) (i : Nat) (ρ : Ev) : Bool := match ρ[i]? with
  | some (.sh (.ref p)) => decide (p = d)
  | _ => false
theorem isDr_at {i : Nat} (F : Fm K (DrW d a b) H0 σ ρ G H s) (h : isDr d i ρ = true) : σ[i]? = some (some (.ref d)) := by
  unfold isDr at h
  split at h
  · rename_i p e
    have hp := of_decide_eq_true h
    subst hp
    obtain ⟨v, ev, r⟩ := F.get e
    cases r
    exact ev
  · cases h
theorem dr_at {j : Int} {v : V} (F : Fm K (DrW d a b) H0 σ ρ G H s) (h : atI [V.ref a, .int s.n, .ref b, .int s.k] j = some v) {Q : VK} (q : Q v H) : rIx K (.ref d) (.int j) H Q :=
  .inl ⟨d, _, j, v, rfl, rfl, .inl (.inl F.ok.1.1), h, q⟩
/-- d[1], d[3] -/
def mDrI (d a b : Addr) (i : Nat) (j : Int) : ME (DrW d a b) := fun ρ s => if isDr d i ρ = true then (if j = 1 then .ok (.int s.n) s else if j = 3 then .ok (.int s.k) s else .bad) else .bad
theorem de_drI (i : Nat) {x : Str} {j : Int} {jj : Nat} {p1 p2 pos : Pos} (c : Cn K Wx X) (hN : X.N[i]? = some x := by rfl) (hv : Vis X.env.scope x := by first | exact Or.inl rfl | exact Or.inr (Or.inl rfl) | exact Or.inr (Or.inr rfl)) (hd : (x == ("__debug__" : Str)) = false := by decide)
    (hcd : (x == ("__classdict__" : Str)) = false := by decide) : DE K (DrW d a b) Wx X (.Subscript (.Name x p1) (.Constant (.int j) jj p2) pos) (tOp (rIx K) (tVar i) (tC (.int j))) (mDrI d a b i j) := by
  refine ⟨c.hK, c.tk, pe_ix (ix_G c.hK) (pe_var hN hv hd hcd) pe_int (fun _ _ => rfl), fun σ ρ H0 G H s Q F h => ?_⟩
  unfold mDrI at h
  split at h
  · rename_i hi
    refine ⟨.ref d, isDr_at F hi, ?_⟩
    split at h
    · rename_i e
      subst e
      exact dr_at F rfl (h _ G H (.refl F.gh) F.ok (.int _))
    · split at h
      · rename_i e
        subst e
        exact dr_at F rfl (h _ G H (.refl F.gh) F.ok (.int _))
      · exact (show False from h).elim
  · exact (show False from h).elim
/-- the list of d[0], of d[2] -/
def drL (s : Dr) (j : Int) : Option (List Int) := if j = 0 then some s.xs else if j = 2 then some s.zs else none
theorem drL_at {j : Int} {ns : List Int} (F : Fm K (DrW d a b) H0 σ ρ G H s) (h : drL s j = some ns) : ∃ p, atI [V.ref a, .int s.n, .ref b, .int s.k] j = some (.ref p) ∧ H p = some (.lst (ns.map V.int)) := by
  unfold drL at h
  split at h
  · rename_i e
    subst e
    cases h
    exact ⟨a, rfl, F.ok.1.2.1⟩
  · split at h
    · rename_i e
      subst e
      cases h
      exact ⟨b, rfl, F.ok.1.2.2⟩
    · cases h
/-- d[j] != [] -/
def mDrNe (d a b : Addr) (i : Nat) (j : Int) : MT (DrW d a b) := fun ρ s => if isDr d i ρ = true then (match drL s j with
  | some ns => .ok (!ns.isEmpty) s
  | none => .bad) else .bad
theorem dpAll_ints {H : Hp} : ∀ ns : List Int, DpAll K H (ns.map V.int) (ns.map PyData.int)
  | [] => .nil
  | n :: ns => .cons (.int n) (dpAll_ints ns)
theorem shaped_ints (ns : List Int) : SeqAt.shaped (.list (ns.map PyData.int)) = true := by
  have h1 : ∀ ns : List Int, PyData.canLayAll0 (ns.map PyData.int) = true := by
    intro ns
    induction ns with
    | nil => simp [PyData.canLayAll0]
    | cons n ns ih => simp [PyData.canLayAll0, PyData.canLay0, ih]
  have h2 : (PyData.list (ns.map PyData.int)).depth ≤ 64 := by
    have h3 : ∀ ns : List Int, PyData.depthAll (ns.map PyData.int) ≤ 1 := by
      intro ns
      induction ns with
      | nil => simp [PyData.depthAll]
      | cons n ns ih => simp [PyData.depthAll, PyData.depth]; exact ih
    have := h3 ns
    simp only [PyData.depth]
    omega
  unfold SeqAt.shaped
  simp [PyData.canLay0, h1, h2]
theorem dt_drNe (i : Nat) {x : Str} {j : Int} {jj k : Nat} {p1 p2 p3 p4 pos : Pos} (c : Cn K Wx X) (hr : Room k X.A) (hN : X.N[i]? = some x := by rfl) (hv : Vis X.env.scope x := by first | exact Or.inl rfl | exact Or.inr (Or.inl rfl) | exact Or.inr (Or.inr rfl)) (hd : (x == ("__debug__" : Str)) = false := by decide)
    (hcd : (x == ("__classdict__" : Str)) = false := by decide) : DT K (DrW d a b) Wx X (.Compare (.Subscript (.Name x p1) (.Constant (.int j) jj p2) p3) [.NotEq] [.List [] p4] pos) (tTest (tOp (rNeG K) (tOp (rIx K) (tVar i) (tC (.int j))) (tLst tNil))) (mDrNe d a b i j) := by
  refine ⟨c.hK, c.tk, pt_cmpR (op_neG c.hK hr.units) (pe_ix (ix_G c.hK) (pe_var hN hv hd hcd) pe_int (fun _ _ => rfl)) (pe_lst pa_nil) (nomark _), fun σ ρ H0 G H s Q F h => ?_⟩
  unfold mDrNe at h
  split at h
  · rename_i hi
    refine ⟨.ref d, isDr_at F hi, ?_⟩
    split at h
    · rename_i ns e
      obtain ⟨p, e1, e2⟩ := drL_at F e
      refine dr_at F e1 ⟨Nat.zero_le _, fun q nq => ?_⟩
      have t := Tr0.hid (o := .lst []) F.gh nq
      have pq : p ≠ q := ne_of_none e2 nq
      refine .inr ⟨.list (ns.map .int), .list [], .lst (.inl (.inl (by rw [upd_ne pq]; exact e2))) (dpAll_ints ns), .lst (.inl (.inl upd_same)) .nil, shaped_ints ns, shaped_ints [], _, rfl, ?_⟩
      have ev : (!PyData.eqv (.list (ns.map PyData.int)) (.list [])) = !ns.isEmpty := by
        cases ns <;> simp [PyData.eqv, PyData.eqvAll]
      rw [ev]
      exact h _ G _ t.up (F.keepW t) rfl
    · exact (show False from h).elim
  · exact (show False from h).elim
/-- d[j][e] -/
def mDrIx (d a b : Addr) (i : Nat) (j : Int) (m : ME (DrW d a b)) : ME (DrW d a b) := fun ρ s => if isDr d i ρ = true then (match drL s j with
  | some ns => (m ρ s).bind fun z s1 => match z with
    | .int z => R.lift ((atI ns z).map .int) s1
    | _ => .bad
  | none => .bad) else .bad
theorem atI_map {ns : List Int} {z n : Int} (h : atI ns z = some n) : atI (ns.map V.int) z = some (.int n) := by
  unfold atI at h ⊢
  rw [List.length_map]
  cases e : ixN ns.length z with
  | none => rw [e] at h; cases h
  | some j =>
    rw [e] at h
    have h' : ns[j]? = some n := h
    show (ns.map V.int)[j]? = some (.int n)
    rw [List.getElem?_map, h']
    rfl
theorem de_drIx (i : Nat) {x : Str} {j : Int} {jj : Nat} {e : Expr} {te : TE} {me : ME (DrW d a b)} {p1 p2 p3 pos : Pos} (he : DE K (DrW d a b) Wx X e te me) (hw : ∀ ρ s z s1, me ρ s = .ok z s1 → s1 = s) (hN : X.N[i]? = some x := by rfl) (hv : Vis X.env.scope x := by first | exact Or.inl rfl | exact Or.inr (Or.inl rfl) | exact Or.inr (Or.inr rfl)) (hd : (x == ("__debug__" : Str)) = false := by decide)
    (hcd : (x == ("__classdict__" : Str)) = false := by decide) (hs : PlainIx e := by exact fun _ _ => rfl) : DE K (DrW d a b) Wx X (.Subscript (.Subscript (.Name x p1) (.Constant (.int j) jj p2) p3) e pos) (tOp (rIx K) (tOp (rIx K) (tVar i) (tC (.int j))) te) (mDrIx d a b i j me) := by
  refine ⟨he.hK, he.tk, pe_ix (ix_G he.hK) (pe_ix (ix_G he.hK) (pe_var hN hv hd hcd) pe_int (fun _ _ => rfl)) he.pe hs, fun σ ρ H0 G H s Q F h => ?_⟩
  unfold mDrIx at h
  split at h
  · rename_i hi
    refine ⟨.ref d, isDr_at F hi, ?_⟩
    split at h
    · rename_i ns ed
      obtain ⟨p, e1, e2⟩ := drL_at F ed
      refine dr_at F e1 ?_
      refine he.sn σ ρ H0 G H s _ F (pst_bind h fun z s1 em zv G1 H1 t1 k1 r1 h1 => ?_)
      have hs1 := hw _ _ _ _ em
      subst hs1
      have F1 := F.tr t1 k1
      cases z with
      | int z =>
        cases r1
        dsimp only at h1
        cases ea : atI ns z with
        | none => rw [ea] at h1; exact (show False from h1).elim
        | some n =>
          rw [ea] at h1
          obtain ⟨p', e1', e2'⟩ := drL_at F1 ed
          rw [e1] at e1'
          cases e1'
          exact .inl ⟨p, _, z, .int n, rfl, rfl, .inl (.inl e2'), atI_map ea, h1 _ G1 H1 (.refl t1.gh) k1 (.int _)⟩
      | _ => exact (show False from h1).elim
    · exact (show False from h).elim
  · exact (show False from h).elim
/-- len(d[j]) -/
def mDrLen (d a b : Addr) (i : Nat) (j : Int) : ME (DrW d a b) := fun ρ s => if isDr d i ρ = true then (match drL s j with
  | some ns => .ok (.int ns.length) s
  | none => .bad) else .bad
theorem de_drLen (i : Nat) {x : Str} {j : Int} {jj : Nat} {p p1 p2 p3 pos : Pos} (c : Cn K Wx X) (hm : X.mg "len" = none) (hN : X.N[i]? = some x := by rfl) (hv : Vis X.env.scope x := by first | exact Or.inl rfl | exact Or.inr (Or.inl rfl) | exact Or.inr (Or.inr rfl)) (hd : (x == ("__debug__" : Str)) = false := by decide)
    (hcd : (x == ("__classdict__" : Str)) = false := by decide) (hg : Gl X "len" := by rfl) (he : starEach [.Subscript (.Name x p1) (.Constant (.int j) jj p2) p3] X.env = (false, eval (.Subscript (.Name x p1) (.Constant (.int j) jj p2) p3) X.env) :: starEach [] X.env := by rfl) (hpl : (backTo pos (starEach [] X.env)).any (·.1) = false := by rfl) :
    DE K (DrW d a b) Wx X (.Call (.Name "len" p) [.Subscript (.Name x p1) (.Constant (.int j) jj p2) p3] [] pos) (tCB (fun xs H Q => ∃ x n, xs = [x] ∧ LenV K x H n ∧ Q (.int n) H) (tCons (tOp (rIx K) (tVar i) (tC (.int j))) tNil)) (mDrLen d a b i j) := by
  refine ⟨c.hK, c.tk, pe_callB (call_lenG c.hK) hg hm PySem.boot_len (pa_cons (pe_ix (ix_G c.hK) (pe_var hN hv hd hcd) pe_int (fun _ _ => rfl)) pa_nil he) (by decide) (by decide) he hpl, fun σ ρ H0 G H s Q F h => ?_⟩
  unfold mDrLen at h
  split at h
  · rename_i hi
    refine ⟨.ref d, isDr_at F hi, ?_⟩
    split at h
    · rename_i ns e
      obtain ⟨p, e1, e2⟩ := drL_at F e
      refine dr_at F e1 ⟨_, ns.length, rfl, .inl ⟨_, .inl (.inl e2), by simp⟩, h _ G H (.refl F.gh) F.ok (.int _)⟩
    · exact (show False from h).elim
  · exact (show False from h).elim
/-- the source's own list is written -/
theorem Fs.drw0 (F : Fs K (DrW d a b) G0 H0 σ ρ G H s) (n k : Int) : Fs K (DrW d a b) G0 H0 σ ρ G (upd H d (.lst [.ref a, .int n, .ref b, .int k])) { s with n := n, k := k } := by
  have hd := F.fm.ok
  have t : Tr (DrW d a b).W G H G (upd H d (.lst [.ref a, .int n, .ref b, .int k])) := by
    refine ⟨Sm.refl _, F.fm.gh.upd (F.fm.wg d (.inl rfl)), fun c e => .inl e, fun c u w m e => ?_, fun c e => ?_, fun c u v e => ?_⟩
    · rw [upd_ne (fun z => w (.inl z))]; exact e
    · by_cases hc : c = d
      · subst hc; rw [upd_same] at e; cases e
      · rw [upd_ne hc] at e; exact e
    · rw [upd_ne (fun z => by subst z; rw [hd.1.1] at e; cases e)]; exact e
  refine F.go t ⟨⟨upd_same, ?_, ?_⟩, hd.2.1, hd.2.2.1, hd.2.2.2.1, hd.2.2.2.2.off (F.fm.wg d (.inl rfl))⟩
  · rw [upd_ne (Ne.symm hd.2.1)]; exact hd.1.2.1
  · rw [upd_ne (Ne.symm hd.2.2.1)]; exact hd.1.2.2
/-- d[1] = e, d[3] = e -/
def mDrSet (d a b : Addr) (i : Nat) (j : Int) (m : ME (DrW d a b)) : MS (DrW d a b) := fun ρ s => toS (m ρ s) ρ fun z s1 => if isDr d i ρ = true then (match z with
  | .int z => if j = 1 then .nx ρ { s1 with n := z } else if j = 3 then .nx ρ { s1 with k := z } else .bad
  | _ => .bad) else .bad
theorem ds_drSet (i : Nat) {x : Str} {j : Int} {jj : Nat} {e : Expr} {te : TE} {me : ME (DrW d a b)} {p1 p2 p3 pos : Pos} (he : DE K (DrW d a b) Wx X e te me) (hN : X.N[i]? = some x := by rfl) (hv : Vis X.env.scope x := by first | exact Or.inl rfl | exact Or.inr (Or.inl rfl) | exact Or.inr (Or.inr rfl)) (hd : (x == ("__debug__" : Str)) = false := by decide)
    (hcd : (x == ("__classdict__" : Str)) = false := by decide) (hs : swapsWith e (some (.Subscript (.Name x p1) (.Constant (.int j) jj p2) p3)) pos.line X.env = pure false := by rfl) :
    DS K (DrW d a b) Wx X (.Assign [.Subscript (.Name x p1) (.Constant (.int j) jj p2) p3] e pos) (tAsg te (gSub (tVar i) (tC (.int j)) rSetL)) (mDrSet d a b i j me) := by
  refine ⟨ps_asg he.pe (pg_sub (pe_var hN hv hd hcd) pe_int set_list) hs, fun G0 H0 σ ρ G H s Dn F h => ?_⟩
  refine he.sn σ ρ H0 G H s _ F.fm (pst_toS F h fun z s1 _ zv G1 H1 t1 k1 r1 h1 => ?_)
  have F1 := F.go t1 k1
  split at h1
  · rename_i hi
    refine ⟨.ref d, isDr_at F1.fm hi, ?_⟩
    cases z with
    | int z =>
      cases r1
      dsimp only at h1
      have drw : ∀ n k, Fs K (DrW d a b) G0 H0 σ ρ G1 (upd H1 d (.lst [.ref a, .int n, .ref b, .int k])) { s1 with n := n, k := k } := fun n k => F1.drw0 n k
      split at h1
      · rename_i e
        subst e
        exact ⟨d, _, 1, 1, rfl, rfl, F1.fm.ok.1.1, rfl, h1 σ G1 _ (Sm.refl _) (drw z s1.k)⟩
      · split at h1
        · rename_i e
          subst e
          exact ⟨d, _, 3, 3, rfl, rfl, F1.fm.ok.1.1, rfl, h1 σ G1 _ (Sm.refl _) (drw s1.n z)⟩
        · exact (show False from h1).elim
    | _ => exact (show False from h1).elim
  · exact (show False from h1).elim
/-- d[1] = d[0].pop(0) -/
def mDrPop (d a b : Addr) (i : Nat) : MS (DrW d a b) := fun ρ s => if isDr d i ρ = true then (match s.xs with
  | [] => .bad
  | x :: xs => .nx ρ { s with n := x, xs := xs }) else .bad
theorem ds_drPop (i : Nat) {x : Str} {j1 j2 j3 : Nat} {p1 p2 p3 p4 p5 p6 p7 p8 p9 pos : Pos} (c : Cn K Wx X) (hN : X.N[i]? = some x := by rfl) (hv : Vis X.env.scope x := by first | exact Or.inl rfl | exact Or.inr (Or.inl rfl) | exact Or.inr (Or.inr rfl)) (hd : (x == ("__debug__" : Str)) = false := by decide)
    (hcd : (x == ("__classdict__" : Str)) = false := by decide)
    (hps : PS X (.Assign [.Subscript (.Name x p1) (.Constant (.int 1) j1 p2) p3] (.Call (.Attribute (.Subscript (.Name x p4) (.Constant (.int 0) j2 p5) p6) "pop" p7) [.Constant (.int 0) j3 p8] [] p9) pos) (tAsg (tBM X.K "list" rPopAt (tOp (rIx X.K) (tVar i) (tC (.int 0))) (tCons (tC (.int 0)) tNil)) (gSub (tVar i) (tC (.int 1)) rSetL)) := by
      exact ps_asg (pe_bm PySem.F.plainAttrs_list PySem.F.slot_list_pop PySem.F.type_list_pop mt_popAt (pe_ix (ix_G rfl) (pv _) pe_int (fun _ _ => rfl)) (pa_cons pe_int pa_nil)) (pg_sub (pv _) pe_int set_list)) :
    DS K (DrW d a b) Wx X (.Assign [.Subscript (.Name x p1) (.Constant (.int 1) j1 p2) p3] (.Call (.Attribute (.Subscript (.Name x p4) (.Constant (.int 0) j2 p5) p6) "pop" p7) [.Constant (.int 0) j3 p8] [] p9) pos)
      (tAsg (tBM K "list" rPopAt (tOp (rIx K) (tVar i) (tC (.int 0))) (tCons (tC (.int 0)) tNil)) (gSub (tVar i) (tC (.int 1)) rSetL)) (mDrPop d a b i) := by
  refine ⟨by rw [← c.hK]; exact hps, fun G0 H0 σ ρ G H s Dn F h => ?_⟩
  unfold mDrPop at h
  split at h
  · rename_i hi
    obtain ⟨xs, n, zs, k, st⟩ := s
    dsimp only at h
    cases xs with
    | nil => exact (show False from h).elim
    | cons y ys =>
      have ok := F.fm.ok
      have ed := isDr_at F.fm hi
      refine ⟨.ref d, ed, dr_at F.fm (v := .ref a) rfl ⟨.inl ⟨rfl, _, .inl (.inl ok.1.2.1)⟩, a, _, 0, 0, .int y, rfl, rfl, ok.1.2.1, by decide, by decide, (ixN_seq (j := 0) (by simp [ixN])).1, rfl, ?_⟩⟩
      have hda : (upd H a (.lst (((y :: ys).map V.int).eraseIdx 0))) d = some (.lst [.ref a, .int n, .ref b, .int k]) := by
        rw [upd_ne ok.2.1]; exact ok.1.1
      refine ⟨.ref d, ed, d, _, 1, 1, rfl, rfl, hda, rfl, ?_⟩
      have wgd := F.fm.wg d (.inl rfl)
      have wga := F.fm.wg a (.inr (.inl rfl))
      have t : Tr (DrW d a b).W G H G (upd (upd H a (.lst (ys.map V.int))) d (.lst [.ref a, .int y, .ref b, .int k])) := by
        refine ⟨Sm.refl _, (F.fm.gh.upd wga).upd wgd, fun c e => .inl e, fun c u w m e => ?_, fun c e => ?_, fun c u v e => ?_⟩
        · rw [upd_ne (fun z => w (.inl z)), upd_ne (fun z => w (.inr (.inl z)))]; exact e
        · by_cases hc : c = d
          · subst hc; rw [upd_same] at e; cases e
          · rw [upd_ne hc] at e
            by_cases hc2 : c = a
            · subst hc2; rw [upd_same] at e; cases e
            · rw [upd_ne hc2] at e; exact e
        · rw [upd_ne (fun z => by subst z; rw [ok.1.1] at e; cases e), upd_ne (fun z => by subst z; rw [ok.1.2.1] at e; cases e)]; exact e
      refine h σ G _ (Sm.refl _) (F.go t ⟨⟨upd_same, ?_, ?_⟩, ok.2.1, ok.2.2.1, ok.2.2.2.1, (ok.2.2.2.2.off wga).off wgd⟩)
      · rw [upd_ne (Ne.symm ok.2.1), upd_same]; rfl
      · rw [upd_ne (Ne.symm ok.2.2.1), upd_ne (Ne.symm ok.2.2.2.1)]; exact ok.1.2.2
  · exact (show False from h).elim
end
end Mr
namespace Mr
open PySem PySem.Spec PyProof.Rows L2 RZ
def putP {β : Type} (kvs : List (Key × β)) (k : Key) (v : β) : List (Key × β) := if (kvs.any fun kv => decide (kv.1 = k)) = true then kvs.map (fun kv => if kv.1 = k then (kv.1, v) else kv) else kvs ++ [(k, v)]
def valP {β : Type} (kvs : List (Key × β)) (k : Key) : Option β := (kvs.find? fun kv => decide (kv.1 = k)).map (·.2)
def toKey : D → Option Key
  | .int i => some (.inl i)
  | .str x => some (.inr x)
  | _ => none
section
variable {K : PySem.W.Frag} {O : Wo} {Wx : WX} {X : Cx} {G0 : Gh} {H0 : Hp} {G : Gh} {H : Hp} {G1 : Gh} {H1 : Hp} {σ : L2.St} {ρ : Ev} {s s1 : O.S}
theorem Rep.key {v : V} {d : D} {k : Key} (r : Rep K G v d) (h : toKey d = some k) : v = kV k := by
  cases r <;> cases h <;> rfl
theorem RepK.any {vs : List (Key × V)} {ds : List (Key × D)} (r : RepK K G vs ds) (k : Key) : (vs.any fun kv => decide (kv.1 = k)) = ds.any fun kv => decide (kv.1 = k) := by
  induction vs generalizing ds with
  | nil => cases r; rfl
  | cons p vs ih =>
    cases r with
    | cons h r => rw [List.any_cons, List.any_cons, ih r]
theorem RepK.mapK {v : V} {d : D} (q : Rep K G v d) (k : Key) : ∀ {vs : List (Key × V)} {ds : List (Key × D)}, RepK K G vs ds → RepK K G (vs.map (fun kv => if kv.1 = k then (kv.1, v) else kv)) (ds.map (fun kv => if kv.1 = k then (kv.1, d) else kv))
  | _, _, .nil => .nil
  | (f, _) :: _, _, .cons h r => by
    rw [List.map_cons, List.map_cons]
    by_cases e : f = k
    · subst e
      simp only [if_true]
      exact .cons q (r.mapK q f)
    · simp only [e, if_false]
      exact .cons h (r.mapK q k)
theorem RepK.append : ∀ {a b : List (Key × V)} {c d : List (Key × D)}, RepK K G a c → RepK K G b d → RepK K G (a ++ b) (c ++ d)
  | _, _, _, _, .nil, r => r
  | _, _, _, _, .cons h r, q => .cons h (r.append q)
theorem RepK.put {v : V} {d : D} {k : Key} {vs : List (Key × V)} {ds : List (Key × D)} (r : RepK K G vs ds) (q : Rep K G v d) : RepK K G (putK vs k v) (putP ds k d) := by
  unfold putK putP
  rw [r.any k]
  split
  · exact r.mapK q k
  · exact r.append (.cons q .nil)
theorem RepK.val {vs : List (Key × V)} {ds : List (Key × D)} {k : Key} {d : D} (r : RepK K G vs ds) (h : valP ds k = some d) : ∃ v, valV vs k = some v ∧ Rep K G v d := by
  induction vs generalizing ds with
  | nil => cases r; cases h
  | cons p vs ih =>
    cases r with
    | @cons f v e vs ds q r =>
      unfold valP at h
      rw [List.find?_cons] at h
      unfold valV
      rw [List.find?_cons]
      by_cases hf : f = k
      · subst hf
        simp only [decide_true] at h ⊢
        cases h
        exact ⟨v, rfl, q⟩
      · simp only [hf, decide_false] at h ⊢
        exact ih r h
theorem RepK.length {vs : List (Key × V)} {ds : List (Key × D)} (r : RepK K G vs ds) : vs.length = ds.length := by
  induction vs generalizing ds with
  | nil => cases r; rfl
  | cons p vs ih =>
    cases r with
    | cons q r => rw [List.length_cons, List.length_cons, ih r]
abbrev MP (O : Wo) := Ev → O.S → R O.S (List (D × D))
def pairR (K : PySem.W.Frag) (G : Gh) : List (V × V) → List (D × D) → Prop
  | [], [] => True
  | (x, y) :: ps, (a, b) :: ds => Rep K G x a ∧ Rep K G y b ∧ pairR K G ps ds
  | _, _ => False
theorem pairR.mono (e : Sm G G1) : ∀ {ps : List (V × V)} {ds : List (D × D)}, pairR K G ps ds → pairR K G1 ps ds
  | [], [], _ => trivial
  | (x, y) :: ps, (a, b) :: ds, h => ⟨h.1.mono e, h.2.1.mono e, pairR.mono e h.2.2⟩
  | [], _ :: _, h => h.elim
  | _ :: _, [], h => h.elim
def SndP (K : PySem.W.Frag) (O : Wo) (Wx : WX) (t : List (TE × TE)) (m : MP O) : Prop := ∀ σ ρ H0 G H s Q, Fm K O H0 σ ρ G H s → Pst K O Wx σ G H (pairR K) (m ρ s) Q → tPairs t σ H Q
structure DPs (K : PySem.W.Frag) (O : Wo) (Wx : WX) (X : Cx) (pos : Pos) (ks : List (Option Expr)) (vs : List Expr) (t : List (TE × TE)) (m : MP O) : Prop where
  hK : X.K = K
  tk : Takes X Wx
  pe : PPs X pos ks vs t
  sn : SndP K O Wx t m
end
end Mr
namespace Mr
open PySem PySem.Spec PyProof.Rows L2 RZ
section
variable {K : PySem.W.Frag} {O : Wo} {Wx : WX} {X : Cx} {G0 : Gh} {H0 : Hp} {G : Gh} {H : Hp} {G1 : Gh} {H1 : Hp} {σ : L2.St} {ρ : Ev} {s s1 : O.S}
def asSeq : D → Option (List D)
  | .lst xs => some xs
  | .tup xs => some xs
  | _ => none
def iSeq (K : PySem.W.Frag) (tl : TE) : TI := fun σ H R => tl σ H fun x H1 => ∃ a, x = .ref a ∧ (((∃ xs, SqL K H1 a xs) ∧ R (Itl K a) H1) ∨ ((∃ xs, SqT K H1 a xs) ∧ R (Itt K a) H1))
theorem pi_seq {tg l : Expr} {tl : TE} (hl : PE X l tl) : PI X tg l (iSeq X.K tl) := by
  refine ⟨fun pins s σ H R I h => ?_⟩
  refine thn (hl.run pins s σ H _ I h) fun v s1 ⟨x, H1, I1, r1, q1⟩ => ?_
  obtain ⟨a, e, q1⟩ := q1
  subst e
  cases r1
  rcases q1 with ⟨⟨xs, hq⟩, q⟩ | ⟨⟨xs, hq⟩, q⟩
  · obtain ⟨its, rv, p, hz⟩ := I1.list hq
    refine wpAny_pyIter_list p.isList ?_
    refine ⟨s1.heap.objs.size, [s1.heap.objs.size], _, _, H1, rfl, I1.kept (t' := s1.toks) fun b o e => Heap.get?_push_of_some _ e, turn_list a _, ⟨_, Heap.get?_push_size _ rfl, rfl, rfl⟩, fun b hb => ?_, q⟩
    have e : b = s1.heap.objs.size := by simpa using hb
    subst e
    exact I1.fpOk (Nat.le_refl _) (I1.hok.fresh (Nat.le_refl _))
  · obtain ⟨its, rv, p, hz⟩ := I1.tuple hq
    refine wpAny_pyIter_tuple (show s1.heap.IsTuple a its.toArray from p) ?_
    refine ⟨s1.heap.objs.size, [s1.heap.objs.size], _, _, H1, rfl, I1.kept (t' := s1.toks) fun b o e => Heap.get?_push_of_some _ e, turn_tuple a _, ⟨_, Heap.get?_push_size _ rfl, rfl, rfl⟩, fun b hb => ?_, q⟩
    have e : b = s1.heap.objs.size := by simpa using hb
    subst e
    exact I1.fpOk (Nat.le_refl _) (I1.hok.fresh (Nat.le_refl _))
def mItS (O : Wo) (m : ME O) : MI O := fun ρ s => (m ρ s).bind fun x s1 => R.lift (asSeq x) s1
theorem di_seq {tg e : Expr} {te : TE} {me : ME O} (he : DE K O Wx X e te me) : DI K O Wx X tg e (iSeq K te) (mItS O me) := by
  refine ⟨by have := he.hK; subst this; exact pi_seq he.pe, fun σ ρ H0 G H s Q F h => ?_⟩
  refine he.sn σ ρ H0 G H s _ F (pst_bind h fun dx s1 _ x G1 H1 t1 k1 r1 h1 => ?_)
  cases r1 with
  | lst hs r => exact ⟨_, rfl, .inl ⟨⟨_, t1.gh.seq hs⟩, h1 _ G1 H1 (.refl t1.gh) k1 (it_list hs r)⟩⟩
  | tup hs r => exact ⟨_, rfl, .inr ⟨⟨_, t1.gh.seqT hs⟩, h1 _ G1 H1 (.refl t1.gh) k1 (it_tup hs r)⟩⟩
  | _ => exact (show False from h1).elim
structure GC (K : PySem.W.Frag) (mg : Str → Option Value) (x : Str) (v : V) (d : D) : Prop where
  ex : ∃ u, mg x = some u ∧ RelV v u ∧ ∀ G, Rep K G v d
theorem GC.de {x : Str} {v : V} {d : D} {pos : Pos} (h : GC K X.mg x v d) (c : Cn K Wx X) (hg : Gl X x := by rfl) (hdb : (x == ("__debug__" : Str)) = false := by decide) : DE K O Wx X (.Name x pos) (tC v) (mC O d) := by
  obtain ⟨u, hm, r, q⟩ := h.ex
  exact de_glob c hm r q hg hdb
theorem Fo.never {P : Program} {w : World} {mg : Str → Option Value} {base : Heap} {k n : Nat} {x : Str} {f : Addr} {fd : FuncData} {ps : List Str} (hm : mg x = some (.ref f)) (kp : PySem.W.keepIn K (.ref f) = true) (b : Binds K fd ps []) (hn : ps.length = n) : Fo P w K mg base O k x n (fun _ _ => .bad) :=
  ⟨f, fd, ps, ⟨fun vs H Q E h => by rw [hn]; exact h.1, fun A outer s H args us vs Q E hr he hb hv h => by
    obtain ⟨_, G, ds, s0, _, _, _, _, q⟩ := h
    exact (show False from q).elim⟩, hm, kp, b⟩
def tEx {ι : Type} (u : ι → TS) : TS := fun D σ H => ∃ o, u o D σ H
theorem pss_ex {ι : Type} {sts : List Stmt} {u : ι → TS} (h : ∀ o, PSs X sts (u o)) : PSs X sts (tEx u) := ⟨fun pins s σ H D I q => by
  obtain ⟨o, q⟩ := q
  exact (h o).run pins s σ H D I q⟩
end
/-- the world in which nothing but the store is changed -/
abbrev W0 : Wo where
  S := List Ob
  W := fun _ => False
  ok := fun K s G H => StOk K G H s
  ec := fun _ _ _ => False
  sf := fun _ => True
  st := fun s => s
  wi := fun _ l => l
  loc := fun K s G H G' H' e nm h k => k.loc e nm fun a w => h a (.inr w)
  dom := fun _ _ _ _ _ _ w => w.elim
  sto := fun _ _ _ _ k => k
  stu := fun _ _ _ _ _ _ _ _ _ q => q
/-- all that stands in H is known for good -/
def gf (H : Hp) : Gh := fun a => (H a).map .fro
theorem gf_some {H : Hp} {a : Addr} {o : HO} : gf H a = some (.fro o) ↔ H a = some o := by
  unfold gf
  cases H a <;> simp
theorem gf_mk {H : Hp} {a : Addr} {n : Nat} : gf H a ≠ some (.mk n) := by
  unfold gf
  cases H a <;> simp
theorem gf_Mk {H : Hp} {a : Addr} {n : Nat} : ¬ Mkk (gf H) a n := by
  rintro (h | ⟨o, h⟩)
  · exact gf_mk h
  · unfold gf at h
    cases e : H a <;> simp [e] at h
theorem gf_none {H : Hp} {a : Addr} : H a = none → gf H a = none := by
  intro h
  unfold gf
  rw [h]
  rfl
theorem fr_gf {H : Hp} : fr (gf H) = H := by
  funext a
  unfold fr gf
  cases H a <;> rfl
theorem gf_sh {H H1 : Hp} (e : Same H H1) : Sh (gf H) H1 := fun b u h => by
  cases u with
  | fro o => exact .of (e b o (gf_some.mp h))
  | mk n => exact absurd h gf_mk
  | mkf n o => exact absurd (.inr ⟨o, h⟩) gf_Mk
theorem gf_st {K : PySem.W.Frag} {H H1 : Hp} : StOk K (gf H) H1 [] := ⟨fun n o h => by simp at h, fun a n h => absurd h gf_Mk, fun a b n h => absurd h gf_Mk⟩
def DrRaw (d a b : Addr) (s : Dr) (H : Hp) : Prop := (H d = some (.lst [.ref a, .int s.n, .ref b, .int s.k]) ∧ H a = some (.lst (s.xs.map V.int)) ∧ H b = some (.lst (s.zs.map V.int))) ∧ d ≠ a ∧ d ≠ b ∧ a ≠ b
/-- the promise of _law_draws: a new source -/
def spDraws (K : PySem.W.Frag) : Sp := fun vs H Q _ => ∃ (l : Addr) (ns : List Int), vs = [.ref l] ∧ SqL K H l (ns.map V.int) ∧ ns.length ≤ 1000 ∧
  ∀ (H' : Hp) (d a b : Addr), Same H H' → H d = none → H a = none → H b = none → DrRaw d a b ⟨ns.filter (fun n => decide (10 ^ 18 ≤ n)), 0, ns.filter (fun n => decide (n < 10 ^ 18)), 0, []⟩ H' → Q (.ref d) H'
section
variable {K : PySem.W.Frag}
theorem lc_filter {f : Nat} {mt : MT W0} {p : Int → Bool} {ρ : Ev} (hf : f < ρ.length) (hm : ∀ n : Int, mt (ρ.set f (.sh (.int n))) [] = .ok (p n) []) : ∀ (ns : List Int) (acc : List D), acc.length + ns.length ≤ 1000 →
    lcL W0.S (fName f) mt (mVar W0 f) ρ (ns.map D.int) acc [] = .ok (acc ++ (ns.filter p).map D.int) []
  | [], acc, _ => by simp [lcL]
  | n :: ns, acc, h => by
    rw [List.length_cons] at h
    rw [List.map_cons]
    simp only [lcL, fName, hm]
    cases hp : p n with
    | true =>
      have hv : mVar W0 f (ρ.set f (.sh (.int n))) [] = .ok (.int n) [] := by
        unfold mVar
        rw [List.getElem?_set_self hf]
      dsimp only
      rw [hv]
      dsimp only
      rw [if_pos (by omega), lc_filter hf hm ns (acc ++ [D.int n]) (by simp; omega)]
      simp [List.filter_cons, hp]
    | false =>
      dsimp only
      rw [lc_filter hf hm ns acc (by omega)]
      simp [List.filter_cons, hp]
/-- [[..], 0, [..], 0] -/
theorem draws_read {t1 t2 : TE} {m1 m2 : MA W0} {ns : List Int} {l : Addr} {H : Hp} {Q : VK} {E : XK} {σ : L2.St} {Wx : WX} (hlen : σ.length = 2) (h1 : SndN K W0 Wx t1 m1) (h2 : SndN K W0 Wx t2 m2) (es : σ[0]? = some (some (.ref l))) (hs : SqL K H l (ns.map V.int))
    (e1 : m1 [.sh (.lst (ns.map D.int)), .no] [] = .ok ((ns.filter (fun n => decide (10 ^ 18 ≤ n))).map D.int) []) (e2 : m2 [.sh (.lst (ns.map D.int)), .no] [] = .ok ((ns.filter (fun n => decide (n < 10 ^ 18))).map D.int) [])
    (q : ∀ (H' : Hp) (d a b : Addr), Same H H' → H d = none → H a = none → H b = none → DrRaw d a b ⟨ns.filter (fun n => decide (10 ^ 18 ≤ n)), 0, ns.filter (fun n => decide (n < 10 ^ 18)), 0, []⟩ H' → Q (.ref d) H') :
    tRet (tLst (tCons t1 (tCons (tC (.int 0)) (tCons t2 (tCons (tC (.int 0)) tNil))))) { nx := fun _ H' => Q .non H', rt := Q } σ H := by
  have F : Fm K W0 H σ [.sh (.lst (ns.map D.int)), .no] (gf H) H [] := by
    refine ⟨gf_sh (Same.refl _), fun _ w => w.elim, gf_st, hlen, fun i o x a b => ?_, fun i j p x y hij a b c => ?_⟩
    · match i, b with
      | 0, b =>
        cases b
        rw [es] at a
        cases a
        exact ⟨_, rfl, .lst (by rw [fr_gf]; exact hs) (.ints ns)⟩
      | 1, b => cases b; trivial
      | _ + 2, b => simp at b
    · match i, a with
      | 0, a => cases a; cases c
      | 1, a => cases a; cases c
      | _ + 2, a => simp at a
  refine h1 σ _ H (gf H) H [] _ F ?_
  rw [e1]
  intro p vs G1 H1 t1 k1 np gp hp r1
  have ev1 := r1.of_ints
  subst ev1
  have F1 := F.tr t1 k1
  refine h2 σ _ H G1 H1 [] _ F1 ?_
  rw [e2]
  intro p2 vs2 G2 H2 t2 _ np2 gp2 hp2 r2
  have ev2 := r2.of_ints
  subst ev2
  have hp' : H2 p = some (.lst ((ns.filter (fun n => decide (10 ^ 18 ≤ n))).map V.int)) := t2.kp _ _ (fun z => z) (fun n => by rw [gp]; simp) hp
  refine ⟨Nat.le_trans (by decide : 4 ≤ 1000) (by decide), fun d nd => ?_⟩
  have n1 : H1 d = none := t2.dm d nd
  have dp : d ≠ p := fun e => by rw [e, hp'] at nd; cases nd
  have dp2 : d ≠ p2 := fun e => by rw [e, hp2] at nd; cases nd
  have pp : p ≠ p2 := fun e => by rw [← e, hp] at np2; cases np2
  refine q _ d p p2 (fun b o e => ?_) (t1.dm d n1) np (t1.dm p2 np2) ⟨⟨upd_same, by rw [upd_ne dp.symm]; exact hp', by rw [upd_ne dp2.symm]; exact hp2⟩, dp, dp2, pp⟩
  have e2 : H2 b = some o := t2.kp b o (fun z => z) (fun n q => by rw [t1.gg b _ (gf_some.mpr e)] at q; cases q) (t1.kp b o (fun z => z) (fun n q => gf_mk q) e)
  rw [upd_ne (ne_of_none e2 nd)]
  exact e2
end
end Mr
namespace Mr
open PySem PySem.Spec PyProof.Rows L2 RZ
theorem draws_m1 {ns : List Int} (h : ns.length ≤ 1000) : mLc W0 (mItS W0 (mVar W0 0)) (fName 1) (mTest W0 (mBin W0 dGe (mVar W0 1) (mBin W0 dPow (mC W0 (.int 10)) (mC W0 (.int 18))))) (mVar W0 1) [1] [.sh (.lst (ns.map D.int)), .no] [] = .ok ((ns.filter (fun n => decide (10 ^ 18 ≤ n))).map D.int) [] := by
  have e := lc_filter (f := 1) (mt := mTest W0 (mBin W0 dGe (mVar W0 1) (mBin W0 dPow (mC W0 (.int 10)) (mC W0 (.int 18))))) (p := fun n => decide (10 ^ 18 ≤ n)) (ρ := [.sh (.lst (ns.map D.int)), .no]) (by simp) (fun n => by
    simp [mTest, mBin, mVar, mC, dPow, dInt2, CPowG, dGe, dBool]) ns [] (by simpa using h)
  rw [List.nil_append] at e
  exact e
theorem draws_m2 {ns : List Int} (h : ns.length ≤ 1000) : mLc W0 (mItS W0 (mVar W0 0)) (fName 1) (mTest W0 (mBin W0 dLt (mVar W0 1) (mBin W0 dPow (mC W0 (.int 10)) (mC W0 (.int 18))))) (mVar W0 1) [1] [.sh (.lst (ns.map D.int)), .no] [] = .ok ((ns.filter (fun n => decide (n < 10 ^ 18))).map D.int) [] := by
  have e := lc_filter (f := 1) (mt := mTest W0 (mBin W0 dLt (mVar W0 1) (mBin W0 dPow (mC W0 (.int 10)) (mC W0 (.int 18))))) (p := fun n => decide (n < 10 ^ 18)) (ρ := [.sh (.lst (ns.map D.int)), .no]) (by simp) (fun n => by
    simp [mTest, mBin, mVar, mC, dPow, dInt2, CPowG, dLt, dBool]) ns [] (by simpa using h)
  rw [List.nil_append] at e
  exact e
/-- the frame of a law behind its first line -/
theorem law_fm {K : PySem.W.Frag} {ns : List Int} {l d a b : Addr} {H H1 : Hp} {s0 : Dr} {n : Nat} {σ : L2.St} (hS : SqL K H l (ns.map V.int)) (sm : Same H H1) (nd : H d = none) (na : H a = none) (nb : H b = none) (ok : DrRaw d a b s0 H1) (e9 : s0.st = []) (hl : σ.length = n + 2) (e0 : σ[0]? = some (some (.ref l))) (e1 : σ[1]? = some (some (.ref d))) :
    Fs K (DrW d a b) (gf H) H1 σ (.sh (.lst (ns.map D.int)) :: .sh (.ref d) :: List.replicate n .no) (gf H) H1 s0 := by
  refine ⟨⟨gf_sh sm, fun p w => ?_, ⟨ok.1, ok.2.1, ok.2.2.1, ok.2.2.2, by rw [e9]; exact gf_st⟩, by simp [hl], fun i o x u v => ?_, fun i j p x y hij u v c => ?_⟩, .refl (gf_sh sm)⟩
  · rcases w with rfl | rfl | rfl
    · exact gf_none nd
    · exact gf_none na
    · exact gf_none nb
  · match i, v with
    | 0, v =>
      cases v
      rw [e0] at u
      cases u
      exact ⟨_, rfl, .lst (by rw [fr_gf]; exact hS) (.ints ns)⟩
    | 1, v =>
      cases v
      rw [e1] at u
      cases u
      exact ⟨_, rfl, .ref d⟩
    | i + 2, v =>
      have := List.mem_of_getElem? (show (List.replicate n Sl.no)[i]? = some x from v)
      rw [List.mem_replicate] at this
      rw [this.2]
      trivial
  · match i, u with
    | 0, u => cases u; cases c
    | 1, u => cases u; cases c
    | i + 2, u =>
      have := List.mem_of_getElem? (show (List.replicate n Sl.no)[i]? = some x from u)
      rw [List.mem_replicate] at this
      rw [this.2] at c
      cases c
def spLaw (K : PySem.W.Frag) : Sp := fun vs H Q _ => ∃ (l : Addr) (ns : List Int), vs = [.ref l] ∧ SqL K H l (ns.map V.int) ∧ ns.length ≤ 63 ∧ ∀ H', Q (.bl true) H'
end Mr
namespace Mr
open PySem PySem.Spec PyProof.Rows L2
theorem noCX {P : Program} {w : World} {O : List Env} {H : Hp} {s : Shared} {e : Value} {s' : Shared} (z : L2.CX P w O H s (fun _ _ _ => False) e s') : False := by
  unfold L2.CX at z
  simp at z
end Mr
namespace Mr
open PySem PySem.Spec PyProof.Rows L2 RZ
theorem eAdd (i j : Int) : dAdd (.int i) (.int j) = some (.int (i + j)) := rfl
theorem eSub (i j : Int) : dSub (.int i) (.int j) = some (.int (i - j)) := rfl
theorem eMul (i j : Int) : dMul (.int i) (.int j) = if CMulG i j then some (.int (i * j)) else none := rfl
theorem eDiv (i j : Int) : dDiv (.int i) (.int j) = if CDivG i j then some (.int (i.fdiv j)) else none := rfl
theorem eMod (i j : Int) : dMod (.int i) (.int j) = if CModG i j then some (.int (i.fmod j)) else none := rfl
theorem ePow (i j : Int) : dPow (.int i) (.int j) = if CPowG i j then some (.int (i ^ j.toNat)) else none := rfl
theorem eNeg (i : Int) : dNeg (.int i) = some (.int (-i)) := rfl
theorem eLt (i j : Int) : dLt (.int i) (.int j) = some (.bl (decide (i < j))) := rfl
theorem eLe (i j : Int) : dLe (.int i) (.int j) = some (.bl (decide (i ≤ j))) := rfl
theorem eGt (i j : Int) : dGt (.int i) (.int j) = some (.bl (decide (j < i))) := rfl
theorem eGe (i j : Int) : dGe (.int i) (.int j) = some (.bl (decide (j ≤ i))) := rfl
theorem eEqI (i j : Int) : dEq (.int i) (.int j) = some (.bl (decide (i = j))) := rfl
theorem eNeI (i j : Int) : dNe (.int i) (.int j) = some (.bl (!decide (i = j))) := rfl
theorem eEqS (i j : Str) : dEq (.str i) (.str j) = some (.bl (decide (i = j))) := rfl
theorem eEqB (i j : Bool) : dEq (.bl i) (.bl j) = some (.bl (decide (i = j))) := rfl
theorem eNeB (i j : Bool) : dNe (.bl i) (.bl j) = some (.bl (!decide (i = j))) := rfl
theorem eIdxL (xs : List D) (i : Int) : dIdx (.lst xs) (.int i) = atI xs i := rfl
theorem eIdxT (xs : List D) (i : Int) : dIdx (.tup xs) (.int i) = atI xs i := rfl
theorem eBool (b : Bool) : dBool (.bl b) = some b := rfl
theorem eAbs (i : Int) : dAbs [.int i] = some (.int (if i < 0 then -i else i)) := rfl
theorem lg_of {n k : Nat} (h : n < 2 ^ k) (hk : 0 < k) : n.log2 < k := by
  by_cases e : n = 0
  · subst e; rw [Nat.log2_zero]; exact hk
  · exact (Nat.log2_lt e).mpr h
theorem lg4 {x : Int} (h1 : -(10 ^ 200) < x) (h2 : x < 10 ^ 200) : x.natAbs.log2 < 700 := by
  refine lg_of (k := 700) ?_ (by decide)
  have e : (10 : Int) ^ 200 = ((10 ^ 200 : Nat) : Int) := by decide +kernel
  have h3 : x.natAbs < 10 ^ 200 := by rw [e] at h1 h2; omega
  exact Nat.lt_trans h3 (by decide +kernel)
theorem mulG {i j : Int} (h1 : -(10 ^ 200) < i) (h2 : i < 10 ^ 200) (h3 : -(10 ^ 200) < j) (h4 : j < 10 ^ 200) : CMulG i j := ⟨Nat.lt_trans (lg4 h1 h2) (by decide), Nat.lt_trans (lg4 h3 h4) (by decide)⟩
theorem divG {i j : Int} (h0 : j ≠ 0) (h3 : -(10 ^ 200) < j) (h4 : j < 10 ^ 200) : CDivG i j := ⟨h0, Nat.lt_trans (lg4 h3 h4) (by decide)⟩
theorem atI_ok {α : Type} {xs : List α} {i : Int} (h0 : 0 ≤ i) (h1 : i < xs.length) : ∃ x, atI xs i = some x ∧ x ∈ xs := by
  unfold atI ixN
  rw [if_pos h0, if_pos h1]
  have h2 : i.toNat < xs.length := by omega
  exact ⟨xs[i.toNat], by simp [List.getElem?_eq_getElem h2], List.getElem_mem h2⟩
theorem isDr0 (d : Addr) (ρ : Ev) : isDr d 0 (.sh (.ref d) :: ρ) = true := by simp [isDr]
/-- what every law keeps of its source: b bounds the number of draws -/
structure Ok (b : Int) (s : Dr) : Prop where
  xs : ∀ x ∈ s.xs, 0 < x
  n : 0 ≤ s.n
  k : 0 ≤ s.k
  kb : s.k ≤ b
theorem Ok.mono {b c : Int} {s : Dr} (h : Ok b s) (hc : b ≤ c) : Ok c s := ⟨h.xs, h.n, h.k, Int.le_trans h.kb hc⟩
theorem Ok.start (ns : List Int) : Ok 0 ⟨ns.filter (fun n => decide (10 ^ 18 ≤ n)), 0, ns.filter (fun n => decide (n < 10 ^ 18)), 0, []⟩ :=
  ⟨fun x hx => by have := (List.mem_filter.mp hx).2; simp at this; omega, Int.le_refl _, Int.le_refl _, Int.le_refl _⟩
end Mr
namespace Mr
open PySem PySem.Spec PyProof.Rows L2 RZ
structure IsC (K : PySem.W.Frag) (C : Addr) : Prop where
  cl : (PySem.W.clsIn K C).isSome = true
  ga : PySem.W.findIn K (.ref C) "__getattribute__" = some (some (.builtin "BaseException.__getattribute__"))
  gt : PySem.W.findIn K (.ref C) "__getattr__" = some none
  sb : PySem.W.subIn K (.ref C) (.type "BaseException") = some true
  ca : PySem.W.findIn K (.ref C) "__class__" = some (some (.builtin "object.__class__"))
  gs : PySem.W.specialIn K (.builtin "object.__class__") "__get__" = some (some (.builtin "getset_descriptor.__get__"))
  tk : PySem.W.takesIn K (.builtin "object.__class__") = some true
  mr : PySem.W.mroIn K C (.type "object") = some true
section
variable {K : PySem.W.Frag} {O : Wo} {Wx : WX} {X : Cx}
end
def spX (K : PySem.W.Frag) (O : Wo) (a : Addr) (cls : Value) (d : Option Addr) (m : Addr → List (Str × D) → O.S → R O.S D) : Sp := fun vs H Q E => vs = [.ref a] ∧ ∃ (G : Gh) (c : Addr) (fs : List (Str × D)) (xs : List (Str × V)) (s : O.S),
  cls = .ref c ∧ XdA H d xs ∧ RepF K G xs fs ∧ NwA O d ∧ Sh G H ∧ (∀ p, O.W p → G p = none) ∧ O.ok K s G H ∧ PstF K O G H (m c fs s) Q E
structure FoX (P : Program) (w : World) (K : PySem.W.Frag) (mg : Str → Option Value) (base : Heap) (O : Wo) (k : Nat) (x : Str) (m : Addr → List (Str × D) → O.S → R O.S D) : Prop where
  ex : ∃ f fd ps, ps.length = 1 ∧ (∀ (A : Around) (outer : List Env) (s : Shared) (H : Hp) (args : Args) (us : List Value) (vs : List V) (Q : VK) (E : XK) (a : Addr) (oe : Obj) (cls : Value) (d : Option Addr), L2H.RoomH k A → L2H.PinOk outer H s (a, oe) → Zc cls d oe → (∃ vs, oe.data = .fields vs) →
      Env0 P w K mg base A outer s H → BindsTo s fd args (ps.zip us) → Vals vs us → spX K O a cls d m vs H Q E → codeAny (model P w) A (.call (.ref f) args) (CR (L2.CX P w) outer P w H s Q E) s) ∧ mg x = some (.ref f) ∧ PySem.W.keepIn K (.ref f) = true ∧ Binds K fd ps []
section
variable {P : Program} {w : World} {K : PySem.W.Frag} {mg : Str → Option Value} {base : Heap} {O : Wo}
variable {X : Cx}
end
end Mr
namespace Mr
open PySem PySem.Spec PyProof.Rows L2 RZ
end Mr
namespace Mr
open PySem PySem.Spec PyProof.Rows L2
inductive Er where
  | ViewError | AxisError | LengthError | PositionError | OrderError | BroadcastError | StrideError | IndexRangeError | ShapeError | BufferMissing | CellError | CountError | NoSnapshot | OperatorError | FaultError | StepError | InputError | ParseError | SessionError
  deriving DecidableEq
inductive Cl where
  | Pages | Memory | Scope | PlainHouse | LateHouse | Run | Survey | Layout | Flat | Code | Translation | Session
  deriving DecidableEq
structure Ca where
  c : Er → Addr
  es : List Er
  L : Addr
  v : Addr
  k : Cl → Addr
structure Ad extends Ca where
  d : Addr
  a : Addr
  b : Addr
/-- which error class stands there -/
def Ca.cl (A : Ca) (x : Addr) : Option Er := A.es.find? fun e => decide (A.c e = x)
def Ca.t (A : Ca) (h : Er) (x : Addr) : Option Bool := (A.cl x).map fun e => decide (e = h)
def Ca.Inj (A : Ca) : Prop := ∀ e ∈ A.es, ∀ f ∈ A.es, A.c e = A.c f → e = f
end Mr
namespace S
open PySem PySem.Spec PyProof.Rows L2 Mr
abbrev O (A : Ad) : Wo := DrW A.d A.a A.b
theorem take_hw {d a b : Addr} : ∀ ρ s z s1, (mBin (DrW d a b) dMod (mDrI d a b 0 3) (mDrLen d a b 0 2)) ρ s = .ok z s1 → s1 = s := by
  intro ρ s z s1 h
  unfold mBin mDrI mDrLen drL at h
  by_cases hi : isDr d 0 ρ = true
  · simp [hi] at h
    cases hd : dMod (.int s.k) (.int s.zs.length) with
    | none => rw [hd] at h; cases h
    | some y => rw [hd] at h; cases h; rfl
  · simp [hi] at h
end S
namespace Mr
open PySem PySem.Spec PyProof.Rows L2 RZ
structure ClT (K : PySem.W.Frag) (mg : Str → Option Value) (x : Str) (C : Addr) (fs : List Str) : Prop where
  gC : mg x = some (.ref C)
  cl : Cls K C
  mks : PySem.W.makesIn K C = true
  kp : PySem.W.keepIn K (.ref C) = true
  no : ∀ f ∈ fs, NoAttr K C f
section
variable {K : PySem.W.Frag} {O : Wo} {Wx : WX} {X : Cx} {G : Gh}
theorem RepF.none : ∀ {a : List (Str × V)} {c : List (Str × D)} {f : Str}, RepF K G a c → c.lookup f = none → a.lookup f = none
  | _, _, f, .nil, _ => rfl
  | _, _, f, .cons (f := g) h r, e => by
    rw [List.lookup_cons] at e ⊢
    split at e
    · cases e
    · exact RepF.none r e
theorem RepF.length : ∀ {a : List (Str × V)} {c : List (Str × D)}, RepF K G a c → a.length = c.length
  | _, _, .nil => rfl
  | _, _, .cons h r => by rw [List.length_cons, List.length_cons, r.length]
def putD (f : Str) (v : D) : List (Str × D) → List (Str × D)
  | [] => [(f, v)]
  | (g, x) :: r => if g = f then (g, v) :: r else (g, x) :: putD f v r
theorem RepF.put {f : Str} {v : V} {d : D} (q : Rep K G v d) : ∀ {a : List (Str × V)} {c : List (Str × D)}, RepF K G a c → RepF K G (putF f v a) (putD f d c)
  | _, _, .nil => .cons q .nil
  | _, _, .cons (f := g) h r => by
    unfold putF putD
    split
    · exact .cons q r
    · exact .cons h (RepF.put q r)
structure FoM (P : Program) (w : World) (K : PySem.W.Frag) (mg : Str → Option Value) (base : Heap) (O : Wo) (C : Addr) (k : Nat) (x : Str) (n : Nat) (m : List D → O.S → R O.S D) : Prop where
  ex : ∃ f fd ps, FnOk P w K mg base (L2.CX P w) k f fd ps (spM K O n m) ∧ Meth K C x f ∧ Binds K fd ps []
section
variable {k : Nat} {C f : Addr} {fd : FuncData} {ps : List Str} {m : Str} {sp : Sp} {E : L2.St → XK} {o e : Expr} {es : List Expr} {ta : TE} {t : TA} {apos pos : Pos}
end
section
variable {C : Addr} {k j n : Nat} {x cx : Str} {fs : List Str} {m : List D → O.S → R O.S D} {o e : Expr} {es : List Expr} {to : TE} {ta : TA} {mo : ME O} {ma : MA O} {apos pos : Pos}
end
abbrev Wo.self (O : Wo) (x : Addr) : Wo := { O with sf := fun a => a = x }
/-- the promise of __init__ -/
def PstI (K : PySem.W.Frag) (O : Wo) (C x dx : Addr) (G : Gh) (H1 : Hp) (r : R O.S (List (Str × D))) (Q : VK) (E : XK) : Prop :=
  match r with
  | .ok fs s' => ∀ vs G' H', Tr O.W G H1 G' H' → O.ok K s' G' H' → H' x = some (.ins C dx vs) → RepF K G' vs fs → G' x = none → Q .non H'
  | .err c fs s' => ∀ dd xs G' H', Tr O.W G H1 G' H' → O.ok K s' G' H' → XdA H' dd xs → NwA O dd → RepF K G' xs fs → E (.ref c) dd H'
  | .bad => False
def spI (K : PySem.W.Frag) (O : Wo) (C : Addr) (n : Nat) (m : List D → O.S → R O.S (List (Str × D))) : Sp := fun vs H Q E => ∃ (x dx : Addr) (ws : List V) (H1 : Hp) (G : Gh) (ds : List D) (s : O.S),
  vs = .ref x :: ws ∧ ws.length = n ∧ H = upd (upd H1 dx (.own x)) x (.ins C dx []) ∧ H1 x = none ∧ H1 dx = none ∧ dx ≠ x ∧ Sh G H1 ∧ (∀ a, O.W a → G a = none) ∧ O.ok K s G H1 ∧ Reps K G ws ds ∧ (∀ dx', PstI K O C x dx' G H1 (m ds s) Q E)
structure FoI (P : Program) (w : World) (K : PySem.W.Frag) (mg : Str → Option Value) (base : Heap) (O : Wo) (C : Addr) (k n : Nat) (m : List D → O.S → R O.S (List (Str × D))) : Prop where
  ex : ∃ f fd ps, FnOk P w K mg base (L2.CX P w) k f fd ps (spI K O C n m) ∧ Mk K C f ∧ Binds K fd ps []
end
section
variable {P : Program} {w : World} {K : PySem.W.Frag} {mg : Str → Option Value} {base : Heap} {O : Wo}
theorem spM_self {y : Addr} {n : Nat} {m : List D → O.S → R O.S D} {vs : List V} {H : Hp} {Q : VK} {E : XK} (h : spM K (O.self y) n m vs H Q E) : spM K O n m vs H Q E := by
  obtain ⟨hl, G, ds, s0, g, wg, ok, r, q⟩ := h
  refine ⟨hl, G, ds, s0, g, wg, ok, r, ?_⟩
  revert q
  unfold PstF
  cases m ds s0 <;> exact fun q => q
theorem Fo.self {k n : Nat} {x : Str} {m : List D → O.S → R O.S D} (F : Fo P w K mg base O k x n m) (y : Addr) : Fo P w K mg base (O.self y) k x n m := by
  obtain ⟨f, fd, ps, Fn, hm, kp, bi⟩ := F.ex
  exact ⟨f, fd, ps, Fn.imp fun vs H Q E q => spM_self q, hm, kp, bi⟩
theorem FoM.self {C : Addr} {k n : Nat} {x : Str} {m : List D → O.S → R O.S D} (F : FoM P w K mg base O C k x n m) (y : Addr) : FoM P w K mg base (O.self y) C k x n m := by
  obtain ⟨f, fd, ps, Fn, hm, bi⟩ := F.ex
  exact ⟨f, fd, ps, Fn.imp fun vs H Q E q => spM_self q, hm, bi⟩
end
end Mr
namespace Mr
open PySem PySem.Spec PyProof.Rows L2 RZ
section
variable {K : PySem.W.Frag} {O : Wo} {Wx : WX} {X : Cx}
theorem Fm.h0 {H0 H0' : Hp} {G : Gh} {H : Hp} {σ : L2.St} {ρ : Ev} {s : O.S} (f : Fm K O H0 σ ρ G H s) (h : ∀ p, H p ≠ none → H0 p = none → H0' p = none) : Fm K O H0' σ ρ G H s := by
  refine ⟨f.gh, f.wg, f.ok, f.len, fun i o x a b => ?_, f.ds⟩
  have q := f.sl i o x a b
  cases x with
  | no => trivial
  | sh d => exact q
  | own xs => obtain ⟨p, vs, e1, e2, e3, e4, e5, e6⟩ := q; exact ⟨p, vs, e1, e2, e3, e4, e5, h p (by rw [e2]; simp) e6⟩
  | ownD xs => obtain ⟨p, vs, e1, e2, e3, e4, e5, e6⟩ := q; exact ⟨p, vs, e1, e2, e3, e4, e5, h p (by rw [e2]; simp) e6⟩
  | ownI C xs => obtain ⟨p, dx, vs, e1, e2, e3, e4, e5, e6, e7⟩ := q; exact ⟨p, dx, vs, e1, e2, e3, e4, e5, h p (by rw [e2]; simp) e6, e7⟩
  | exc c fs => exact q
theorem Fm.off {H0 : Hp} {G : Gh} {H : Hp} {σ : L2.St} {ρ : Ev} {s : O.S} {p : Addr} {z z' : List V} (f : Fm K O H0 σ ρ G H s) (hD : H p = some (.lst z)) (h0 : H0 p ≠ none) (gD : G p = none) (nW : ¬ O.W p) : Fm K O H0 σ ρ G (upd H p (.lst z')) s := by
  have ne : ∀ {r : Addr}, H0 r = none → r ≠ p := fun {r} e q => h0 (by rw [← q]; exact e)
  refine ⟨f.gh.upd gD, f.wg, ok_off f.ok gD nW, f.len, fun i o x a b => ?_, f.ds⟩
  have q := f.sl i o x a b
  cases x with
  | no => trivial
  | sh d => exact q
  | own xs => obtain ⟨r, vs, e1, e2, e3, e4, e5, e6⟩ := q; exact ⟨r, vs, e1, by rw [upd_ne (ne e6)]; exact e2, e3, e4, e5, e6⟩
  | ownD xs => obtain ⟨r, vs, e1, e2, e3, e4, e5, e6⟩ := q; exact ⟨r, vs, e1, by rw [upd_ne (ne e6)]; exact e2, e3, e4, e5, e6⟩
  | ownI C xs => obtain ⟨r, dx, vs, e1, e2, e3, e4, e5, e6⟩ := q; exact ⟨r, dx, vs, e1, by rw [upd_ne (ne e6.1)]; exact e2, e3, e4, e5, e6⟩
  | exc c fs =>
    obtain ⟨a', dd, xs, e1, e2, e3, e4, e5⟩ := q
    exact ⟨a', dd, xs, e1, e2, e3.kp (fun d1 _ e3 => by rw [upd_ne (fun e => by rw [e, hD] at e3; cases e3)]; exact e3), e4, e5⟩
end
end Mr
namespace Mr
open PySem PySem.Spec PyProof.Rows L2 RZ
section
variable {prog : Program} {w : World} {A : Around} {E : Value → Shared → Prop} {s : Shared}
end
section
variable {K : PySem.W.Frag} {O : Wo} {Wx : WX} {X : Cx}
structure DLc2 (K : PySem.W.Frag) (O : Wo) (Wx : WX) (X : Cx) (elt tg iter tg1 iter1 : Expr) (ifs ifs1 : List Expr) (scope : Scope) (pos : Pos) (t : TE) (m : MA O) : Prop where
  dn : DN K O Wx X (.ListComp elt [⟨tg, iter, ifs, 0⟩, ⟨tg1, iter1, ifs1, 0⟩] scope pos) t m
  ps : ∀ (i : Nat) (y : Str) (py spos : Pos), X.N[i]? = some y → X.env.scope.names.lookup y = some .local → swapsWith (.ListComp elt [⟨tg, iter, ifs, 0⟩, ⟨tg1, iter1, ifs1, 0⟩] scope pos) (some (.Name y py)) spos.line X.env = pure true →
    PS X (.Assign [.Name y py] (.ListComp elt [⟨tg, iter, ifs, 0⟩, ⟨tg1, iter1, ifs1, 0⟩] scope pos) spos) (tAsg t (gName i))
def dGetK : D → D → Option D
  | .dct kds, k => match toKey k with
    | some k => valP kds k
    | none => none
  | _, _ => none
def dInK : D → D → Option D
  | k, .dct kds => match toKey k with
    | some k => some (.bl (valP kds k).isSome)
    | none => none
  | _, _ => none
def dNotInK : D → D → Option D
  | k, .dct kds => match toKey k with
    | some k => some (.bl (!(valP kds k).isSome))
    | none => none
  | _, _ => none
theorem DGet.r {H : Hp} {a : Addr} {kvs : List (Key × V)} {k : Key} (e : Rd H a (.dK kvs)) : DGet H a (kV k) (valV kvs k) := .inl ⟨kvs, k, e, rfl, rfl⟩
theorem RepK.val0 {G : Gh} {k : Key} : ∀ {vs : List (Key × V)} {ds : List (Key × D)}, RepK K G vs ds → valP ds k = none → valV vs k = none
  | _, _, .nil, _ => rfl
  | _, _, .cons (f := f) (v := v) (d := d) (vs := vs) (ds := ds) q r, h => by
    unfold valP at h
    unfold valV
    rw [List.find?_cons] at h ⊢
    by_cases hd : f = k
    · simp [hd] at h
    · simp only [decide_eq_false hd] at h ⊢
      exact RepK.val0 r h
theorem RepK.isSome {G : Gh} {vs : List (Key × V)} {ds : List (Key × D)} (r : RepK K G vs ds) (k : Key) : (valV vs k).isSome = (valP ds k).isSome := by
  cases e : valP ds k with
  | none => rw [r.val0 e]; rfl
  | some d => obtain ⟨v, e1, _⟩ := r.val e; rw [e1]; rfl
end
end Mr
namespace Mr
open PySem PySem.Spec PyProof.Rows L2 RZ
section
variable {K : PySem.W.Frag} {O : Wo} {Wx : WX} {X : Cx}
theorem sh_put {G : Gh} {H : Hp} {p : Addr} {o : HO} (g : Sh G H) : Sh (up G p o) (upd H p o) := fun b u e => by
  by_cases hb : b = p
  · subst hb; rw [up_same] at e; cases e; exact .of upd_same
  · rw [up_ne hb] at e; exact (g b u e).cong (upd_ne hb)
theorem Tr.lockN {W : Addr → Prop} {G : Gh} {H : Hp} {G' : Gh} {H' : Hp} {p : Addr} {o o' : HO} (t : Tr W G H G' H') (n : H p = none) (h : H' p = some o) (g : G' p = none) : Tr W G H (up G' p o') (upd H' p o') := by
  refine ⟨t.gg.trans (Sm.up g), sh_put t.gh, fun b e => ?_, fun b u w m e => by rw [upd_ne (ne_of_none e n)]; exact t.kp b u w m e, fun b e => ?_, fun b u v e => by rw [upd_ne (ne_of_none e n)]; exact t.fz b u v e⟩
  · by_cases hb : b = p
    · subst hb; exact .inr n
    · rw [up_ne hb] at e; exact t.gr b e
  · by_cases hb : b = p
    · subst hb; exact n
    · rw [upd_ne hb] at e; exact t.dm b e
section
variable {x : Str} {e : Expr} {te : TE} {me : ME O} {p1 pos : Pos} {j : Nat}
end
section
variable {x : Str} {p p1 pos : Pos}
end
section
variable {a b : Expr} {ta tb : TE} {ma mb : ME O} {pos : Pos} {j : Nat}
end
end
end Mr
namespace Mr
open PySem PySem.Spec PyProof.Rows L2 RZ
section
variable {K : PySem.W.Frag} {O : Wo} {Wx : WX} {X : Cx} {G0 : Gh} {H0 : Hp} {G : Gh} {H : Hp} {G1 : Gh} {H1 : Hp} {σ : L2.St} {ρ : Ev} {s s1 : O.S}
theorem newL {ds : List D} {vs : List V} {Q : VK} {p : Addr} (t1 : Tr O.W G H G1 H1) (k1 : O.ok K s1 G1 H1) (gh : Sh G1 H1) (h : PstN K O Wx σ G H (.ok ds s1) Q) (r : Reps K G1 vs ds) (np : H1 p = none) : Q (.ref p) (upd H1 p (.lst vs)) := by
  refine h p vs G1 (upd H1 p (.lst vs)) (t1.mut (t1.dm p np) (gh.free np)) ?_ (t1.dm p np) (gh.free np) upd_same r
  exact ok_off k1 (gh.free np) (nW_of k1 np)
end
end Mr
namespace Mr
open PySem PySem.Spec PyProof.Rows L2 RZ
section
variable {K : PySem.W.Frag} {O : Wo} {Wx : WX} {X : Cx} {G0 : Gh} {H0 : Hp} {G : Gh} {H : Hp} {G1 : Gh} {H1 : Hp} {σ : L2.St} {ρ : Ev} {s s1 : O.S}
/-- a rule of the kit does what f says -/
def OwnR (K : PySem.W.Frag) (r : V → List V → Hp → VK → Prop) (f : List D → List D → Option (D × List D)) : Prop :=
  ∀ {G : Gh} {H : Hp} {l : Addr} {vs ws : List V} {xs ds ys : List D} {d : D} {Q : VK}, Reps K G vs xs → Reps K G ws ds → f xs ds = some (d, ys) → H l = some (.lst vs) →
    (∀ y vs', Rep K G y d → Reps K G vs' ys → Q y (upd H l (.lst vs'))) → r (.ref l) ws H Q
end
end Mr
namespace Mr
open PySem PySem.Spec PyProof.Rows L2 RZ
section
variable {K : PySem.W.Frag} {O : Wo} {Wx : WX} {X : Cx} {G0 : Gh} {H0 : Hp} {G : Gh} {H : Hp} {G1 : Gh} {H1 : Hp} {σ : L2.St} {ρ : Ev} {s s1 : O.S}
def PstFN (K : PySem.W.Frag) (O : Wo) (G : Gh) (H : Hp) (r : R O.S (List D)) (Q : VK) (E : XK) : Prop :=
  match r with
  | .ok ds s' => ∀ p vs G' H', Tr O.W G H G' H' → O.ok K s' G' H' → H p = none → G' p = none → H' p = some (.lst vs) → Reps K G' vs ds → Q (.ref p) H'
  | .err c fs s' => ∀ dd xs G' H', Tr O.W G H G' H' → O.ok K s' G' H' → XdA H' dd xs → NwA O dd → RepF K G' xs fs → E (.ref c) dd H'
  | .bad => False
def spN (K : PySem.W.Frag) (O : Wo) (n : Nat) (m : List D → O.S → R O.S (List D)) : Sp := fun vs H Q E => vs.length = n ∧ ∃ G ds s, Sh G H ∧ (∀ a, O.W a → G a = none) ∧ O.ok K s G H ∧ Reps K G vs ds ∧ PstFN K O G H (m ds s) Q E
theorem pstN_tr {r : R O.S (List D)} {Q : VK} (t : Tr O.W G H G1 H1) (h : PstN K O Wx σ G H r Q) : PstN K O Wx σ G1 H1 r Q := by
  cases r with
  | ok ds s' => exact fun p vs G' H' t' k n g e r => h p vs G' H' (t.trans t') k (t.dm p n) g e r
  | err c fs s' => exact fun dd xs G' H' t' k e n r => h dd xs G' H' (t.trans t') k e n r
  | bad => exact h
theorem pstN_bind {α β : Type} {rel : Gh → β → α → Prop} {r : R O.S α} {f : α → O.S → R O.S (List D)} {Q : VK} {Q1 : β → Hp → Prop} (h : PstN K O Wx σ G H (r.bind f) Q)
    (k : ∀ a s1, r = .ok a s1 → ∀ v G1 H1, Tr O.W G H G1 H1 → O.ok K s1 G1 H1 → rel G1 v a → PstN K O Wx σ G1 H1 (f a s1) Q → Q1 v H1) : Pst K O Wx σ G H rel r Q1 := by
  cases r with
  | ok d s' => exact fun v G' H' t' ko q => k d s' rfl v G' H' t' ko q (pstN_tr t' h)
  | err c fs s' => exact h
  | bad => exact h
structure FoN (P : Program) (w : World) (K : PySem.W.Frag) (mg : Str → Option Value) (base : Heap) (O : Wo) (k : Nat) (x : Str) (n : Nat) (m : List D → O.S → R O.S (List D)) : Prop where
  ex : ∃ f fd ps, FnOk P w K mg base (L2.CX P w) k f fd ps (spN K O n m) ∧ mg x = some (.ref f) ∧ PySem.W.keepIn K (.ref f) = true ∧ Binds K fd ps []
structure FoMN (P : Program) (w : World) (K : PySem.W.Frag) (mg : Str → Option Value) (base : Heap) (O : Wo) (C : Addr) (k : Nat) (x : Str) (n : Nat) (m : List D → O.S → R O.S (List D)) : Prop where
  ex : ∃ f fd ps, FnOk P w K mg base (L2.CX P w) k f fd ps (spN K O n m) ∧ Meth K C x f ∧ Binds K fd ps []
end
section
variable {P : Program} {w : World} {K : PySem.W.Frag} {mg : Str → Option Value} {base : Heap} {O : Wo}
end
end Mr
namespace Mr
open PySem PySem.Spec PyProof.Rows L2 RZ
abbrev lstO (acc : Array Value) (c : Nat) : Obj := { cls := .type "list", dict := none, data := .seq acc c, slots := #[] }
/-- how an iterator I fills a list at S: J before each turn, Fin at the end -/
structure Fill (prog : Program) (w : World) (A : Around) (S I : Addr) (T : String) (n : Nat) (J : Nat → Array Value → Heap → Prop) (Fin : Array Value → Heap → Prop) : Prop where
  ne : S ≠ I
  ty : ∀ i acc h, J i acc h → ∃ o, h.get? I = some o ∧ o.cls = .type T
  sz : ∀ i acc h, J i acc h → acc.size = i
  st : ∀ i acc h h', J i acc h → (∀ b, b ≠ S → h'.get? b = h.get? b) → h'.objs.size = h.objs.size → J i acc h'
  item : ∀ i acc (s : Shared) c (Q : Option Value → Shared → Prop) (E : Value → Shared → Prop), i < n → J i acc s.heap → s.heap.get? S = some (lstO acc c) →
    (∀ v h', J (i + 1) (acc.push v) h' → h'.get? S = some (lstO acc c) → Q (some v) { s with heap := h' }) → wpAny (model prog w) A (pyNext (.ref I)) Q E s
  done : ∀ acc (s : Shared) c (Q : Option Value → Shared → Prop) (E : Value → Shared → Prop), J n acc s.heap → s.heap.get? S = some (lstO acc c) →
    (∀ h', Fin acc h' → h'.get? S = some (lstO acc c) → Q none { s with heap := h' }) → wpAny (model prog w) A (pyNext (.ref I)) Q E s
  self : ∀ i acc (s : Shared) (Q : Value → Shared → Prop) (E : Value → Shared → Prop), J i acc s.heap → Q (.ref I) s → wpAny (model prog w) A (pyIter (.ref I)) Q E s
section
variable {prog : Program} {w : World} {A : Around} {R : Result → Shared → Prop} {S I : Addr} {T : String} {n : Nat} {J : Nat → Array Value → Heap → Prop} {Fin : Array Value → Heap → Prop}
end
end Mr
namespace Mr
open PySem PySem.Spec PyProof.Rows L2 RZ
abbrev IsZipF (h : Heap) (z TI TO a0 : Addr) (f : Bool) : Prop :=
  h.get? z = some { cls := .type "zip", dict := none, data := .fields #[rawInt a0, .bool f, .bool false, .ref TI, .ref TO], slots := #[] }
section
variable {prog : Program} {w : World} {A : Around} {E : Value → Shared → Prop}
variable {s : Shared}
end
end Mr
namespace Mr
open PySem PySem.Spec PyProof.Rows L2 RZ
structure ZJs (hb : Heap) (S z TI TO : Addr) (r1 r2 : Sr) (xs ys : Array Value) (i : Nat) (acc : Array Value) (h : Heap) (as : List Addr) : Prop where
  ac : acc.toList = as.map Value.ref
  ln : as.length = i
  zs : (i = 0 ∧ IsZip h z TI TO .none ∧ ∃ kept : Array Value, kept.size = 2 ∧ h.get? TO = some (tupO kept)) ∨ (∃ a0 f, a0 ∈ as ∧ IsZipF h z TI TO a0 f)
  ti : h.get? TI = some (tupO #[.ref r1.it, .ref r2.it])
  i1 : It01 r1.k h r1.it r1.l i
  i2 : It01 r2.k h r2.it r2.l i
  fr : ∀ c o, c ≠ z → c ≠ TO → c ≠ r1.it → c ≠ r2.it → c ≠ S → hb.get? c = some o → h.get? c = some o
  rw : ∀ (j : Nat) a, as[j]? = some a → ∃ x y, xs[j]? = some x ∧ ys[j]? = some y ∧ h.get? a = some (tupO #[x, y])
  up : as.Pairwise (fun a b => @LT.lt Nat _ a b)
  ab : ∀ a ∈ as, @LT.lt Nat _ S a ∧ @LT.lt Nat _ a h.objs.size
  sS : @LT.lt Nat _ S h.objs.size
structure ZB (hb : Heap) (S z TI TO : Addr) (r1 r2 : Sr) (xs ys : Array Value) : Prop where
  D : Apart z TI TO [r1, r2]
  q1 : Sq01 r1.k hb r1.l xs
  q2 : Sq01 r2.k hb r2.l ys
  lt : @LT.lt Nat _ z S ∧ @LT.lt Nat _ TI S ∧ @LT.lt Nat _ TO S ∧ @LT.lt Nat _ r1.it S ∧ @LT.lt Nat _ r2.it S ∧ @LT.lt Nat _ r1.l S ∧ @LT.lt Nat _ r2.l S
theorem ltA {a b : Nat} (h : a < b) : @Ne Addr a b := Nat.ne_of_lt h
section
variable {hb : Heap} {S z TI TO : Addr} {r1 r2 : Sr} {xs ys : Array Value} {i : Nat} {acc : Array Value} {h : Heap} {as : List Addr}
theorem ZJs.sq (B : ZB hb S z TI TO r1 r2 xs ys) (j : ZJs hb S z TI TO r1 r2 xs ys i acc h as) : Sq01 r1.k h r1.l xs ∧ Sq01 r2.k h r2.l ys := by
  have m1 : r1 ∈ [r1, r2] := List.mem_cons_self
  have m2 : r2 ∈ [r1, r2] := List.mem_cons_of_mem _ List.mem_cons_self
  obtain ⟨_, _, _, l1, l2⟩ := B.D.it r1 m1
  obtain ⟨_, _, _, l3, l4⟩ := B.D.it r2 m2
  exact ⟨B.q1.at fun o e => j.fr _ o l1 l2 (B.D.lit r1 m1 r1 m1) (B.D.lit r1 m1 r2 m2) (ltA B.lt.2.2.2.2.2.1) e, B.q2.at fun o e => j.fr _ o l3 l4 (B.D.lit r2 m2 r1 m1) (B.D.lit r2 m2 r2 m2) (ltA B.lt.2.2.2.2.2.2) e⟩
/-- one more tuple -/
theorem ZJs.more (B : ZB hb S z TI TO r1 r2 xs ys) (j : ZJs hb S z TI TO r1 r2 xs ys i acc h as) {h' : Heap} {x y : Value} {a0 : Addr} {f : Bool} (hx : xs[i]? = some x) (hy : ys[i]? = some y) (hz : IsZipF h' z TI TO a0 f) (ha0 : a0 ∈ as ++ [h.objs.size])
    (hi : ∀ r ∈ [r1, r2], It01 r.k h' r.it r.l (i + 1)) (hT : h'.get? h.objs.size = some (tupO #[x, y])) (hs : h'.objs.size = h.objs.size + 1) (hk : ∀ c o, c ≠ z → c ≠ TO → c ≠ r1.it → c ≠ r2.it → h.get? c = some o → h'.get? c = some o) :
    ZJs hb S z TI TO r1 r2 xs ys (i + 1) (acc.push (.ref h.objs.size)) h' (as ++ [h.objs.size]) := by
  obtain ⟨z1, z2, z3, z4, z5, _, _⟩ := B.lt
  have m1 : r1 ∈ [r1, r2] := List.mem_cons_self
  have m2 : r2 ∈ [r1, r2] := List.mem_cons_of_mem _ List.mem_cons_self
  have big : ∀ a ∈ as, a ≠ z ∧ a ≠ TO ∧ a ≠ r1.it ∧ a ≠ r2.it := fun a ha => by
    have := (j.ab a ha).1
    exact ⟨Ne.symm (ltA (Nat.lt_trans z1 this)), Ne.symm (ltA (Nat.lt_trans z3 this)), Ne.symm (ltA (Nat.lt_trans z4 this)), Ne.symm (ltA (Nat.lt_trans z5 this))⟩
  refine ⟨by simp [j.ac], by simp [j.ln], .inr ⟨a0, f, ha0, hz⟩, hk _ _ B.D.TIz B.D.TITO (Ne.symm (B.D.it r1 m1).2.1) (Ne.symm (B.D.it r2 m2).2.1) j.ti, hi r1 m1, hi r2 m2, fun c o c1 c2 c3 c4 c5 q => hk c o c1 c2 c3 c4 (j.fr c o c1 c2 c3 c4 c5 q), fun k a ha => ?_, ?_, fun a ha => ?_, by rw [hs]; exact Nat.lt_succ_of_lt j.sS⟩
  · by_cases hk' : k < as.length
    · rw [List.getElem?_append_left hk'] at ha
      obtain ⟨x', y', h1, h2, h3⟩ := j.rw k a ha
      obtain ⟨b1, b2, b3, b4⟩ := big a (List.mem_of_getElem? ha)
      exact ⟨x', y', h1, h2, hk a _ b1 b2 b3 b4 h3⟩
    · rw [List.getElem?_append_right (by omega)] at ha
      have hk2 : k = as.length := by
        have := (List.getElem?_eq_some_iff.mp ha).1
        simp at this
        omega
      subst hk2
      rw [Nat.sub_self] at ha
      simp only [List.getElem?_cons_zero, Option.some.injEq] at ha
      subst ha
      rw [j.ln]
      exact ⟨x, y, hx, hy, hT⟩
  · rw [List.pairwise_append]
    refine ⟨j.up, List.pairwise_singleton _ _, fun a ha b hb' => ?_⟩
    rw [List.mem_singleton] at hb'
    subst hb'
    exact (j.ab a ha).2
  · rw [hs]
    rcases List.mem_append.mp ha with q | q
    · exact ⟨(j.ab a q).1, Nat.lt_succ_of_lt (j.ab a q).2⟩
    · rw [List.mem_singleton] at q
      subst q
      exact ⟨j.sS, Nat.lt_succ_self _⟩
/-- the list is full -/
structure ZEnd (hb : Heap) (S z TO : Addr) (r1 r2 : Sr) (xs ys : Array Value) (acc : Array Value) (h : Heap) (as : List Addr) : Prop where
  ac : acc.toList = as.map Value.ref
  ln : as.length = min xs.size ys.size
  fr : ∀ c o, c ≠ z → c ≠ TO → c ≠ r1.it → c ≠ r2.it → c ≠ S → hb.get? c = some o → h.get? c = some o
  rw : ∀ (j : Nat) a, as[j]? = some a → ∃ x y, xs[j]? = some x ∧ ys[j]? = some y ∧ h.get? a = some (tupO #[x, y])
  up : as.Pairwise (fun a b => @LT.lt Nat _ a b)
  ab : ∀ a ∈ as, @LT.lt Nat _ S a
end
end Mr
namespace Mr
open PySem PySem.Spec PyProof.Rows L2 RZ
end Mr
namespace Mr
open PySem PySem.Spec PyProof.Rows L2 RZ
section
variable {K : PySem.W.Frag} {O : Wo} {Wx : WX} {X : Cx} {G : Gh} {H : Hp}
end
end Mr
namespace Mr
open PySem PySem.Spec PyProof.Rows L2 RZ
section
variable {K : PySem.W.Frag} {O : Wo} {Wx : WX} {X : Cx} {G : Gh} {H : Hp}
end
end Mr
namespace Mr
open PySem PySem.Spec PyProof.Rows L2 RZ
abbrev ClA := Value × Nat × (Addr → Value → Option Addr → TS)
def wManyA (K : PySem.W.Frag) (Wout : WX) (D : Ends) : List ClA → WX
  | [] => Wout
  | (c, i, ts) :: r => fun cls d σ H => ∃ b, PySem.W.exmOne K cls c = some b ∧ (b = true → ∀ a, H a = none → ts a cls d { nx := fun σ' H' => D.nx (σ'.set i none) H', rt := D.rt, bk := fun σ' H' => D.bk (σ'.set i none) H', ct := fun σ' H' => D.ct (σ'.set i none) H' } (σ.set i (some (.ref a))) H) ∧ (b = false → wManyA K Wout D r cls d σ H)
inductive HdsA (X : Cx) : List ExceptHandler → List ClA → Prop
  | nil : HdsA X [] []
  | cons {x n : Str} {c : Value} {i : Nat} {ts : Addr → Value → Option Addr → TS} {b₀ : Stmt} {suite : List Stmt} {np pos' : Pos} {hds : List ExceptHandler} {l : List ClA} (hc : Names X x c) (hi : X.N[i]? = some n) (hln : X.env.kindOf n = some .local)
      (hsu : ∀ (a : Addr) (oe : Obj) (cls : Value) (d : Option Addr) (pn : List (Addr × Obj)), Zc cls d oe → (∃ vs, oe.data = .fields vs) → PSs (X.suite a ((a, oe) :: pn)) (b₀ :: suite) (ts a cls d)) (r : HdsA X hds l) :
      HdsA X (.ExceptHandler (some (.Name x np)) (some n) (b₀ :: suite) pos' :: hds) ((c, i, ts) :: l)
/-- an exception a of class cls, with its dict d, that no clause has taken so far: sI is the state in which it was raised -/
structure Fell (X : Cx) (B : Heap) (sI : Shared) (pins : List (Addr × Obj)) (σ : L2.St) (H : Hp) (a : Addr) (cls : Value) (d : Option Addr) (sN : Shared) : Prop where
  inv : Inv X pins σ H sI
  old : ∀ b o, sI.heap.get? b = some o → b ∉ frs X.stack → B.get? b = some o
  fly : HandSPX.FlyingZ B (X.env :: X.outer) a (Zc cls d) sN.heap
  upto : sI.heap.UpToSlots sN.heap
  os : sN.os = sI.os
  gens : AllBare sN.gens
  free : H a = none
section
variable {X : Cx} {B : Heap} {sI sN : Shared} {pins : List (Addr × Obj)} {σ : L2.St} {H : Hp} {a : Addr} {cls : Value} {d : Option Addr}
theorem Fell.now (h : Fell X B sI pins σ H a cls d sN) : Inv X pins σ H sN := h.inv.landed h.old h.fly.1 h.upto h.os h.gens
theorem Fell.obj (h : Fell X B sI pins σ H a cls d sN) : ∃ oe vs, sN.heap.get? a = some oe ∧ Zc cls d oe ∧ oe.data = .fields vs := h.fly.there
/-- the exception is none of the frames -/
theorem Fell.apart (h : Fell X B sI pins σ H a cls d sN) (hf : X.env.frame = some X.env.locals) : a ≠ X.env.locals ∧ a ∉ X.fs := by
  obtain ⟨oe, vs, g, _, hd⟩ := h.obj
  have out : a ∉ frs (X.env :: X.outer) := by
    intro m
    obtain ⟨_, o2, g2, no⟩ := h.fly.2.2.1.mem m
    have : oe = o2 := Option.some.inj (g.symm.trans g2)
    exact no vs (this ▸ hd)
  constructor
  · intro e
    exact out (List.mem_filterMap.mpr ⟨X.env, List.mem_cons_self, e ▸ hf⟩)
  · intro m
    obtain ⟨v, hv, q⟩ := List.mem_filterMap.mp m
    exact out (List.mem_filterMap.mpr ⟨v, .tail _ hv, q⟩)
/-- the clauses are at their end: it goes on -/
theorem Fell.goes (h : Fell X B sI pins σ H a cls d sN) {Wout : WX} {D : Ends} (hs : X.stack = X.env :: X.outer) (hf : X.env.frame = some X.env.locals) (tk : Takes X Wout) (w : Wout cls d σ H) :
    wpAny (model X.prog X.w) X.A (handleBy (.ref a) X.env []) (SP X pins D) X.xe sN := by
  apply wpAny_handleBy_nil
  have fl := h.fly
  obtain ⟨_, _, _, oe, vs, T, oT, tsl, g, _, hd, tb, _⟩ := id fl
  have rest : wpAny (model X.prog X.w) X.A (setFlight (.ref a) X.env.frame) (fun _ s4 => wpAny (model X.prog X.w) X.A (throw (.ref a) : Sem Flow) (SP X pins D) X.xe s4) X.xe sN := by
    rw [hf]
    apply HandSPX.setFlight_upZ fl
    intro h4 held up4
    apply wpAny_throw
    apply tk
    exact ⟨a, B, sI, pins, σ, H, cls, d, rfl, h.inv, h.old, h.upto.trans up4, .inr (.inr (hs ▸ held)), h.free, h.os, h.gens, w⟩
  unfold PySem.passOn
  apply wpAny_bind
  apply wpAny_field g hd tb
  rw [if_neg (by simp : ¬ ((Value.ref T == Value.none) = true))]
  first
    | exact wpAny_bind (wpAny_pure (wpAny_bind rest))
    | exact wpAny_bind rest
/-- a clause that names the class c, as n (slot i) -/
theorem Fell.clause (h : Fell X B sI pins σ H a cls d sN) {x n : Str} {c : Value} {i : Nat} {ts : Addr → Value → Option Addr → TS} {st : Stmt} {sts : List Stmt} {np hp : Pos} {rest : List ExceptHandler} {b : Bool} {D : Ends} (ok : X.Ok) (hf : X.env.frame = some X.env.locals) (hN : X.N.Nodup) (hc : Names X x c) (hi : X.N[i]? = some n) (hln : X.env.kindOf n = some .local)
    (hsu : ∀ (a : Addr) (oe : Obj) (cls : Value) (d : Option Addr) (pn : List (Addr × Obj)), Zc cls d oe → (∃ vs, oe.data = .fields vs) → PSs (X.suite a ((a, oe) :: pn)) (st :: sts) (ts a cls d))
    (hb : PySem.W.exmOne X.K cls c = some b) (yes : b = true → ts a cls d { nx := fun σ' H' => D.nx (σ'.set i none) H', rt := D.rt, bk := fun σ' H' => D.bk (σ'.set i none) H', ct := fun σ' H' => D.ct (σ'.set i none) H' } (σ.set i (some (.ref a))) H)
    (no : b = false → wpAny (model X.prog X.w) X.A (handleBy (.ref a) X.env rest) (SP X pins D) X.xe sN) :
    wpAny (model X.prog X.w) X.A (handleBy (.ref a) X.env (.ExceptHandler (some (.Name x np)) (some n) (st :: sts) hp :: rest)) (SP X pins D) X.xe sN := by
  obtain ⟨oe, vs, g, hz, hd⟩ := h.obj
  obtain ⟨nl, nf⟩ := h.apart hf
  have inS := h.now.suite g hd h.free nl nf
  have name : ∀ {Q : Value → Shared → Prop} {E : Value → Shared → Prop}, Q c sN → wpAny (model X.prog X.w) (X.A.mark (some (.ref a))) (eval (.Name x np) X.env) Q E sN := by
    intro Q E q
    rcases hc with ⟨gl, db, m | ⟨m, v, nn⟩⟩
    · exact ld_glob (X := X.suite a ((a, oe) :: (X.pn ++ pins))) inS gl m q db
    · exact ld_blt (X := X.suite a ((a, oe) :: (X.pn ++ pins))) inS gl m v q nn db
  have isOf := PySem.W.exm_one (M := model X.prog X.w) h.now.kIn (fun A Q E s k q => wpAny_typeOf_ref (k _ _ g) (by rw [hz.1]; exact q)) hb
  apply wpAny_handleBy_cons _ (by intro z; cases z)
  apply codeAny_handlers_test
  apply name
  apply isOf.here
  cases b
  · exact no rfl
  · apply codeAny_handlers_suite_as
    apply HandSPX.lands_againZ h.fly
    intro h4 fl4 up4
    have h' : Fell X B sI pins σ H a cls d { sN with heap := h4 } := ⟨h.inv, h.old, fl4, h.upto.trans up4, h.os, h.gens, h.free⟩
    obtain ⟨oe4, vs4, g4, hz4, hd4⟩ := h'.obj
    have inS4 := h'.now.suite g4 hd4 h.free nl nf
    refine store_ok (X := X.suite a ((a, oe4) :: (X.pn ++ pins))) (v := .ref a) inS4 hN hi (.inl hln) rfl (fun s5 in5 => ?_) (.inr hln)
    refine wpAny_mono ((hsu a oe4 cls d (X.pn ++ pins) hz4 ⟨_, hd4⟩).run [] s5 _ H _ in5 (yes rfl)) (fun fw s6 => ?_) (fun _ _ z => False.elim z)
    have bye : ∀ {τ : L2.St} {H6 : Hp} {Q : Shared → Prop}, Inv (X.suite a ((a, oe4) :: (X.pn ++ pins))) [] τ H6 s6 → (∀ s7, Inv X pins (τ.set i none) H6 s7 → Q s7) →
        wpAny (model X.prog X.w) X.A (do bindName X.env n .none; unbindBehindTheSuite X.env n hp) (fun _ s7 => Q s7) X.xe s6 := fun {τ H6 Q} in6 hq => gone_ok (in6.unsuite ok) hN hi hln hq
    cases fw
    · rintro ⟨τ, H6, in6, q⟩
      exact bye in6 fun s7 in7 => ⟨_, _, in7, q⟩
    · rintro ⟨τ, H6, in6, q⟩
      exact bye in6 fun s7 in7 => ⟨_, _, in7, q⟩
    · rintro ⟨τ, H6, in6, q⟩
      exact bye in6 fun s7 in7 => ⟨_, _, in7, q⟩
    · rintro ⟨v, τ, H6, in6, r, q⟩
      exact bye in6 fun s7 in7 => ⟨_, _, _, in7, r, q⟩
end
section
variable {X : Cx} {body : List Stmt} {h₀ : ExceptHandler} {hds : List ExceptHandler} {l : List ClA} {pos : Pos} {tb : WX → TS} {Wout : WX}
theorem Fell.clauses {B : Heap} {sI sN : Shared} {pins : List (Addr × Obj)} {σ : L2.St} {H : Hp} {a : Addr} {cls : Value} {d : Option Addr} {D : Ends} (h : Fell X B sI pins σ H a cls d sN) (ok : X.Ok) (hs : X.stack = X.env :: X.outer) (hf : X.env.frame = some X.env.locals) (hN : X.N.Nodup) (tk : Takes X Wout) (hh : HdsA X hds l) :
    wManyA X.K Wout D l cls d σ H → wpAny (model X.prog X.w) X.A (handleBy (.ref a) X.env hds) (SP X pins D) X.xe sN := by
  induction hh with
  | nil => exact fun w => h.goes hs hf tk w
  | cons hc hi hln hsu _ ih =>
    rintro ⟨b, hb, yes, no⟩
    exact h.clause ok hf hN hc hi hln hsu hb (fun e => yes e a h.free) (fun e => ih (no e))
end
structure MCl (O : Wo) where
  mt : Addr → Option Bool
  i : Nat
  ms : MS O
def mCls (O : Wo) (c : Addr) (fs : List (Str × D)) (ρ1 : Ev) (s1 : O.S) : List (MCl O) → RS O.S
  | [] => .err c fs ρ1 s1
  | k :: r => match k.mt c with
    | some true => if ρ1.all noExc = true then clrS k.i (k.ms (ρ1.set k.i (.exc c fs)) s1) else .bad
    | some false => mCls O c fs ρ1 s1 r
    | none => .bad
section
variable {K : PySem.W.Frag} {O : Wo} {Wx : WX} {X : Cx} {G0 : Gh} {H0 : Hp} {G : Gh} {H : Hp} {G1 : Gh} {H1 : Hp} {σ : L2.St} {ρ : Ev} {s s1 : O.S}
/-- clauses and their mirrors -/
structure DH (K : PySem.W.Frag) (O : Wo) (Wx : WX) (X : Cx) (hds : List ExceptHandler) (ml : List (MCl O)) : Prop where
  ex : ∃ l : List ClA, HdsA X hds l ∧ ∀ (G0 : Gh) (H0 : Hp) (G : Gh) (Dn : Ends) (c : Addr) (fs : List (Str × D)) (ρ1 : Ev) (s1 : O.S), PstS K O Wx G0 H0 G (mCls O c fs ρ1 s1 ml) Dn → ∀ σ' dd xs G' H', Sm G G' → Fs K O G0 H0 σ' ρ1 G' H' s1 → XdA H' dd xs → NwA O dd → RepF K G' xs fs → wManyA K Wx Dn l (.ref c) dd σ' H'
end
end Mr
namespace Mr
open PySem PySem.Spec PyProof.Rows L2 RZ
/-- the things at the places is -/
def plc {α : Type} (is : List Nat) (xs : List α) : List α := is.filterMap fun i => xs[i]?
theorem plc_vals {is : List Nat} {vs : List V} {us : List Value} (h : Vals vs us) : Vals (plc is vs) (plc is us) := by
  unfold plc
  induction is with
  | nil => exact .nil
  | cons i is ih =>
    have key : ∀ {vs : List V} {us : List Value}, Vals vs us → ∀ i : Nat, (vs[i]? = none ∧ us[i]? = none) ∨ ∃ v u, vs[i]? = some v ∧ us[i]? = some u ∧ RelV v u := by
      intro vs us h
      induction h with
      | nil => exact fun i => .inl ⟨rfl, rfl⟩
      | cons r h ih =>
        intro i
        cases i with
        | zero => exact .inr ⟨_, _, rfl, rfl, r⟩
        | succ i => exact ih i
    rcases key h i with ⟨e1, e2⟩ | ⟨v, u, e1, e2, r⟩
    · rw [List.filterMap_cons_none e1, List.filterMap_cons_none e2]
      exact ih
    · rw [List.filterMap_cons_some e1, List.filterMap_cons_some e2]
      exact .cons r ih
/-- a def as it stands behind the top, its keyword defaults kd -/
structure FunK (K : PySem.W.Frag) (x qual : Str) (st : Stmt) (kd : List (Str × V)) (f : Addr) (fd : FuncData) : Prop where
  fn : Fun K x qual st f fd
  ex : ∃ (kV doc pm : Value) (an : Option Addr) (cdv ct : Value), fd = PySem.W.fnOf x qual (defArgs st) (defBody st) (defScope st) .none kV doc pm an cdv ct ∧ KwdV K kV kd
/-- the parameters ps of a call with n values and the keywords ks, where those of ms lack -/
def Site (x qual : Str) (st : Stmt) (ps : List Str) (n : Nat) (ks : List Str) (ms : List (Str × V)) (is : List Nat) : Prop :=
  ∀ (kV : Value) (D : Addr) (doc pm : Value) (an : Option Addr) (cdv ct : Value) (us ws mv : List Value), us.length = n → ws.length = ks.length → mv.length = ms.length → (ms ≠ [] → kV = .ref D) →
    KwChain D ((ms.map (·.1)).zip mv) (bindArgs (PySem.W.fnOf x qual (defArgs st) (defBody st) (defScope st) .none kV doc pm an cdv ct) ⟨us, ks.zip ws⟩) (ps.zip (plc is (us ++ (ws ++ mv))))
theorem FunK.kb {K : PySem.W.Frag} {x qual : Str} {st : Stmt} {kd ms : List (Str × V)} {f : Addr} {fd : FuncData} {ps ks : List Str} {n : Nat} {is : List Nat} (F : FunK K x qual st kd f fd) (S : Site x qual st ps n ks ms is) (hms : ∀ q ∈ ms, q ∈ kd) :
    ∃ g, KBn K fd ps n ks g (fun vs zs => plc is (vs ++ (zs ++ ms.map (·.2)))) := by
  obtain ⟨kV, doc, pm, an, cdv, ct, rfl, hk⟩ := F.ex
  have key : ∃ (D : Addr) (mv : List Value), mv.length = ms.length ∧ Vals (ms.map (·.2)) mv ∧ (∀ q ∈ (ms.map (·.1)).zip mv, PySem.W.nsIn K D q.1 = some (some q.2)) ∧ (ms ≠ [] → kV = .ref D) := by
    by_cases hm : ms = []
    · subst hm
      exact ⟨0, [], rfl, .nil, fun q hq => absurd hq List.not_mem_nil, fun h => absurd rfl h⟩
    · rcases hk with e | ⟨D, e, hq⟩
      · exfalso
        obtain ⟨q, hq⟩ := List.exists_mem_of_ne_nil ms hm
        have := hms q hq
        rw [e] at this
        exact absurd this List.not_mem_nil
      · obtain ⟨mv, l1, v1, h1⟩ := kwd_vals (ms := ms) fun q h => hq q (hms q h)
        exact ⟨D, mv, l1, v1, h1, fun _ => e⟩
  obtain ⟨D, mv, l1, v1, h1, h2⟩ := key
  refine ⟨fun us ws => plc is (us ++ (ws ++ mv)), fun s us ws X l2 l3 => ?_, fun r1 r2 => plc_vals (r1.append (r2.append v1))⟩
  exact BindsTo.of_looks fun M => KwChain.looks X h1 (S kV D doc pm an cdv ct us ws mv l2 l3 l1 h2)
section
variable {K : PySem.W.Frag} {O : Wo} {Wx : WX} {X : Cx}
structure DK (K : PySem.W.Frag) (O : Wo) (Wx : WX) (X : Cx) (e : List Keyword) (t : TA) (m : MA O) : Prop where
  pe : PK X e t
  sn : SndA K O Wx t m
/-- a def that is called by its name, with keywords -/
structure FoK (P : Program) (w : World) (K : PySem.W.Frag) (mg : Str → Option Value) (base : Heap) (O : Wo) (k : Nat) (x : Str) (st : Stmt) (ps : List Str) (kd : List (Str × V)) (m : List D → O.S → R O.S D) : Prop where
  ex : ∃ f fd, FnOk P w K mg base (L2.CX P w) k f fd ps (spM K O ps.length m) ∧ mg x = some (.ref f) ∧ FunK K x x st kd f fd
end
section
variable {P : Program} {w : World} {K : PySem.W.Frag} {mg : Str → Option Value} {base : Heap} {O : Wo}
end
end Mr
namespace Mr
open PySem PySem.Spec PyProof.Rows L2 RZ
section
variable {K : PySem.W.Frag} {O : Wo} {Wx : WX} {X : Cx} {G : Gh} {H : Hp}
end
end Mr
namespace Mr
open PySem PySem.Spec PyProof.Rows L2 RZ
structure VT (K : PySem.W.Frag) (C : Addr) : Prop where
  cl : Cls K C
  ca : PySem.W.findIn K (.ref C) "__class__" = some (some (.builtin "object.__class__"))
  gs : PySem.W.specialIn K (.builtin "object.__class__") "__get__" = some (some (.builtin "getset_descriptor.__get__"))
  tk : PySem.W.takesIn K (.builtin "object.__class__") = some true
  mr : PySem.W.mroIn K C (.type "object") = some true
  same : PySem.W.kitOne K (.ref C) (.ref C) = some true
  tup : PySem.W.kitOne K (.type "tuple") (.ref C) = some false
  non : PySem.W.kitOne K (.type "NoneType") (.ref C) = some false
  nft : PySem.W.notFirst K C (.type "tuple") = true
  nfn : PySem.W.notFirst K C (.type "NoneType") = true
section
variable {K : PySem.W.Frag} {O : Wo} {Wx : WX} {X : Cx} {G : Gh} {H : Hp} {C : Addr}
end
end Mr
namespace Mr
open PySem PySem.Spec PyProof.Rows L2 RZ
section
variable {K : PySem.W.Frag} {O : Wo} {Wx : WX} {X : Cx} {G0 : Gh} {H0 : Hp} {G : Gh} {H : Hp} {G1 : Gh} {H1 : Hp} {σ : L2.St} {ρ : Ev} {s s1 : O.S}
end
end Mr
namespace Mr
open PySem PySem.Spec PyProof.Rows L2 RZ
section
variable {prog : Program} {w : World} {A : Around} {E : Value → Shared → Prop} {s : Shared}
theorem collect_tup {l : Addr} {vs : List Value} {Q : List Value → Shared → Prop} (hl : s.heap.IsTuple l vs.toArray)
    (h : Q vs { s with heap := (s.heap.push (seqObj "list" #[] 0)).update s.heap.objs.size (Obj.mapSeq (· ++ vs.toArray)) }) (hsz : vs.length ≤ sizeLine) :
    wpAny (model prog w) A (collect (.ref l)) Q E s := by
  obtain ⟨o, ho, hc, n, hd⟩ := id hl
  unfold collect
  refine wpAny_bind (wpAny_runValue (codeAny_builtin entry_proto_collect' ?_))
  show wpAny _ _ (do again (.builtin "list.__iadd__" ⟨[← newList [], .ref l], []⟩)) _ _ s
  refine wpAny_bind (wpAny_newList (wpAny_pure ⟨Code.quiet_builtin _ (by decide +kernel), codeAny_builtin entry_list_iadd' ?_⟩))
  show wpAny _ _ (Builtin.List.listExtendWith (.ref s.heap.objs.size) (.ref l) (.ref s.heap.objs.size)) _ _ { s with heap := s.heap.push (seqObj "list" #[] 0) }
  unfold Builtin.List.listExtendWith
  have ho' : (s.heap.push (seqObj "list" #[] 0)).get? l = some o := Heap.get?_push_of_some _ ho
  refine wpAny_bind (wpAny_typeOf (T := "tuple") ⟨o, ho', hc⟩ ?_)
  have ht : (Value.type "tuple" == Value.type "tuple") = true := by rfl
  rw [if_pos (by rw [ht]; simp)]
  refine wpAny_bind (listItems_at ho' hd ?_)
  refine wpAny_bind (listItems_at (xs := #[]) (n := 0) (Heap.get?_push_size _ rfl) rfl ?_)
  rw [if_neg (by simp)]
  refine wpAny_bind (listUpdate_at (xs := #[]) (n := 0) (Heap.get?_push_size _ rfl) rfl ?_ (Nat.zero_le _) (by show (#[] ++ vs.toArray).size ≤ sizeLine + 1; simp only [Array.size_append, List.size_toArray, List.length_nil]; omega))
  refine wpAny_pure ?_
  show wpAny (model prog w) A (do
      let o ← load s.heap.objs.size
      match o.data with
      | .seq xs _ => pure xs.toList
      | _ => unsupported "internal:collect") Q E { s with heap := (s.heap.push (seqObj "list" #[] 0)).update s.heap.objs.size (Obj.mapSeq (· ++ vs.toArray)) }
  refine wpAny_bind (wpAny_load (get?_update_seq (Heap.get?_push_size _ rfl) _) ?_)
  show wpAny _ _ (pure ((#[] : Array Value) ++ vs.toArray).toList) Q E _
  rw [show ((#[] : Array Value) ++ vs.toArray).toList = vs by simp]
  exact wpAny_pure h
open SrtO in
theorem sorted_ordT {l : Addr} {vs : List Value} {ltv : Value → Value → Bool} {Q : Value → Shared → Prop} (O : Swo ltv) (hl : s.heap.IsTuple l vs.toArray) (hz : vs.length ≤ sizeLine)
    (hS : 2 ≤ vs.length → ∀ (h₁ : Heap) (a : Addr), h₁.get? a = some (seqObj "list" vs.toArray 0) → (∀ b o, s.heap.get? b = some o → b ≠ a ∧ h₁.get? b = some o) → SortableO prog w A.in1.in1 { s with heap := h₁ } a vs ltv)
    (h : ∀ out : List Value, Srtd ltv out → Stb ltv out vs → Q (.ref (s.heap.objs.size + 1)) { s with heap := sortedAll s.heap vs out.toArray }) :
    wpAny (model prog w) A (call (.builtin "sorted") [.ref l]) Q E s := by
  refine Calls.call_function_entry kind_sorted plain_sorted entry_sorted (args_sorted1 _) ?_
  unfold Builtin.«sorted»
  refine wpAny_bind (m := checkCount "sorted" 1 1 _) (wpAny_pure ?_)
  refine wpAny_bind (collect_tup hl ?_ hz)
  refine wpAny_bind (wpAny_newList ?_ hz)
  have hsz : ((s.heap.push (seqObj "list" #[] 0)).update s.heap.objs.size (Obj.mapSeq (· ++ vs.toArray))).objs.size = s.heap.objs.size + 1 := by
    rw [Heap.size_update, size_push']
  have hoL : (((s.heap.push (seqObj "list" #[] 0)).update s.heap.objs.size (Obj.mapSeq (· ++ vs.toArray))).push (seqObj "list" vs.toArray 0)).get? (s.heap.objs.size + 1) = some (seqObj "list" vs.toArray 0) := by
    rw [← hsz]; exact Heap.get?_push_size _ rfl
  have keep : ∀ b o, s.heap.get? b = some o → b ≠ s.heap.objs.size + 1 ∧ (((s.heap.push (seqObj "list" #[] 0)).update s.heap.objs.size (Obj.mapSeq (· ++ vs.toArray))).push (seqObj "list" vs.toArray 0)).get? b = some o := fun b o q => by
    have hlt : b < s.heap.objs.size := Heap.lt_size q
    refine ⟨Nat.ne_of_lt (Nat.lt_succ_of_lt hlt), Heap.get?_push_of_some _ ?_⟩
    rw [Heap.get?_update_ne _ _ _ _ (Nat.ne_of_lt hlt)]
    exact Heap.get?_push_of_some _ q
  show wpAny _ _ _ _ _ { s with heap := ((s.heap.push (seqObj "list" #[] 0)).update s.heap.objs.size (Obj.mapSeq (· ++ vs.toArray))).push (seqObj "list" vs.toArray 0) }
  rw [hsz]
  refine wpAny_bind (wpAny_holding (wpAny_call_entry slot_list_sort ⟨_, hoL, rfl⟩ entry_list_sort (list_sort_ord O hoL hz (fun h2 => hS h2 _ _ hoL keep) fun out hs hb => ⟨_, rfl, ?_⟩) (args_list_sort _)))
  exact wpAny_pure ⟨_, rfl, h out hs hb⟩
end
section
variable {X : Cx}
end
section
variable {K : PySem.W.Frag} {O : Wo} {Wx : WX} {X : Cx} {G : Gh} {H : Hp}
theorem Reps.rep {G : Gh} {vs : List V} {ds : List D} (r : Reps K G vs ds) : ∀ n : Nat, Reps K G (List.replicate n vs).flatten (List.replicate n ds).flatten
  | 0 => by simp; exact .nil
  | n + 1 => by
    rw [List.replicate_succ, List.replicate_succ, List.flatten_cons, List.flatten_cons]
    exact r.append (Reps.rep r n)
end
end Mr
namespace Mr
open PySem PySem.Spec PyProof.Rows L2 RZ
abbrev IsZipG (h : Heap) (z TI TO : Addr) (f0 : Value) (f1 : Bool) : Prop :=
  h.get? z = some { cls := .type "zip", dict := none, data := .fields #[f0, .bool f1, .bool false, .ref TI, .ref TO], slots := #[] }
section
variable {prog : Program} {w : World} {A : Around} {E : Value → Shared → Prop} {s : Shared}
/-- what was handed out last -/
inductive F0 : Value → Prop
  | none : F0 .none
  | at (a : Nat) : F0 (rawInt (a : Int))
end
end Mr
namespace Mr
open PySem PySem.Spec PyProof.Rows L2 RZ
section
variable {X : Cx} {pins : List (Addr × Obj)} {σ : L2.St} {H : Hp} {s : Shared} {h' : Heap}
end
section
variable {prog : Program} {w : World} {A : Around} {E : Value → Shared → Prop} {s : Shared}
/-- the zip below the enumerate -/
structure ZSt (h : Heap) (z TI TO : Addr) (src : List Sr) (i : Nat) : Prop where
  hz : ∃ f0 f1, IsZipG h z TI TO f0 f1 ∧ F0 f0
  hTI : h.get? TI = some (tupO (src.map fun r => Value.ref r.it).toArray)
  hTO : ∃ kept, kept.size = src.length ∧ h.get? TO = some (tupO kept)
  its : ∀ r ∈ src, It01 r.k h r.it r.l i
theorem ZSt.keep {h h' : Heap} {z TI TO : Addr} {src : List Sr} {i : Nat} (q : ZSt h z TI TO src i) (k : ∀ c ∈ zFp z TI TO src, ∀ o, h.get? c = some o → h'.get? c = some o) : ZSt h' z TI TO src i := by
  obtain ⟨⟨f0, f1, hz, hf⟩, hTI, ⟨kept, hk, hTO⟩, hi⟩ := q
  exact ⟨⟨f0, f1, k z (by simp [zFp]) _ hz, hf⟩, k TI (by simp [zFp]) _ hTI, ⟨kept, hk, k TO (by simp [zFp]) _ hTO⟩, fun r hr => (hi r hr).at fun o q => k r.it (by unfold zFp; exact List.mem_cons_of_mem _ (List.mem_cons_of_mem _ (List.mem_cons_of_mem _ (List.mem_map_of_mem hr)))) o q⟩
end
section
variable {prog : Program} {w : World} {A : Around} {E : Value → Shared → Prop} {s : Shared}
end
section
variable {K : PySem.W.Frag} {O : Wo} {Wx : WX} {X : Cx} {G : Gh} {H : Hp}
end
end Mr
namespace Mr
open PySem PySem.Spec PyProof.Rows L2 RZ
section
variable {K : PySem.W.Frag} {O : Wo} {Wx : WX} {X : Cx} {G : Gh} {H : Hp}
end
section
variable {K : PySem.W.Frag} {O : Wo} {Wx : WX} {X : Cx} {G0 : Gh} {H0 : Hp} {G : Gh} {H : Hp} {G1 : Gh} {H1 : Hp} {σ : L2.St} {ρ : Ev} {s s1 : O.S}
end
end Mr
namespace Mr
open PySem PySem.Spec PyProof.Rows L2 RZ
section
variable {K : PySem.W.Frag} {O : Wo} {Wx : WX} {X : Cx} {G0 : Gh} {H0 : Hp} {G : Gh} {H : Hp} {G1 : Gh} {H1 : Hp} {σ : L2.St} {ρ : Ev} {s s1 : O.S}
end
end Mr
namespace Mr
open PySem PySem.Spec PyProof.Rows L2 RZ
section
variable {M : Model} {prog : Program} {w : World} {A : Around} {E : Value → Shared → Prop} {s : Shared} {K : PySem.W.Frag} {x C f : Addr} {ox : Obj} {od : Option Obj} {b : Value}
end
section
variable {K : PySem.W.Frag} {O : Wo} {Wx : WX} {X : Cx} {G : Gh} {H : Hp} {C : Addr}
end
end Mr
namespace Mr
open PySem PySem.Spec PyProof.Rows L2 RZ
section
variable {K : PySem.W.Frag} {O : Wo} {Wx : WX} {X : Cx} {G : Gh} {H : Hp}
end
end Mr
namespace Mr
open PySem PySem.Spec PyProof.Rows L2 RZ
section
variable {K : PySem.W.Frag} {O : Wo} {Wx : WX} {X : Cx} {G0 : Gh} {H0 : Hp} {G : Gh} {H : Hp} {G1 : Gh} {H1 : Hp} {σ : L2.St} {ρ : Ev} {s s1 : O.S} {l : List Ob}
theorem StOk.get (q : StOk K G H l) {v : V} {n : Nat} {ob : Ob} (r : Rep K G v (.obj n)) (e : l[n]? = some ob) : ∃ a, v = .ref a ∧ Mkd G a n ob ∧ ObOk K G H a ob := by
  cases r with
  | @obj b _ h =>
    obtain ⟨a, h1, h2⟩ := q.at_ n ob e
    have := q.inj _ _ n h h1.mk
    subst this
    exact ⟨_, rfl, h1, h2⟩
def sqS (l : List Ob) : D → Option (Bool × List D)
  | .lst xs => some (true, xs)
  | .tup xs => some (false, xs)
  | .obj n => match l[n]? with
    | some (.lst xs) => some (true, xs)
    | _ => none
  | _ => none
theorem sqS_ok (q : StOk K G H l) (g : Sh G H) {v : V} {d : D} {k : Bool} {xs : List D} (r : Rep K G v d) (e : sqS l d = some (k, xs)) : ∃ a vs, v = .ref a ∧ SqX K H k a vs ∧ Reps K G vs xs := by
  cases r with
  | lst hs r => cases e; exact ⟨_, _, rfl, g.seq hs, r⟩
  | tup hs r => cases e; exact ⟨_, _, rfl, g.seqT hs, r⟩
  | @obj a n h =>
    unfold sqS at e
    dsimp only at e
    split at e
    · rename_i xs' e1
      cases e
      obtain ⟨b, e2, h2, vs, e3, r⟩ := q.get (.obj h) e1
      cases e2
      exact ⟨_, vs, rfl, .inl (.inl e3), r⟩
    · cases e
  | _ => cases e
def dcS (l : List Ob) : D → Option (List (Key × D))
  | .dct kvs => some kvs
  | .obj n => match l[n]? with
    | some (.dct xs) => some xs
    | some (.dlk xs) => some xs
    | _ => none
  | _ => none
theorem dcS_ok (q : StOk K G H l) (g : Sh G H) {v : V} {d : D} {xs : List (Key × D)} (r : Rep K G v d) (e : dcS l d = some xs) : ∃ a vs, v = .ref a ∧ Rd H a (.dK vs) ∧ RepK K G vs xs := by
  cases r with
  | dct hs r => cases e; exact ⟨_, _, rfl, .inr ⟨_, g _ _ hs⟩, r⟩
  | @obj a n h =>
    unfold dcS at e
    dsimp only at e
    split at e
    · rename_i xs' e1
      cases e
      obtain ⟨b, e2, h2, vs, e3, r⟩ := q.get (.obj h) e1
      cases e2
      exact ⟨_, vs, rfl, .inl e3, r⟩
    · rename_i xs' e1
      cases e
      obtain ⟨b, e2, h2, od, vs, e3, r⟩ := q.get (.obj h) e1
      cases e2
      exact ⟨_, vs, rfl, .inr ⟨od, e3⟩, r⟩
    · cases e
  | _ => cases e
def inS (l : List Ob) : D → Option (Addr × List (Str × D))
  | .ins C fs => some (C, fs)
  | .obj n => match l[n]? with
    | some (.ins C fs) => some (C, fs)
    | _ => none
  | _ => none
mutual
def thawN : Nat → List Ob → D → Option D
  | 0, _, _ => none
  | n + 1, l, .lst xs => (thawL n l xs).map .lst
  | n + 1, l, .tup xs => (thawL n l xs).map .tup
  | _ + 1, _, .dct _ => none
  | n + 1, l, .ins C xs => (thawF n l xs).map (.ins C)
  | n + 1, l, .obj m => match l[m]? with
    | some (.lst xs) => (thawL n l xs).map .lst
    | some (.ins C xs) => (thawF n l xs).map (.ins C)
    | _ => none
  | _ + 1, _, d => some d
def thawL : Nat → List Ob → List D → Option (List D)
  | 0, _, _ => none
  | _ + 1, _, [] => some []
  | n + 1, l, d :: ds => (thawN (n + 1) l d).bind fun x => (thawL (n + 1) l ds).map fun xs => x :: xs
def thawF : Nat → List Ob → List (Str × D) → Option (List (Str × D))
  | 0, _, _ => none
  | _ + 1, _, [] => some []
  | n + 1, l, (k, d) :: ds => (thawN (n + 1) l d).bind fun x => (thawF (n + 1) l ds).map fun xs => (k, x) :: xs
end
end
section
variable {K : PySem.W.Frag} {O : Wo} {Wx : WX} {X : Cx} {G : Gh} {H : Hp} {G1 : Gh} {H1 : Hp} {σ : L2.St} {ρ : Ev} {s s1 : O.S} {l : List Ob}
theorem gf_sq {k : Bool} {a : Addr} {vs : List V} (h : SqX K H k a vs) : SqX K (fr (gf H)) k a vs := by rw [fr_gf]; exact h
theorem gf_sqC {a : Addr} {vs : List V} (h : SqC K H a vs) : SqC K (fr (gf H)) a vs := by rw [fr_gf]; exact h
theorem SqX.L {a : Addr} {vs : List V} (h : SqX K H true a vs) : SqL K H a vs := h
theorem SqX.T {a : Addr} {vs : List V} (h : SqX K H false a vs) : SqT K H a vs := h
theorem thawL_ok {n : Nat} (h : ∀ {v : V} {d d' : D}, Rep K G v d → thawN (n + 1) l d = some d' → Rep K (gf H) v d') : ∀ {vs : List V} {ds ds' : List D}, Reps K G vs ds → thawL (n + 1) l ds = some ds' → Reps K (gf H) vs ds'
  | _, _, _, .nil, e => by
    simp only [thawL, Option.some.injEq] at e
    subst e
    exact .nil
  | _, _, _, .cons r rs, e => by
    simp only [thawL, Option.bind_eq_some_iff, Option.map_eq_some_iff] at e
    obtain ⟨x, e1, xs, e2, rfl⟩ := e
    exact .cons (h r e1) (thawL_ok h rs e2)
theorem thawF_ok {n : Nat} (h : ∀ {v : V} {d d' : D}, Rep K G v d → thawN (n + 1) l d = some d' → Rep K (gf H) v d') : ∀ {vs : List (Str × V)} {ds ds' : List (Str × D)}, RepF K G vs ds → thawF (n + 1) l ds = some ds' → RepF K (gf H) vs ds'
  | _, _, _, .nil, e => by
    simp only [thawF, Option.some.injEq] at e
    subst e
    exact .nil
  | _, _, _, .cons r rs, e => by
    simp only [thawF, Option.bind_eq_some_iff, Option.map_eq_some_iff] at e
    obtain ⟨x, e1, xs, e2, rfl⟩ := e
    exact .cons (h r e1) (thawF_ok h rs e2)
theorem thaw_ok (q : StOk K G H l) (g : Sh G H) : ∀ {n : Nat} {v : V} {d d' : D}, Rep K G v d → thawN n l d = some d' → Rep K (gf H) v d'
  | 0, _, _, _, _, e => by simp [thawN] at e
  | 1, _, d, d', r, e => by
    cases r with
    | lst h r => simp [thawN, thawL] at e
    | tup h r => simp [thawN, thawL] at e
    | dct h r => simp [thawN] at e
    | ins h r => simp [thawN, thawF] at e
    | @obj a m h =>
      simp only [thawN] at e
      split at e <;> simp [thawL, thawF] at e
    | non => simp only [thawN, Option.some.injEq] at e; subst e; exact .non
    | bl b => simp only [thawN, Option.some.injEq] at e; subst e; exact .bl b
    | int i => simp only [thawN, Option.some.injEq] at e; subst e; exact .int i
    | str x => simp only [thawN, Option.some.injEq] at e; subst e; exact .str x
    | ref a => simp only [thawN, Option.some.injEq] at e; subst e; exact .ref a
    | ty a => simp only [thawN, Option.some.injEq] at e; subst e; exact .ty a
  | n + 2, _, d, d', r, e => by
    have ih : ∀ {v : V} {d d' : D}, Rep K G v d → thawN (n + 1) l d = some d' → Rep K (gf H) v d' := fun r e => thaw_ok q g r e
    cases r with
    | lst h r =>
      simp only [thawN, Option.map_eq_some_iff] at e
      obtain ⟨xs, e1, rfl⟩ := e
      exact .lst (gf_sq (k := true) (g.seq h)) (thawL_ok ih r e1)
    | tup h r =>
      simp only [thawN, Option.map_eq_some_iff] at e
      obtain ⟨xs, e1, rfl⟩ := e
      exact .tup (gf_sqC (g.seqC h)) (thawL_ok ih r e1)
    | dct h r => simp [thawN] at e
    | ins h r =>
      simp only [thawN, Option.map_eq_some_iff] at e
      obtain ⟨xs, e1, rfl⟩ := e
      exact .ins (gf_some.mpr (g _ _ h)) (thawF_ok ih r e1)
    | @obj a m h =>
      simp only [thawN] at e
      split at e
      · rename_i xs e1
        simp only [Option.map_eq_some_iff] at e
        obtain ⟨ys, e2, rfl⟩ := e
        obtain ⟨b, e3, h2, vs, e4, r⟩ := q.get (.obj h) e1
        cases e3
        exact .lst (gf_sq (k := true) (.inl (.inl e4))) (thawL_ok ih r e2)
      · rename_i C xs e1
        simp only [Option.map_eq_some_iff] at e
        obtain ⟨ys, e2, rfl⟩ := e
        obtain ⟨b, e3, h2, dx, vs, e4, r⟩ := q.get (.obj h) e1
        cases e3
        exact .ins (gf_some.mpr e4) (thawF_ok ih r e2)
      · cases e
    | non => simp only [thawN, Option.some.injEq] at e; subst e; exact .non
    | bl b => simp only [thawN, Option.some.injEq] at e; subst e; exact .bl b
    | int i => simp only [thawN, Option.some.injEq] at e; subst e; exact .int i
    | str x => simp only [thawN, Option.some.injEq] at e; subst e; exact .str x
    | ref a => simp only [thawN, Option.some.injEq] at e; subst e; exact .ref a
    | ty a => simp only [thawN, Option.some.injEq] at e; subst e; exact .ty a
def thaw (l : List Ob) (d : D) : Option D := thawN 24 l d
def thaws (l : List Ob) (d : List D) : Option (List D) := thawL 24 l d
def scalS : D → Option D
  | .non => some .non
  | .bl b => some (.bl b)
  | .int i => some (.int i)
  | .str x => some (.str x)
  | _ => none
theorem Rep.scS {G G' : Gh} {v : V} {d d' : D} (r : Rep K G v d) (h : scalS d = some d') : d' = d ∧ Rep K G' v d := by
  cases r <;> cases h <;> exact ⟨rfl, by constructor⟩
def VOpS (K : PySem.W.Frag) (r : R2) (f : List Ob → D → D → Option D) : Prop := ∀ (l : List Ob) (G : Gh) (H : Hp) (x y : V) (dx dy d : D) (Q : VK), StOk K G H l → Sh G H → Rep K G x dx → Rep K G y dy → f l dx dy = some d → (∀ v G' H', Tr0 G H G' H' → Rep K G' v d → Q v H') → r x y H Q
def VClS (K : PySem.W.Frag) (r : List V → Hp → VK → Prop) (f : List Ob → List D → Option D) : Prop := ∀ (l : List Ob) (G : Gh) (H : Hp) (x : List V) (dx : List D) (d : D) (Q : VK), StOk K G H l → Sh G H → Reps K G x dx → f l dx = some d → (∀ v G' H', Tr0 G H G' H' → Rep K G' v d → Q v H') → r x H Q
theorem Tr0.fromGf {G' : Gh} {H' : Hp} (g : Sh G H) (t : Tr0 (gf H) H G' H') : Tr0 G H G H' := ⟨Sx.refl _, sh_mono g t.kp, fun _ e => .inl e, t.kp, t.dm, fun _ _ e => e⟩
def liftO (f : D → D → Option D) (l : List Ob) (x y : D) : Option D := (thaw l x).bind fun x => (thaw l y).bind fun y => (f x y).bind scalS
def liftC (f : List D → Option D) (l : List Ob) (x : List D) : Option D := (thaws l x).bind fun x => (f x).bind scalS
theorem VOp.liftS {r : R2} {f : D → D → Option D} (h : VOp K r f) : VOpS K r (liftO f) := by
  intro l G H x y dx dy d Q q g rx ry e k
  simp only [liftO, Option.bind_eq_some_iff] at e
  obtain ⟨x', e1, y', e2, d', e3, e4⟩ := e
  refine h (gf H) H x y x' y' d' Q (gf_sh (Same.refl _)) (thaw_ok q g rx e1) (thaw_ok q g ry e2) e3 fun v G' H' t r' => ?_
  obtain ⟨rfl, r2⟩ := r'.scS (G' := G) e4
  exact k v G H' (t.fromGf g) r2
theorem VCl.liftS {r : List V → Hp → VK → Prop} {f : List D → Option D} (h : VCl K r f) : VClS K r (liftC f) := by
  intro l G H x dx d Q q g rx e k
  simp only [liftC, Option.bind_eq_some_iff] at e
  obtain ⟨x', e1, d', e3, e4⟩ := e
  refine h (gf H) H x x' d' Q (gf_sh (Same.refl _)) (thawL_ok (fun r e => thaw_ok q g r e) rx e1) e3 fun v G' H' t r' => ?_
  obtain ⟨rfl, r2⟩ := r'.scS (G' := G) e4
  exact k v G H' (t.fromGf g) r2
def mBinS (O : Wo) (f : List Ob → D → D → Option D) (a b : ME O) : ME O := fun ρ s => (a ρ s).bind fun x s1 => (b ρ s1).bind fun y s2 => R.lift (f (O.st s2) x y) s2
def mClS (O : Wo) (f : List Ob → List D → Option D) (a : MA O) : ME O := fun ρ s => (a ρ s).bind fun x s1 => R.lift (f (O.st s1) x) s1
theorem Fm.sto {H0 : Hp} (F : Fm K O H0 σ ρ G H s) : StOk K G H (O.st s) := O.sto K s G H F.ok
theorem snd_opS {r : R2} {f : List Ob → D → D → Option D} {ta tb : TE} {ma mb : ME O} (hv : VOpS K r f) (ha : SndE K O Wx ta ma) (hb : SndE K O Wx tb mb) : SndE K O Wx (tOp r ta tb) (mBinS O f ma mb) := by
  intro σ ρ H0 G H s Q F h
  refine ha σ ρ H0 G H s _ F (pst_bind h fun dx s1 _ x G1 H1 t1 k1 r1 h1 => ?_)
  have F1 := F.tr t1 k1
  refine hb σ ρ H0 G1 H1 s1 _ F1 (pst_bind h1 fun dy s2 _ y G2 H2 t2 k2 r2 h2 => ?_)
  have F2 := F1.tr t2 k2
  obtain ⟨d, e, q⟩ := pst_lift F2 h2
  exact hv _ G2 H2 x y dx dy d Q F2.sto F2.gh (r1.mono t2.gg) r2 e q
theorem snd_clS {r : List V → Hp → VK → Prop} {f : List Ob → List D → Option D} {ta : TA} {ma : MA O} (hv : VClS K r f) (ha : SndA K O Wx ta ma) : SndE K O Wx (tCB r ta) (mClS O f ma) := by
  intro σ ρ H0 G H s Q F h
  refine ha σ ρ H0 G H s _ F (pst_bind h fun dx s1 _ x G1 H1 t1 k1 r1 h1 => ?_)
  have F1 := F.tr t1 k1
  obtain ⟨d, e, q⟩ := pst_lift F1 h1
  exact hv _ G1 H1 x dx d Q F1.sto F1.gh r1 e q
theorem de_cmpS {op : CmpOp} {r : R2} {f : List Ob → D → D → Option D} {a b : Expr} {ta tb : TE} {ma mb : ME O} {pos : Pos} (ho : OpR X (compareOp op) r) (hv : VOpS K r f) (ha : DE K O Wx X a ta ma) (hb : DE K O Wx X b tb mb) (hm : behindInMarks op b = false) :
    DE K O Wx X (.Compare a [op] [b] pos) (tOp r ta tb) (mBinS O f ma mb) := ⟨ha.hK, ha.tk, pe_cmpR ho ha.pe hb.pe hm, snd_opS hv ha.sn hb.sn⟩
theorem dt_cmpS {op : CmpOp} {r : R2} {f : List Ob → D → D → Option D} {a b : Expr} {ta tb : TE} {ma mb : ME O} {pos : Pos} (ho : OpR X (compareOp op) r) (hv : VOpS K r f) (ha : DE K O Wx X a ta ma) (hb : DE K O Wx X b tb mb) (hm : behindInMarks op b = false) :
    DT K O Wx X (.Compare a [op] [b] pos) (tTest (tOp r ta tb)) (mTest O (mBinS O f ma mb)) := ⟨ha.hK, ha.tk, pt_cmpR ho ha.pe hb.pe hm, snd_test (snd_opS hv ha.sn hb.sn)⟩
theorem de_callBS {id : String} {x : Str} {r : List V → Hp → VK → Prop} {f : List Ob → List D → Option D} {e : Expr} {es : List Expr} {ta : TA} {ma : MA O} {p pos : Pos} (hc : CallR X (.builtin id) r) (hv : VClS K r f) (hm : X.mg x = none) (hb : bootBuiltins x = some (.builtin id)) (ha : DA K O Wx X (e :: es) ta ma)
    (hg : Gl X x := by rfl) (hn : x ≠ "__name__" := by decide) (hdb : (x == ("__debug__" : Str)) = false := by decide) (he : starEach (e :: es) X.env = (false, eval e X.env) :: starEach es X.env := by rfl) (hpl : (backTo pos (starEach es X.env)).any (·.1) = false := by rfl) :
    DE K O Wx X (.Call (.Name x p) (e :: es) [] pos) (tCB r ta) (mClS O f ma) := ⟨ha.hK, ha.tk, pe_callB hc hg hm hb ha.pe hn hdb he hpl, snd_clS hv ha.sn⟩
theorem de_callTS {T : String} {x : Str} {r : List V → Hp → VK → Prop} {f : List Ob → List D → Option D} {e : Expr} {es : List Expr} {ta : TA} {ma : MA O} {p pos : Pos} (hc : CallR X (.type T) r) (hv : VClS K r f) (hm : X.mg x = none) (hb : bootBuiltins x = some (.type T)) (ha : DA K O Wx X (e :: es) ta ma)
    (hg : Gl X x := by rfl) (hn : x ≠ "__name__" := by decide) (hdb : (x == ("__debug__" : Str)) = false := by decide) (he : starEach (e :: es) X.env = (false, eval e X.env) :: starEach es X.env := by rfl) (hpl : (backTo pos (starEach es X.env)).any (·.1) = false := by rfl) :
    DE K O Wx X (.Call (.Name x p) (e :: es) [] pos) (tCB r ta) (mClS O f ma) := ⟨ha.hK, ha.tk, pe_callTy hc hg hm hb ha.pe hn hdb he hpl, snd_clS hv ha.sn⟩
theorem pe_alt {e : Expr} {t u : TE} (h1 : PE X e t) (h2 : PE X e u) : PE X e (fun σ H Q => t σ H Q ∨ u σ H Q) := ⟨fun pins s σ H Q I h => h.elim (fun h => h1.run pins s σ H Q I h) (fun h => h2.run pins s σ H Q I h)⟩
theorem call_alt {f : Value} {r u : List V → Hp → VK → Prop} (h1 : CallR X f r) (h2 : CallR X f u) : CallR X f (fun xs H Q => r xs H Q ∨ u xs H Q) := by
  intro pins s σ H xs us Q I r h
  exact h.elim (fun h => h1 pins s σ H xs us Q I r h) (fun h => h2 pins s σ H xs us Q I r h)
end
end Mr
namespace Mr
open PySem PySem.Spec PyProof.Rows L2 RZ
section
variable {K : PySem.W.Frag} {O : Wo} {Wx : WX} {X : Cx} {G0 : Gh} {H0 : Hp} {G : Gh} {H : Hp} {G' : Gh} {H' : Hp} {G1 : Gh} {H1 : Hp} {σ : L2.St} {ρ : Ev} {s s1 : O.S} {l : List Ob}
theorem notW_mk (F : Fm K O H0 σ ρ G H s) {a : Addr} {n : Nat} (h : Mkk G a n) : ¬ O.W a := fun w => h.none (F.wg a w)
theorem StOk.set (q : StOk K G H l) {a : Addr} {n : Nat} {o : HO} {ob : Ob} (h : Mkd G a n ob) (hb : ObOk K G (upd H a o) a ob) : StOk K G (upd H a o) (l.set n ob) where
  at_ := fun m o' e => by
    by_cases hm : n = m
    · subst hm
      have hl : n < l.length := q.lt a n h.mk
      rw [List.getElem?_set_self hl] at e
      cases e
      exact ⟨a, h, hb⟩
    · rw [List.getElem?_set_ne hm] at e
      obtain ⟨b, h1, h2⟩ := q.at_ m o' e
      have hne : b ≠ a := fun z => by
        subst z
        have k1 := h.mk
        have k2 := h1.mk
        rcases k1 with k1 | ⟨u, k1⟩ <;> rcases k2 with k2 | ⟨u', k2⟩ <;> (rw [k1] at k2; cases k2) <;> exact hm rfl
      exact ⟨b, h1, h2.loc (Sm.refl _) (upd_ne hne)⟩
  lt := fun b m e => by rw [List.length_set]; exact q.lt b m e
  inj := q.inj
theorem Fm.stw (F : Fm K O H0 σ ρ G H s) {a : Addr} {n : Nat} {o : HO} {ob : Ob} (h : G a = some (.mk n)) (hn : ∀ u v, H a ≠ some (.frz u v)) (hs : isSt o = true) (hb : ObOk K G (upd H a o) a ob) (hd : Mkd G a n ob) :
    Tr O.W G H G (upd H a o) ∧ O.ok K (O.wi s ((O.st s).set n ob)) G (upd H a o) := by
  refine ⟨⟨Sm.refl _, fun b g e => ?_, fun b e => .inl e, fun b u w m e => ?_, fun b e => ?_, fun b u v e => ?_⟩, O.stu K s G H G _ _ F.ok (fun w hw => ?_) (F.sto.set hd hb)⟩
  · cases g with
    | fro u => exact (F.gh b _ e).cong (upd_ne (fun z => by subst z; rw [h] at e; cases e))
    | mk k =>
      by_cases hb : b = a
      · subst hb; exact ⟨o, upd_same, hs⟩
      · obtain ⟨u, h1, h2⟩ := F.gh b _ e
        exact ⟨u, (upd_ne hb).trans h1, h2⟩
    | mkf k u => exact (F.gh b _ e).cong (upd_ne (fun z => by subst z; rw [h] at e; cases e))
  · rw [upd_ne (fun z => by subst z; exact m n h)]; exact e
  · by_cases hb : b = a
    · subst hb; rw [upd_same] at e; cases e
    · rw [upd_ne hb] at e; exact e
  · rw [upd_ne (fun z => by subst z; exact hn u v e)]; exact e
  · exact upd_ne (fun z => by subst z; exact notW_mk F (.inl h) hw)
def mkG (G : Gh) (p : Addr) (n : Nat) : Gh := fun b => if b = p then some (.mk n) else G b
theorem mkG_same {p : Addr} {n : Nat} : mkG G p n p = some (.mk n) := by unfold mkG; rw [if_pos rfl]
theorem mkG_ne {p b : Addr} {n : Nat} (h : b ≠ p) : mkG G p n b = G b := by unfold mkG; rw [if_neg h]
theorem Sx.mkG {p : Addr} {n : Nat} (g : G p = none) : Sx G (Mr.mkG G p n) := fun b u e => by rw [mkG_ne (gne_of_none e g)]; exact e
theorem Sm.mkG {p : Addr} {n : Nat} (g : G p = none) : Sm G (Mr.mkG G p n) := (Sx.mkG g).m
theorem sh_mkG {p : Addr} {n : Nat} {o : HO} (g : Sh G H) (h : H p = some o) (hs : isSt o = true) : Sh (Mr.mkG G p n) H := fun b u e => by
  by_cases hb : b = p
  · subst hb; rw [mkG_same] at e; cases e; exact ⟨o, h, hs⟩
  · rw [mkG_ne hb] at e; exact g b u e
theorem Tr.mark {W : Addr → Prop} {p : Addr} {n : Nat} {o : HO} (t : Tr W G H G' H') (np : H p = none) (g : G' p = none) (h : H' p = some o) (hs : isSt o = true) : Tr W G H (Mr.mkG G' p n) H' := by
  refine ⟨t.gg.trans (Sm.mkG g), sh_mkG t.gh h hs, fun b e => ?_, t.kp, t.dm, t.fz⟩
  by_cases hb : b = p
  · subst hb; exact .inr np
  · rw [mkG_ne hb] at e; exact t.gr b e
theorem mk_mkG {p b : Addr} {n m : Nat} (h : Mkk (mkG G p n) b m) : (b = p ∧ m = n) ∨ (b ≠ p ∧ Mkk G b m) := by
  by_cases hb : b = p
  · subst hb
    rcases h with h | ⟨u, h⟩ <;> (rw [mkG_same] at h; cases h)
    exact .inl ⟨rfl, rfl⟩
  · refine .inr ⟨hb, ?_⟩
    rcases h with h | ⟨u, h⟩
    · rw [mkG_ne hb] at h; exact .inl h
    · rw [mkG_ne hb] at h; exact .inr ⟨u, h⟩
theorem StOk.new (q : StOk K G H l) {p : Addr} {ob : Ob} (g : G p = none) (hb : ObOk K (mkG G p l.length) H p ob) (hd : Mkd (mkG G p l.length) p l.length ob) : StOk K (mkG G p l.length) H (l ++ [ob]) where
  at_ := fun m o e => by
    by_cases hm : m < l.length
    · rw [List.getElem?_append_left hm] at e
      obtain ⟨b, h1, h2⟩ := q.at_ m o e
      exact ⟨b, h1.mono (Sx.mkG g), h2.loc (Sm.mkG g) rfl⟩
    · rw [List.getElem?_append_right (by omega)] at e
      have hl : m = l.length := by
        have := (List.getElem?_eq_some_iff.mp e).1
        simp at this
        omega
      subst hl
      simp at e
      subst e
      exact ⟨p, hd, hb⟩
  lt := fun b m e => by
    rw [List.length_append]
    rcases mk_mkG e with ⟨_, rfl⟩ | ⟨_, e⟩
    · simp
    · have := q.lt b m e
      simp
      omega
  inj := fun a b m e1 e2 => by
    rcases mk_mkG e1 with ⟨rfl, rfl⟩ | ⟨_, e1⟩
    · rcases mk_mkG e2 with ⟨h, _⟩ | ⟨_, e2⟩
      · exact h.symm
      · exact absurd (q.lt b _ e2) (Nat.lt_irrefl _)
    · rcases mk_mkG e2 with ⟨_, rfl⟩ | ⟨_, e2⟩
      · exact absurd (q.lt a _ e1) (Nat.lt_irrefl _)
      · exact q.inj a b m e1 e2
theorem ok_mark {p : Addr} {ob : Ob} (k : O.ok K s G H) (g : G p = none) (hb : ObOk K (mkG G p (O.st s).length) H p ob) (hd : Mkd (mkG G p (O.st s).length) p (O.st s).length ob := by exact mkG_same) : O.ok K (O.wi s (O.st s ++ [ob])) (mkG G p (O.st s).length) H :=
  O.stu K s G H _ H _ k (fun _ _ => rfl) ((O.sto K s G H k).new g hb hd)
/-- a new list of the store -/
def mObjL (O : Wo) (m : MA O) : ME O := fun ρ s => (m ρ s).bind fun xs s1 => .ok (.obj (O.st s1).length) (O.wi s1 (O.st s1 ++ [.lst xs]))
theorem DN.obj {e : Expr} {t : TE} {m : MA O} (h : DN K O Wx X e t m) : DE K O Wx X e t (mObjL O m) := by
  refine ⟨h.hK, h.tk, h.pe, fun σ ρ H0 G H s Q F q => ?_⟩
  refine h.sn σ ρ H0 G H s Q F ?_
  unfold mObjL at q
  revert q
  cases m ρ s with
  | ok ds s1 =>
    exact fun q p vs G' H' t k n g e r => q (.ref p) (mkG G' p (O.st s1).length) H' (t.mark n g e rfl) (ok_mark k g ⟨vs, e, r.mono (Sm.mkG g)⟩) (.obj (.inl mkG_same))
  | err c fs s1 => exact fun q => q
  | bad => exact fun q => q
/-- an expression whose value is a new dict, that nobody else holds -/
def PstM (K : PySem.W.Frag) (O : Wo) (Wx : WX) (σ : L2.St) (G : Gh) (H : Hp) (r : R O.S (List (Key × D))) (Q : VK) : Prop :=
  match r with
  | .ok ds s' => ∀ p vs G' H', Tr O.W G H G' H' → O.ok K s' G' H' → H p = none → G' p = none → H' p = some (.dK vs) → RepK K G' vs ds → Q (.ref p) H'
  | .err c fs s' => ∀ dd xs G' H', Tr O.W G H G' H' → O.ok K s' G' H' → XdA H' dd xs → NwA O dd → RepF K G' xs fs → Wx (.ref c) dd σ H'
  | .bad => False
abbrev MM (O : Wo) := Ev → O.S → R O.S (List (Key × D))
def SndM (K : PySem.W.Frag) (O : Wo) (Wx : WX) (t : TE) (m : MM O) : Prop := ∀ σ ρ H0 G H s Q, Fm K O H0 σ ρ G H s → PstM K O Wx σ G H (m ρ s) Q → t σ H Q
structure DM (K : PySem.W.Frag) (O : Wo) (Wx : WX) (X : Cx) (e : Expr) (t : TE) (m : MM O) : Prop where
  hK : X.K = K
  tk : Takes X Wx
  pe : PE X e t
  sn : SndM K O Wx t m
def mObjD (O : Wo) (m : MM O) : ME O := fun ρ s => (m ρ s).bind fun xs s1 => .ok (.obj (O.st s1).length) (O.wi s1 (O.st s1 ++ [.dct xs]))
theorem DM.obj {e : Expr} {t : TE} {m : MM O} (h : DM K O Wx X e t m) : DE K O Wx X e t (mObjD O m) := by
  refine ⟨h.hK, h.tk, h.pe, fun σ ρ H0 G H s Q F q => ?_⟩
  refine h.sn σ ρ H0 G H s Q F ?_
  unfold mObjD at q
  revert q
  cases m ρ s with
  | ok ds s1 =>
    exact fun q p vs G' H' t k n g e r => q (.ref p) (mkG G' p (O.st s1).length) H' (t.mark n g e rfl) (ok_mark k g ⟨vs, e, r.mono (Sm.mkG g)⟩) (.obj (.inl mkG_same))
  | err c fs s1 => exact fun q => q
  | bad => exact fun q => q
def mDct (O : Wo) (m : MM O) : ME O := fun ρ s => (m ρ s).bind fun xs s1 => .ok (.dct xs) s1
/-- the new dict is locked for good -/
def tFzE (t : TE) : TE := fun σ H Q => t σ H fun v H1 => ∃ d kvs, v = .ref d ∧ H1 d = some (.dK kvs) ∧ ∀ od, Q v (upd H1 d (.frz od (.dK kvs)))
theorem pe_fz {e : Expr} {t : TE} (h : PE X e t) : PE X e (tFzE t) := ⟨fun pins s σ H Q I q => thn (h.run pins s σ H _ I q) fun v s1 ⟨x, H1, I1, r, d, kvs, ex, hd, q1⟩ => by
  obtain ⟨od, I2⟩ := I1.lock hd trivial
  exact ⟨x, _, I2, r, q1 od⟩⟩
theorem DM.de {e : Expr} {t : TE} {m : MM O} (h : DM K O Wx X e t m) : DE K O Wx X e (tFzE t) (mDct O m) := by
  refine ⟨h.hK, h.tk, pe_fz h.pe, fun σ ρ H0 G H s Q F q => ?_⟩
  refine h.sn σ ρ H0 G H s _ F ?_
  unfold mDct at q
  revert q
  cases m ρ s with
  | ok ds s1 =>
    intro q p vs G' H' t k n g e r
    refine ⟨p, vs, rfl, e, fun od => ?_⟩
    exact q (.ref p) (up G' p (.frz od (.dK vs))) _ (t.lockN n e g) (ok_up (ok_off k g (fun w => O.dom K s G H p F.ok w n)) g) (.dct up_same (r.mono (Sm.up g)))
  | err c fs s1 => exact fun q => q
  | bad => exact fun q => q
end
structure FoO (P : Program) (w : World) (K : PySem.W.Frag) (mg : Str → Option Value) (base : Heap) (O : Wo) (C : Addr) (k : Nat) (n : Nat) (m : List D → O.S → R O.S D) : Prop where
  ex : ∃ f fd ps, FnOk P w K mg base (L2.CX P w) k f fd ps (spM K O (n + 1) m) ∧ Mk K C f ∧ Binds K fd ps []
section
variable {K : PySem.W.Frag} {O : Wo} {Wx : WX} {X : Cx} {G : Gh} {H : Hp} {G1 : Gh} {H1 : Hp} {σ : L2.St} {ρ : Ev}
end
end Mr
namespace Mr
open PySem PySem.Spec PyProof.Rows L2 RZ
section
variable {K : PySem.W.Frag} {O : Wo} {Wx : WX} {X : Cx} {G0 : Gh} {H0 : Hp} {G : Gh} {H : Hp} {G1 : Gh} {H1 : Hp} {σ : L2.St} {ρ : Ev} {s s1 : O.S} {l : List Ob}
section
variable {C : Addr} {k j n : Nat} {x cx : Str} {fs : List Str} {m : List D → O.S → R O.S D} {o e : Expr} {es : List Expr} {to : TE} {ta : TA} {mo : ME O} {ma : MA O} {apos pos : Pos}
end
def dIdxS (l : List Ob) (x y : D) : Option D := match dcS l x with
  | some kvs => (toKey y).bind fun k => valP kvs k
  | none => match sqS l x with
    | some (_, xs) => (match y with
      | .int i => atI xs i
      | _ => none)
    | none => dIdx x y
def mIdxS (O : Wo) (a b : ME O) : ME O := mBinS O dIdxS a b
theorem de_idxS {a b : Expr} {ta tb : TE} {ma mb : ME O} {pos : Pos} {j : Nat} (hr : Room j X.A) (ha : DE K O Wx X a ta ma) (hb : DE K O Wx X b tb mb) (hs : PlainIx b := by exact fun _ _ => rfl) (hs2 : NoSl b := by exact fun _ _ => rfl) :
    DE K O Wx X (.Subscript a b pos) (fun σ H Q => tDGet ta tb σ H Q ∨ tOp (rIx K) ta tb σ H Q) (mIdxS O ma mb) := by
  refine ⟨ha.hK, ha.tk, pe_alt (pe_dget (hu_of hr) ha.pe hb.pe hs2) (pe_ix (ix_G ha.hK) ha.pe hb.pe hs), fun σ ρ H0 G H s Q F h => ?_⟩
  by_cases hd : ∃ x s1 y s2 kvs, ma ρ s = .ok x s1 ∧ mb ρ s1 = .ok y s2 ∧ dcS (O.st s2) x = some kvs
  · refine .inl ?_
    obtain ⟨x0, z1, y0, z2, kvs, q1, q2, q3⟩ := hd
    refine ha.sn σ ρ H0 G H s _ F (pst_bind h fun dx s1 e1 x G1 H1 t1 k1 r1 h1 => ?_)
    rw [q1] at e1
    cases e1
    have F1 := F.tr t1 k1
    refine hb.sn σ ρ H0 G1 H1 _ _ F1 (pst_bind h1 fun dy s2 e2 y G2 H2 t2 k2 r2 h2 => ?_)
    rw [q2] at e2
    cases e2
    have F2 := F1.tr t2 k2
    simp only [dIdxS, q3] at h2
    obtain ⟨d, e, q⟩ := pst_lift F2 h2
    rw [Option.bind_eq_some_iff] at e
    obtain ⟨k, ek, ev⟩ := e
    have := r2.key ek
    subst this
    obtain ⟨a, vs, rfl, hR, rk⟩ := dcS_ok F2.sto F2.gh (r1.mono t2.gg) q3
    obtain ⟨v, e3, e4⟩ := rk.val ev
    refine ⟨_, v, rfl, ?_, q v G2 H2 (.refl t2.gh) e4⟩
    rw [← e3]
    exact DGet.r hR
  · refine .inr ?_
    refine ha.sn σ ρ H0 G H s _ F (pst_bind h fun dx s1 e1 x G1 H1 t1 k1 r1 h1 => ?_)
    have F1 := F.tr t1 k1
    refine hb.sn σ ρ H0 G1 H1 _ _ F1 (pst_bind h1 fun dy s2 e2 y G2 H2 t2 k2 r2 h2 => ?_)
    have F2 := F1.tr t2 k2
    have q3 : dcS (O.st s2) dx = none := by
      cases q : dcS (O.st s2) dx with
      | none => rfl
      | some kvs => exact absurd ⟨_, _, _, _, kvs, e1, e2, q⟩ hd
    simp only [dIdxS, q3] at h2
    obtain ⟨d, e, q⟩ := pst_lift F2 h2
    have rx := r1.mono t2.gg
    cases e5 : sqS (O.st s2) dx with
    | none =>
      rw [e5] at e
      exact vop_idx G2 H2 x y dx dy d Q F2.gh rx r2 e q
    | some kx =>
      obtain ⟨k, xs⟩ := kx
      rw [e5] at e
      dsimp only at e
      cases dy with
      | int i =>
        cases r2
        obtain ⟨a, vs, rfl, hq, r⟩ := sqS_ok F2.sto F2.gh rx e5
        obtain ⟨jj, ej, ex⟩ : ∃ jj, ixN xs.length i = some jj ∧ xs[jj]? = some d := by
          unfold atI at e
          rw [Option.bind_eq_some_iff] at e
          exact e
        obtain ⟨v, ev, rv⟩ := r.get' ex
        have ea : atI vs i = some v := by
          unfold atI
          rw [r.length, ej]
          exact ev
        cases k with
        | true => exact .inl ⟨_, vs, i, v, rfl, rfl, hq, ea, q v G2 H2 (.refl t2.gh) rv⟩
        | false => exact .inr (.inl ⟨_, vs, i, v, rfl, rfl, hq, ea, q v G2 H2 (.refl t2.gh) rv⟩)
      | _ => cases e
end
end Mr
namespace Mr
open PySem PySem.Spec PyProof.Rows L2 RZ
section
variable {K : PySem.W.Frag} {O : Wo} {Wx : WX} {X : Cx} {G0 : Gh} {H0 : Hp} {G : Gh} {H : Hp} {G1 : Gh} {H1 : Hp} {σ : L2.St} {ρ : Ev} {s s1 : O.S} {l : List Ob}
def dLenS (l : List Ob) : List D → Option D
  | [x] => match sqS l x with
    | some (_, xs) => some (.int xs.length)
    | none => match dcS l x with
      | some kvs => some (.int kvs.length)
      | none => dLen [x]
  | _ => none
/-- len of a dict, a locked one too -/
theorem call_lenR {X : Cx} : CallR X (.builtin "len") (fun xs H Q => ∃ a kvs, xs = [V.ref a] ∧ Rd H a (.dK kvs) ∧ Q (.int kvs.length) H) := by
  intro pins s σ H xs us Q I r h
  obtain ⟨a, kvs, rfl, ha, q⟩ := h
  obtain ⟨u, rfl, ru⟩ := vals1 r
  cases ru
  exact d_len I ha fun t s' I' => ⟨.int kvs.length, H, I', ⟨t, rfl⟩, q⟩
theorem vcl_lenS : VClS K (fun xs H Q => (∃ x n, xs = [x] ∧ LenV K x H n ∧ Q (.int n) H) ∨ ∃ a kvs, xs = [V.ref a] ∧ Rd H a (.dK kvs) ∧ Q (.int kvs.length) H) dLenS := by
  intro l G H x dx d Q q g rx e k
  unfold dLenS at e
  split at e
  · rename_i x0
    cases rx with
    | cons r1 r2 =>
      cases r2
      cases e1 : sqS l x0 with
      | some kx =>
        obtain ⟨kk, xs⟩ := kx
        rw [e1] at e
        cases e
        obtain ⟨a, vs, rfl, hq, r⟩ := sqS_ok q g r1 e1
        rw [← r.length] at k
        refine .inl ⟨_, _, rfl, ?_, k _ G H (.refl g) (.int _)⟩
        cases kk with
        | true => exact .inl ⟨vs, hq, rfl⟩
        | false => exact .inr ⟨vs, hq, rfl⟩
      | none =>
        rw [e1] at e
        dsimp only at e
        cases e2 : dcS l x0 with
        | some kvs =>
          rw [e2] at e
          cases e
          obtain ⟨a, vs, rfl, hR, r⟩ := dcS_ok q g r1 e2
          rw [← r.length] at k
          exact .inr ⟨a, vs, rfl, hR, k _ G H (.refl g) (.int _)⟩
        | none =>
          rw [e2] at e
          exact .inl (vcl_len G H _ _ d Q g (.cons r1 .nil) e k)
  · cases e
theorem call_lenSG {X : Cx} (hK : X.K = K) : CallR X (.builtin "len") (fun xs H Q => (∃ x n, xs = [x] ∧ LenV K x H n ∧ Q (.int n) H) ∨ ∃ a kvs, xs = [V.ref a] ∧ Rd H a (.dK kvs) ∧ Q (.int kvs.length) H) := by subst hK; exact call_alt call_len call_lenR
theorem de_eqS {a b : Expr} {ta tb : TE} {ma mb : ME O} {pos : Pos} {j : Nat} (hr : Room j X.A) (ha : DE K O Wx X a ta ma) (hb : DE K O Wx X b tb mb) : DE K O Wx X (.Compare a [.Eq] [b] pos) (tOp (rEqG K) ta tb) (mBinS O (liftO dEq) ma mb) := de_cmpS (op_eqG ha.hK hr.units) vop_eq.liftS ha hb (nomark _)
def dTruthS (l : List Ob) (x : D) : Option Bool := match sqS l x with
  | some (_, xs) => some (!xs.isEmpty)
  | none => match x with
    | .obj n => (match l[n]? with
      | some (.dct kvs) => some (!kvs.isEmpty)
      | _ => none)
    | x => dTruth x
theorem RepK.isEmpty : ∀ {vs : List (Key × V)} {ds : List (Key × D)}, RepK K G vs ds → vs.isEmpty = ds.isEmpty
  | _, _, .nil => rfl
  | _, _, .cons _ _ => rfl
theorem truthS_ok {x : V} {dx : D} {b : Bool} (q : StOk K G H l) (g : Sh G H) (r : Rep K G x dx) (h : dTruthS l dx = some b) : TruV K x H b := by
  unfold dTruthS at h
  cases e1 : sqS l dx with
  | some kx =>
    obtain ⟨k, xs⟩ := kx
    rw [e1] at h
    cases h
    obtain ⟨a, vs, rfl, hq, r⟩ := sqS_ok q g r e1
    rw [← r.isEmpty]
    cases k with
    | true => exact .inl ⟨vs, hq, rfl⟩
    | false => exact .inr (.inl ⟨vs, hq, rfl⟩)
  | none =>
    rw [e1] at h
    dsimp only at h
    split at h
    · split at h
      · rename_i kvs e2
        cases h
        obtain ⟨a, rfl, h1, vs, h2, r2⟩ := q.get r e2
        rw [← r2.isEmpty]
        exact .inr (.inr ⟨vs, h2, rfl⟩)
      · cases h
    · exact truth_ok g r h
def mTruthS (O : Wo) (m : ME O) : MT O := fun ρ s => (m ρ s).bind fun x s1 => R.lift (dTruthS (O.st s1) x) s1
theorem dt_truthS {a : Expr} {ta : TE} {ma : ME O} (ha : DE K O Wx X a ta ma) (he : ∀ whole, isTrue a X.env whole = (do let v ← whole; standAt a.pos; holding [v] (truthy v)) := by intro _; rfl) :
    DT K O Wx X a (fun σ H Q => ta σ H fun x H1 => ∃ k, TruV K x H1 k ∧ Q k H1) (mTruthS O ma) := by
  refine ⟨ha.hK, ha.tk, ?_, ?_⟩
  · have := ha.hK
    subst this
    exact pt_truth ha.pe he
  · intro σ ρ H0 G H s Q F hq
    refine ha.sn σ ρ H0 G H s _ F (pst_bind hq fun dx s1 _ x G1 H1 t1 k1 r1 h1 => ?_)
    cases e : dTruthS (O.st s1) dx with
    | none => rw [e] at h1; exact (show False from h1).elim
    | some b =>
      rw [e] at h1
      exact ⟨b, truthS_ok (F.tr t1 k1).sto t1.gh r1 e, h1 b G1 H1 (.refl t1.gh) k1 rfl⟩
def mListNS (O : Wo) (a : MA O) : MA O := fun ρ s => (a ρ s).bind fun ds s1 => match ds with
  | [x] => (match sqS (O.st s1) x with
    | some (_, xs) => .ok xs s1
    | none => .bad)
  | _ => .bad
theorem dn_listOfS {e : Expr} {es : List Expr} {ta : TA} {ma : MA O} {p pos : Pos} (hm : X.mg "list" = none) (ha : DA K O Wx X (e :: es) ta ma)
    (hg : Gl X "list" := by rfl) (he : starEach (e :: es) X.env = (false, eval e X.env) :: starEach es X.env := by rfl) (hpl : (backTo pos (starEach es X.env)).any (·.1) = false := by rfl) :
    DN K O Wx X (.Call (.Name "list" p) (e :: es) [] pos) (tCB (rListOf K) ta) (mListNS O ma) := by
  refine ⟨ha.hK, ha.tk, (de_callT (f := dListOf) (call_listG ha.hK) vcl_listOf hm (by decide +kernel) ha hg (by decide) (by decide) he hpl).pe, fun σ ρ H0 G H s Q F h => ?_⟩
  refine ha.sn σ ρ H0 G H s _ F (pstN_bind h fun ds s1 _ vs G1 H1 t1 k1 r1 h1 => ?_)
  have F1 := F.tr t1 k1
  split at h1
  · rename_i x
    cases r1 with
    | cons ra rb =>
      cases rb
      split at h1
      · rename_i k xs e1
        obtain ⟨a, vs, rfl, hq, r⟩ := sqS_ok F1.sto F1.gh ra e1
        refine ⟨_, _, rfl, ?_, fun l n => newL (.refl F1.gh) k1 F1.gh h1 r n⟩
        cases k with
        | true => exact .inl hq
        | false => exact .inr hq
      · exact (show False from h1).elim
  · exact (show False from h1).elim
def dTupOfS (l : List Ob) : List D → Option D
  | [x] => (sqS l x).map fun kx => .tup kx.2
  | _ => none
theorem vcl_tupOfS : VClS K (rTupOf K) dTupOfS := by
  intro l G H x dx d Q q g rx e k
  unfold dTupOfS at e
  split at e
  · rename_i x0
    cases rx with
    | cons r1 r2 =>
      cases r2
      rw [Option.map_eq_some_iff] at e
      obtain ⟨⟨kk, xs⟩, e1, rfl⟩ := e
      cases r1 with
      | tup hs r => cases e1; exact ⟨_, _, rfl, .inr ⟨g.seqT hs, k _ G H (.refl g) (.tup hs r)⟩⟩
      | lst hs r => cases e1; exact ⟨_, _, rfl, .inl ⟨g.seq hs, fun p n => k _ _ _ (Tr0.new g n) (new_tup g n r)⟩⟩
      | @obj b n hh =>
        have ek : kk = true := by
          simp only [sqS] at e1
          split at e1 <;> cases e1
          rfl
        subst ek
        obtain ⟨a, vs, ea, hq, r⟩ := sqS_ok q g (.obj hh) e1
        cases ea
        exact ⟨_, _, rfl, .inl ⟨hq, fun p n => k _ _ _ (Tr0.new g n) (new_tup g n r)⟩⟩
      | _ => cases e1
  · cases e
/-- x[a:b] as a value: of a tuple a tuple, of a list a new list, told -/
def mSliceS (O : Wo) (a : ME O) (l h : MO O) : ME O := fun ρ s => (a ρ s).bind fun x s1 => (l ρ s1).bind fun lo s2 => (h ρ s2).bind fun hi s3 => match sqS (O.st s3) x with
  | some (true, xs) => .ok (.lst (cutD xs lo hi)) s3
  | some (false, xs) => .ok (.tup (cutD xs lo hi)) s3
  | none => .bad
theorem de_sliceS {e : Expr} {lo hi : Option Expr} {te : TE} {tl th : TO} {me : ME O} {ml mh : MO O} {p2 pos : Pos} (he : DE K O Wx X e te me) (hl : DO K O Wx X lo tl ml) (hh : DO K O Wx X hi th mh) :
    DE K O Wx X (.Subscript e (.Slice lo hi none p2) pos) (tSl (rSlG K) te tl th) (mSliceS O me ml mh) := by
  refine ⟨he.hK, he.tk, (de_slice he hl hh).pe, fun σ ρ H0 G H s Q F h => ?_⟩
  refine he.sn σ ρ H0 G H s _ F (pst_bind h fun dx s1 _ x G1 H1 t1 k1 r1 h1 => ?_)
  have F1 := F.tr t1 k1
  refine hl.sn σ ρ H0 G1 H1 s1 _ F1 (pst_bind h1 fun l s2 _ l' G2 H2 t2 k2 r2 h2 => ?_)
  have F2 := F1.tr t2 k2
  subst r2
  refine hh.sn σ ρ H0 G2 H2 s2 _ F2 (pst_bind h2 fun u s3 _ u' G3 H3 t3 k3 r3 h3 => ?_)
  have F3 := F2.tr t3 k3
  subst r3
  have rx : Rep K G3 x dx := (r1.mono t2.gg).mono t3.gg
  split at h3
  · rename_i xs e1
    obtain ⟨a, vs, rfl, hq, r⟩ := sqS_ok F3.sto F3.gh rx e1
    exact .inl ⟨_, _, rfl, hq, fun p n => h3 _ _ _ (Tr0.new F3.gh n).up (F3.keepW (Tr0.new F3.gh n)) (new_lst F3.gh n (r.cut _ _))⟩
  · rename_i xs e1
    cases rx with
    | tup hs r =>
      cases e1
      refine .inr ⟨_, _, rfl, F3.gh.seqT hs, fun z => ?_, fun z p n => h3 _ _ _ (Tr0.new F3.gh n).up (F3.keepW (Tr0.new F3.gh n)) (new_tup F3.gh n (r.cut _ _))⟩
      rw [r.cut_whole z] at h3
      exact h3 _ G3 H3 (.refl F3.gh) k3 (.tup hs r)
    | lst hs r => cases e1
    | @obj b n hx =>
      simp only [sqS] at e1
      split at e1 <;> cases e1
    | _ => cases e1
  · exact (show False from h3).elim
end
end Mr
namespace Mr
open PySem PySem.Spec PyProof.Rows L2 RZ
section
variable {K : PySem.W.Frag} {O : Wo} {Wx : WX} {X : Cx} {G0 : Gh} {H0 : Hp} {G : Gh} {H : Hp} {G1 : Gh} {H1 : Hp} {σ : L2.St} {ρ : Ev} {s s1 : O.S} {l : List Ob}
def notFrz : HO → Bool
  | .frz _ _ => false
  | _ => true
theorem nfz {a : Addr} {o : HO} (h : H a = some o) (n : notFrz o = true) : ∀ u v, H a ≠ some (.frz u v) := fun u v e => by rw [h] at e; cases e; cases n
def stPut (O : Wo) (s : O.S) (n : Nat) (ob : Ob) : O.S := O.wi s ((O.st s).set n ob)
def mMutL (O : Wo) (f : List D → List D → Option (D × List D)) (mo : ME O) (ma : MA O) : ME O := fun ρ s => (mo ρ s).bind fun x s1 => match x with
  | .obj n => (match (O.st s1)[n]? with
    | some (.lst _) => (ma ρ s1).bind fun ds s2 => (match (O.st s2)[n]? with
      | some (.lst xs) => (match f xs ds with
        | some (d, ys) => .ok d (stPut O s2 n (.lst ys))
        | none => .bad)
      | _ => .bad)
    | _ => .bad)
  | _ => .bad
theorem snd_mutL {r : V → List V → Hp → VK → Prop} {f : List D → List D → Option (D × List D)} (hr : OwnR K r f) {to : TE} {ta : TA} {mo : ME O} {ma : MA O} (ho : SndE K O Wx to mo) (ha : SndA K O Wx ta ma) : SndE K O Wx (tBM K "list" r to ta) (mMutL O f mo ma) := by
  intro σ ρ H0 G H s Q F h
  refine ho σ ρ H0 G H s _ F (pst_bind h fun x s1 _ xv G1 H1 t1 k1 r1 h1 => ?_)
  have F1 := F.tr t1 k1
  split at h1
  · rename_i n
    split at h1
    · rename_i xs0 e0
      obtain ⟨a, rfl, hg, vs0, hp0, _⟩ := F1.sto.get r1 e0
      refine ⟨.inl ⟨rfl, vs0, .inl (.inl hp0)⟩, ?_⟩
      refine ha σ ρ H0 G1 H1 s1 _ F1 (pst_bind h1 fun ds s2 _ ws G2 H2 t2 k2 r2 h2 => ?_)
      have F2 := F1.tr t2 k2
      split at h2
      · rename_i xs e1
        split at h2
        · rename_i d ys ef
          obtain ⟨b, eb, hg2, vs, hp, r3⟩ := F2.sto.get (r1.mono t2.gg) e1
          cases eb
          refine hr r3 r2 ef hp fun y vs' ry r4 => ?_
          obtain ⟨t5, k5⟩ := F2.stw (o := .lst vs') (ob := .lst ys) hg2 (nfz hp rfl) rfl ⟨vs', upd_same, r4⟩ hg2
          exact h2 y G2 _ t5 k5 ry
        · exact (show False from h2).elim
      · exact (show False from h2).elim
    · exact (show False from h1).elim
  · exact (show False from h1).elim
theorem de_mutL {r : V → List V → Hp → VK → Prop} {f : List D → List D → Option (D × List D)} {name : Str} {id : String} {o e : Expr} {es : List Expr} {to : TE} {ta : TA} {mo : ME O} {ma : MA O} {p2 p3 : Pos} (hr : OwnR K r f) (slot : Slot "list" name id) (hty : typeOf (.builtin id) = pure (.type "method_descriptor")) (hm : MtR X id r) (ho : DE K O Wx X o to mo) (ha : DA K O Wx X (e :: es) ta ma)
    (hbase : attributeBase o name X.env (eval o X.env) = eval o X.env := by rfl)
    (hfew : ((backTo p3 (starEach (e :: es) X.env)).all (fun x => !x.1) && (backToKw p3 (keywordEach [] X.env)).all (fun x => x.1.isSome) && decide ((e :: es).length + ([] : List Keyword).length + (if ([] : List Keyword).isEmpty then 0 else 1) < 30)) = true := by rfl)
    (hline : (p2.endLine == p3.line) = true := by rfl) (hse : starEach (e :: es) X.env = (false, eval e X.env) :: starEach es X.env := by rfl) (hpl : (backTo p3 (starEach es X.env)).any (·.1) = false := by rfl) :
    DE K O Wx X (.Call (.Attribute o name p2) (e :: es) [] p3) (tBM K "list" r to ta) (mMutL O f mo ma) := by
  refine ⟨ha.hK, ha.tk, by rw [← ha.hK]; exact pe_bm PySem.F.plainAttrs_list slot hty hm ho.pe ha.pe hbase hfew hline hse hpl, snd_mutL hr ho.sn ha.sn⟩
def lApp (xs : List D) : List D → Option (D × List D)
  | [d] => if xs.length < 100000 then some (.non, xs ++ [d]) else none
  | _ => none
theorem own_app : OwnR K rAppend lApp := by
  intro G H l vs ws xs ds ys d Q r1 r2 e hl q
  unfold lApp at e
  split at e
  · split at e
    · rename_i hz
      cases e
      cases r2 with
      | cons a b =>
        cases b
        exact ⟨l, vs, _, rfl, rfl, hl, by rw [r1.length]; exact sz5l hz, q _ _ .non (r1.append (.cons a .nil))⟩
    · cases e
  · cases e
end
end Mr
namespace Mr
open PySem PySem.Spec PyProof.Rows L2 RZ
section
variable {K : PySem.W.Frag} {O : Wo} {Wx : WX} {X : Cx} {G0 : Gh} {H0 : Hp} {G : Gh} {H : Hp} {G1 : Gh} {H1 : Hp} {σ : L2.St} {ρ : Ev} {s s1 : O.S} {l : List Ob}
def ItOkS (K : PySem.W.Frag) (J : It) (G : Gh) (items : List D) (c : List Ob → Prop) : Prop := ∀ G1 H l, Sm G G1 → Sh G1 H → StOk K G1 H l → c l → ∀ i : Nat,
  (∀ d, items[i]? = some d → J.go i H ∧ ∀ x H', J.yld i H x H' → ∃ G2, Tr0 G1 H G2 H' ∧ Rep K G2 x d) ∧ (items.length ≤ i → J.stop i H)
theorem itOk_s {J : It} {items : List D} {c : List Ob → Prop} (h : ItOk K J G items) : ItOkS K J G items c := fun G1 H l e1 e2 _ _ i => h G1 H e1 e2 i
abbrev MJ (O : Wo) := Ev → O.S → R O.S (List D × (List Ob → Prop))
def SndJ (K : PySem.W.Frag) (O : Wo) (Wx : WX) (w : TI) (m : MJ O) : Prop := ∀ σ ρ H0 G H s Q, Fm K O H0 σ ρ G H s → Pst K O Wx σ G H (fun G' J ic => ItOkS K J G' ic.1 ic.2) (m ρ s) Q → w σ H Q
structure DJ (K : PySem.W.Frag) (O : Wo) (Wx : WX) (X : Cx) (tg e : Expr) (w : TI) (m : MJ O) : Prop where
  pe : PI X tg e w
  sn : SndJ K O Wx w m
def mJI (O : Wo) (m : MI O) : MJ O := fun ρ s => (m ρ s).bind fun xs s1 => .ok (xs, fun _ => True) s1
theorem DI.j {tg e : Expr} {w : TI} {m : MI O} (h : DI K O Wx X tg e w m) : DJ K O Wx X tg e w (mJI O m) := by
  refine ⟨h.pe, fun σ ρ H0 G H s Q F q => h.sn σ ρ H0 G H s Q F ?_⟩
  unfold mJI at q
  revert q
  cases m ρ s with
  | ok ds s1 => exact fun q J G' H' t k r => q J G' H' t k (itOk_s r)
  | err c fs s1 => exact fun q => q
  | bad => exact fun q => q
/-- a list, a tuple, told or in the store -/
theorem it_seqS {a : Addr} {d : D} {k : Bool} {xs : List D} (r : Rep K G (.ref a) d) : ItOkS K (if k = true then Itl K a else Itt K a) G xs (fun l => sqS l d = some (k, xs)) := fun G1 H l e1 e2 q e i => by
  obtain ⟨a', vs, ea, hq, rr⟩ := sqS_ok q e2 (r.mono e1) e
  cases ea
  cases k with
  | true =>
    rw [if_pos rfl]
    have h1 : SqL K H a vs := hq
    refine ⟨fun d hd => ?_, fun hl => ⟨vs, h1, by rw [rr.length]; exact hl⟩⟩
    obtain ⟨v, hv, rv⟩ := rr.get' hd
    refine ⟨⟨vs, v, h1, hv⟩, fun x H' y => ?_⟩
    obtain ⟨e, y⟩ := y
    subst e
    have := y vs h1
    rw [hv] at this
    cases this
    exact ⟨G1, .refl e2, rv⟩
  | false =>
    rw [if_neg (by simp)]
    have h1 : SqT K H a vs := hq
    refine ⟨fun d hd => ?_, fun hl => ⟨vs, h1, by rw [rr.length]; exact hl⟩⟩
    obtain ⟨v, hv, rv⟩ := rr.get' hd
    refine ⟨⟨vs, v, h1, hv⟩, fun x H' y => ?_⟩
    obtain ⟨e, y⟩ := y
    subst e
    have := y vs h1
    rw [hv] at this
    cases this
    exact ⟨G1, .refl e2, rv⟩
def mJS (O : Wo) (m : ME O) : MJ O := fun ρ s => (m ρ s).bind fun x s1 => match sqS (O.st s1) x with
  | some (k, xs) => .ok (xs, fun l => sqS l x = some (k, xs)) s1
  | none => .bad
theorem dj_seq {tg e : Expr} {te : TE} {me : ME O} (he : DE K O Wx X e te me) : DJ K O Wx X tg e (iSeq K te) (mJS O me) := by
  refine ⟨by have := he.hK; subst this; exact pi_seq he.pe, fun σ ρ H0 G H s Q F h => ?_⟩
  refine he.sn σ ρ H0 G H s _ F (pst_bind h fun dx s1 _ x G1 H1 t1 k1 r1 h1 => ?_)
  have F1 := F.tr t1 k1
  split at h1
  · rename_i k xs e1
    obtain ⟨a, vs, rfl, hq, rr⟩ := sqS_ok F1.sto F1.gh r1 e1
    refine ⟨a, rfl, ?_⟩
    have it := it_seqS (k := k) (xs := xs) r1
    have h2 := h1 _ G1 H1 (.refl t1.gh) k1 it
    cases k with
    | true => exact .inl ⟨⟨vs, hq⟩, h2⟩
    | false => exact .inr ⟨⟨vs, hq⟩, h2⟩
  · exact (show False from h1).elim
/-- zip of two -/
theorem it_zip2S {k1 k2 : Bool} {a b : Addr} {d e : D} {xs ys : List D} (r1 : Rep K G (.ref a) d) (r2 : Rep K G (.ref b) e) : ItOkS K (ItN K [(k1, a), (k2, b)]) G (zipD xs ys) (fun l => sqS l d = some (k1, xs) ∧ sqS l e = some (k2, ys)) := fun G1 H l e1 e2 q c i => by
  obtain ⟨a', vs, ea, h1, r⟩ := sqS_ok q e2 (r1.mono e1) c.1
  cases ea
  obtain ⟨b', ws, eb, h2, r2⟩ := sqS_ok q e2 (r2.mono e1) c.2
  cases eb
  refine ⟨fun d hd => ?_, fun hl => ?_⟩
  · obtain ⟨da, db, q1, q2, rfl⟩ := zipD_at hd
    obtain ⟨v, hv, rv⟩ := r.get' q1
    obtain ⟨w, hw, rw'⟩ := r2.get' q2
    refine ⟨⟨[v, w], .cons h1 hv (.cons h2 hw .nil)⟩, fun x H' y => ?_⟩
    obtain ⟨T, ys, rfl, nT, rfl, f1⟩ := y
    have ep := f1 [v, w] (.cons h1 hv (.cons h2 hw .nil))
    subst ep
    obtain ⟨t, rr⟩ := new_pair e2 nT rv rw'
    exact ⟨_, t, rr⟩
  · rw [zipD_length, ← r.length, ← r2.length] at hl
    by_cases hv : vs.length ≤ i
    · exact .here h1 hv
    · exact .next h1 (List.getElem?_eq_getElem (show i < vs.length by omega)) (.here h2 (by omega))
def mJZ (O : Wo) (m : MA O) : MJ O := fun ρ s => (m ρ s).bind fun ds s1 => match ds with
  | [d, e] => (match sqS (O.st s1) d, sqS (O.st s1) e with
    | some (k1, xs), some (k2, ys) => .ok (zipD xs ys, fun l => sqS l d = some (k1, xs) ∧ sqS l e = some (k2, ys)) s1
    | _, _ => .bad)
  | _ => .bad
theorem dj_zip {e e2 : Expr} {ta : TA} {ma : MA O} {p pos tpos : Pos} {elts : List Expr} {kk : Nat} (hm : X.mg "zip" = none) (ha : DA K O Wx X [e, e2] ta ma) (hg : Gl X "zip" := by rfl)
    (hs : starEach [e, e2] X.env = (false, eval e X.env) :: starEach [e2] X.env := by rfl) (hpl : (backTo pos (starEach [e2] X.env)).any (·.1) = false := by rfl) :
    DJ K O Wx X (.Tuple elts kk tpos) (.Call (.Name "zip" p) [e, e2] [] pos) (iZip2 K ta) (mJZ O ma) := by
  refine ⟨by have := ha.hK; subst this; exact pi_zip2 hg hm ha.pe hs hpl, fun σ ρ H0 G H s Q F h => ?_⟩
  refine ha.sn σ ρ H0 G H s _ F (pst_bind h fun ds s1 _ x G1 H1 t1 k1 r1 h1 => ?_)
  have F1 := F.tr t1 k1
  split at h1
  · rename_i d e'
    split at h1
    · rename_i k1' xs k2' ys c1 c2
      cases r1 with
      | cons r1 r2 =>
        cases r2 with
        | cons r2 r3 =>
          cases r3
          obtain ⟨a, vs, rfl, q1, p1⟩ := sqS_ok F1.sto F1.gh r1 c1
          obtain ⟨b, ws, rfl, q2, p2⟩ := sqS_ok F1.sto F1.gh r2 c2
          exact ⟨_, _, _, _, _, _, rfl, q1, q2, h1 _ G1 H1 (.refl t1.gh) k1 (it_zip2S r1 r2)⟩
    · exact (show False from h1).elim
  · exact (show False from h1).elim
open Classical in
noncomputable def forLS (S : Type) (st : S → List Ob) (c : List Ob → Prop) (f : D → Ev → Option Ev) (mb : Ev → S → RS S) : List D → Ev → S → RS S
  | [], ρ, s => if c (st s) then .nx ρ s else .bad
  | d :: ds, ρ, s => if c (st s) then (match f d ρ with
    | none => .bad
    | some ρ1 => match mb ρ1 s with
      | .nx ρ2 s2 => forLS S st c f mb ds ρ2 s2
      | .ct ρ2 s2 => forLS S st c f mb ds ρ2 s2
      | .bk ρ2 s2 => .nx ρ2 s2
      | r => r) else .bad
noncomputable def mForS (O : Wo) (mi : MJ O) (f : D → Ev → Option Ev) (mb : MS O) : MS O := fun ρ s => toS (mi ρ s) ρ fun ic s1 => forLS O.S O.st ic.2 f mb ic.1 ρ s1
open Classical in
noncomputable def lcLS (S : Type) (st : S → List Ob) (c : List Ob → Prop) (f : D → Ev → Option Ev) (mt : Ev → S → R S Bool) (me : Ev → S → R S D) (ρ : Ev) : List D → List D → S → R S (List D)
  | [], acc, s => if c (st s) then .ok acc s else .bad
  | d :: ds, acc, s => if c (st s) then (match f d ρ with
    | none => .bad
    | some ρ1 => match mt ρ1 s with
      | .ok true s1 => match me ρ1 s1 with
        | .ok y s2 => if acc.length < 100000 then lcLS S st c f mt me ρ ds (acc ++ [y]) s2 else .bad
        | _ => .bad
      | .ok false s1 => lcLS S st c f mt me ρ ds acc s1
      | _ => .bad) else .bad
noncomputable def mLcS (O : Wo) (mi : MJ O) (f : D → Ev → Option Ev) (mt : MT O) (me : ME O) (vs : List Nat) : MA O := fun ρ s => (mi ρ s).bind fun ic s1 => lcLS O.S O.st ic.2 f mt me (wipeE ρ vs) ic.1 [] s1
theorem ds_forS {tg iter : Expr} {body : List Stmt} {wi : TI} {g : TG} {tb : TS} {mi : MJ O} {f : D → Ev → Option Ev} {is : List Nat} {mb : MS O} {pos : Pos} (c : Cs K Wx X) (hi : DJ K O Wx X tg iter wi mi) (hg : DG K O X tg g f is) (hb : DB K O Wx X body tb mb)
    (hs : ∀ x, foldedSetIterable iter X.env x = pure x := by intro _; rfl) : DS K O Wx X (.For tg iter body [] pos) (tFor wi g tb) (mForS O mi f mb) := by
  refine ⟨ps_for c.po c.hc hi.pe hg.pe hb.pe hs, fun G0 H0 σ ρ G H s Dn F h => ?_⟩
  refine hi.sn σ ρ H0 G H s _ F.fm (pst_toS F h fun ic s1 _ J G1 H1 t1 k1 ok h1 => ?_)
  obtain ⟨items, cc⟩ := ic
  dsimp only at h1 ok
  refine ⟨fun i m σ' H' => ∃ ρ' G' s', m = (items.drop i).length ∧ Sm G1 G' ∧ Fs K O G0 H0 σ' ρ' G' H' s' ∧ PstS K O Wx G0 H0 G' (forLS O.S O.st cc f mb (items.drop i) ρ' s') Dn, ⟨items.length, ρ, G1, s1, by simp, Sm.refl _, F.go t1 k1, by simpa using h1⟩, ?_⟩
  rintro i m σ' H' ⟨ρ', G', s', rfl, e1, F', h'⟩
  have hcc : cc (O.st s') := by
    unfold forLS at h'
    split at h' <;> split at h' <;> first | assumption | exact (show False from h').elim
  obtain ⟨ok1, ok2⟩ := ok G' H' (O.st s') e1 F'.fm.gh F'.fm.sto hcc i
  cases hd : items.drop i with
  | nil =>
    rw [hd] at h'
    unfold forLS at h'
    rw [if_pos hcc] at h'
    exact .inl ⟨ok2 (by simpa using hd), h' σ' G' H' (Sm.refl _) F'⟩
  | cons d ds =>
    have hlt : i < items.length := by
      by_cases z : i < items.length
      · exact z
      · rw [List.drop_eq_nil_of_le (by omega)] at hd; cases hd
    have hi? : items[i]? = some d := by
      have := List.drop_eq_getElem_cons hlt
      rw [hd] at this
      injection this with a b
      rw [List.getElem?_eq_getElem hlt, a]
    have hds : items.drop (i + 1) = ds := by
      have := List.drop_eq_getElem_cons hlt
      rw [hd] at this
      injection this with a b
      exact b.symm
    obtain ⟨go, yl⟩ := ok1 d hi?
    rw [hd] at h'
    refine .inr ⟨go, fun σ2 H2 => ∃ ρ2 G2 s2, Sm G1 G2 ∧ Fs K O G0 H0 σ2 ρ2 G2 H2 s2 ∧ PstS K O Wx G0 H0 G2 (forLS O.S O.st cc f mb ds ρ2 s2) Dn, ?_, fun x H2 y => ?_⟩
    · rintro σ2 H2 ⟨ρ2, G2, s2, a1, a2, a3⟩
      exact ⟨ds.length, by simp, ρ2, G2, s2, by rw [hds], a1, a2, by rw [hds]; exact a3⟩
    · obtain ⟨G2, t2, r2⟩ := yl x H2 y
      have F2 := F'.go t2.up (F'.fm.keepW t2)
      unfold forLS at h'
      rw [if_pos hcc] at h'
      cases ef : f d ρ' with
      | none => rw [ef] at h'; exact (show False from h').elim
      | some ρ1 =>
        rw [ef] at h'
        refine hg.sn H0 σ' ρ' G2 H2 s' x d ρ1 _ F2.fm r2 ef fun σ3 F3 _ => ?_
        refine hb.sn G0 H0 σ3 ρ1 G2 H2 s' _ ⟨F3, F2.tr⟩ ?_
        have h2 := PstS.shift t2.gg h'
        revert h2
        dsimp only
        cases mb ρ1 s' with
        | nx ρ2 s2 => exact fun h2 σ4 G4 H4 a b => ⟨ρ2, G4, s2, (e1.trans t2.gg).trans a, b, h2.shift a⟩
        | ct ρ2 s2 => exact fun h2 σ4 G4 H4 a b => ⟨ρ2, G4, s2, (e1.trans t2.gg).trans a, b, h2.shift a⟩
        | bk ρ2 s2 => exact fun h2 => h2
        | rt d s => exact fun h2 => h2
        | rn ds s => exact fun h2 => h2
        | err c fs ρ s => exact fun h2 => h2
        | bad => exact fun h2 => h2
theorem snd_lcS {wi : TI} {mi : MJ O} {g : TG} {f : D → Ev → Option Ev} {is vs : List Nat} {tt : TT} {mt : MT O} {te : TE} {me : ME O} (hi : SndJ K O Wx wi mi) (hg : SndG K O g f is) (ht : SndT K O WF tt mt) (he : SndE K O WF te me) (hv : ∀ i ∈ is, i ∈ vs) :
    SndN K O Wx (tLc wi g tt te vs) (mLcS O mi f mt me vs) := by
  intro σ ρ H0 G H s Q F h
  refine hi σ ρ H0 G H s _ F ?_
  unfold mLcS at h
  revert h
  cases mi ρ s with
  | err c fs s1 => exact fun h => h
  | bad => exact fun h => h
  | ok ic s1 =>
    obtain ⟨items, cc⟩ := ic
    intro h J G1 H1 t1 k1 ok Da nD
    dsimp only at h ok
    rw [bind_ok] at h
    have F1 := F.tr t1 k1
    have nDH : H Da = none := t1.dm Da nD
    have nW : ¬ O.W Da := nW_of k1 nD
    refine ⟨fun i m H2 => ∃ G2 s2 accV acc, m = (items.drop i).length ∧ Tr O.W G1 H1 G2 H2 ∧ O.ok K s2 G2 H2 ∧ G2 Da = none ∧ H2 Da = some (.lst accV) ∧ Reps K G2 accV acc ∧ PstN K O Wx σ G H (lcLS O.S O.st cc f mt me (wipeE ρ vs) (items.drop i) acc s2) Q, ?_, ?_⟩
    · refine ⟨items.length, G1, s1, [], [], by simp, (Tr.refl F1.gh).mut nD (F1.gh.free nD), ?_, F1.gh.free nD, upd_same, .nil, by simpa using h⟩
      exact ok_off k1 (F1.gh.free nD) nW
    · rintro i m H2 ⟨G2, s2, accV, acc, rfl, t2, k2, g2, hD, ra, h2⟩
      have hcc : cc (O.st s2) := by
        unfold lcLS at h2
        split at h2 <;> split at h2 <;> first | assumption | exact (show False from h2).elim
      obtain ⟨ok1, ok2⟩ := ok G2 H2 (O.st s2) t2.gg t2.gh (O.sto _ _ _ _ k2) hcc i
      have F2 : Fm K O H0 σ ρ G2 H2 s2 := F1.tr t2 k2
      cases hd : items.drop i with
      | nil =>
        rw [hd] at h2
        unfold lcLS at h2
        rw [if_pos hcc] at h2
        exact .inl ⟨ok2 (by simpa using hd), h2 Da accV G2 H2 (t1.trans t2) k2 nDH g2 hD ra⟩
      | cons d ds =>
        have hlt : i < items.length := by
          by_cases z : i < items.length
          · exact z
          · rw [List.drop_eq_nil_of_le (by omega)] at hd; cases hd
        have hi? : items[i]? = some d := by
          have := List.drop_eq_getElem_cons hlt
          rw [hd] at this
          injection this with a b
          rw [List.getElem?_eq_getElem hlt, a]
        have hds : items.drop (i + 1) = ds := by
          have := List.drop_eq_getElem_cons hlt
          rw [hd] at this
          injection this with a b
          exact b.symm
        obtain ⟨go, yl⟩ := ok1 d hi?
        rw [hd] at h2
        refine .inr ⟨go, fun H3 => ∃ G3 s3 accV acc, Tr O.W G1 H1 G3 H3 ∧ O.ok K s3 G3 H3 ∧ G3 Da = none ∧ H3 Da = some (.lst accV) ∧ Reps K G3 accV acc ∧ PstN K O Wx σ G H (lcLS O.S O.st cc f mt me (wipeE ρ vs) ds acc s3) Q, ?_, fun x H3 y => ?_⟩
        · rintro H3 ⟨G3, s3, aV, a, b1, b2, b3, b4, b5, b6⟩
          exact ⟨ds.length, by simp, G3, s3, aV, a, by rw [hds], b1, b2, b3, b4, b5, by rw [hds]; exact b6⟩
        · obtain ⟨G3, t3, r3⟩ := yl x H3 y
          have F3 := F2.tr0 t3
          have F3w := F3.wipe vs
          have kpD : ∀ {Ga : Gh} {Ha : Hp} {Gb : Gh} {Hb : Hp}, Tr O.W Ga Ha Gb Hb → Ga Da = none → Ha Da = some (.lst accV) → Gb Da = none ∧ Hb Da = some (.lst accV) := fun {Ga Ha Gb Hb} t a b => by
            refine ⟨?_, t.kp _ _ nW (fun n => by rw [a]; simp) b⟩
            cases e : Gb Da with
            | none => rfl
            | some z => rcases t.gr Da (by rw [e]; simp) with q | q <;> simp_all
          obtain ⟨g3, hD3⟩ := kpD t3.up g2 hD
          unfold lcLS at h2
          rw [if_pos hcc] at h2
          cases ef : f d (wipeE ρ vs) with
          | none => rw [ef] at h2; exact (show False from h2).elim
          | some ρ1 =>
            rw [ef] at h2
            refine hg H0 (L2.wipe σ vs) (wipeE ρ vs) G3 H3 s2 x d ρ1 _ F3w r3 ef fun σ4 F4 w4 => ?_
            refine ⟨by rw [w4 vs hv]; exact snd_lc.wipe_idem σ vs, ?_⟩
            refine ht σ4 ρ1 H0 G3 H3 s2 _ F4 ?_
            revert h2
            dsimp only
            cases mt ρ1 s2 with
            | bad => exact fun h2 => h2
            | err c fs s' => exact fun h2 => (show False from h2).elim
            | ok b s5 =>
              intro h2 b' G5 H5 t5 k5 e5
              subst e5
              obtain ⟨g5, hD5⟩ := kpD t5 g3 hD3
              cases b' with
              | false =>
                rw [if_neg Bool.false_ne_true]
                exact ⟨G5, s5, accV, acc, (t2.trans t3.up).trans t5, k5, g5, hD5, (ra.mono t3.gg).mono t5.gg, h2⟩
              | true =>
                rw [if_pos rfl]
                have F5 := F4.tr t5 k5
                refine he σ4 ρ1 H0 G5 H5 s5 _ F5 ?_
                revert h2
                dsimp only
                cases me ρ1 s5 with
                | bad => exact fun h2 => h2
                | err c fs s' => exact fun h2 => (show False from h2).elim
                | ok dy s6 =>
                  intro h2 yv G6 H6 t6 k6 r6
                  obtain ⟨g6, hD6⟩ := kpD t6 g5 hD5
                  have ra6 : Reps K G6 accV acc := ((ra.mono t3.gg).mono t5.gg).mono t6.gg
                  dsimp only at h2
                  split at h2
                  · rename_i hz
                    refine ⟨accV, hD6, by rw [ra6.length]; exact sz5l hz, G6, s6, accV ++ [yv], acc ++ [dy], (((t2.trans t3.up).trans t5).trans t6).mut nD g6, ?_, g6, upd_same, ra6.append (.cons r6 .nil), h2⟩
                    exact ok_off k6 g6 nW
                  · exact (show False from h2).elim
/-- [e for tg in iter if ..] -/
theorem dlcS {elt tg iter : Expr} {ifs : List Expr} {scope : Scope} {own : List (Str × Nat)} {pos : Pos} {wi : TI} {g : TG} {tt : TT} {te : TE} {mi : MJ O} {f : D → Ev → Option Ev} {is : List Nat} {mt : MT O} {me : ME O} (c : Cs K Wx X) (hi : DJ K O Wx X tg iter wi mi) (ok : BlkOk X.N X.env.scope scope own)
    (hg : ∀ (s : Shared) (H : Hp) (C : Addr) (cl : List (Str × Addr)) (fp : List Addr), DG K O (X.blk s H scope (compEnvC scope cl C X.env) fp) tg g f is)
    (ht : ∀ (s : Shared) (H : Hp) (C : Addr) (cl : List (Str × Addr)) (fp : List Addr), Cn K WF (X.blk s H scope (compEnvC scope cl C X.env) fp) → DTs K O WF (X.blk s H scope (compEnvC scope cl C X.env) fp) ifs tt mt)
    (he : ∀ (s : Shared) (H : Hp) (C : Addr) (cl : List (Str × Addr)) (fp : List Addr), Cn K WF (X.blk s H scope (compEnvC scope cl C X.env) fp) → DE K O WF (X.blk s H scope (compEnvC scope cl C X.env) fp) elt te me)
    (hv : ∀ i ∈ is, i ∈ own.map (·.2) := by decide) (hs : ∀ x, foldedSetIterable iter X.env x = pure x := by intro _; rfl) : DLc K O Wx X elt tg iter ifs scope pos (tLc wi g tt te (own.map (·.2))) (mLcS O mi f mt me (own.map (·.2))) := by
  have cn : ∀ (s : Shared) (H : Hp) (C : Addr) (cl : List (Str × Addr)) (fp : List Addr), Cn K WF (X.blk s H scope (compEnvC scope cl C X.env) fp) := fun s H C cl fp => ⟨c.cn.hK, takes0⟩
  refine ⟨⟨c.cn.hK, c.cn.tk, pe_lc c.hc c.nd hi.pe ok (fun s H C cl fp => (hg s H C cl fp).pe) (fun s H C cl fp => (ht s H C cl fp (cn ..)).pe) (fun s H C cl fp => (he s H C cl fp (cn ..)).pe) hs, ?_⟩,
    fun i y py spos hy hyl hsw => ps_setLc c.hc c.nd hy hyl hsw hi.pe ok (fun s H C cl fp => (hg s H C cl fp).pe) (fun s H C cl fp => (ht s H C cl fp (cn ..)).pe) (fun s H C cl fp => (he s H C cl fp (cn ..)).pe) hs⟩
  exact snd_lcS hi.sn (hg X.s_0 (fun _ => none) 0 [] []).sn (ht X.s_0 (fun _ => none) 0 [] [] (cn ..)).sn (he X.s_0 (fun _ => none) 0 [] [] (cn ..)).sn hv
end
end Mr
namespace Mr
open PySem PySem.Spec PyProof.Rows L2 RZ
section
variable {K : PySem.W.Frag} {O : Wo} {Wx : WX} {X : Cx} {G0 : Gh} {H0 : Hp} {G : Gh} {H : Hp} {G' : Gh} {H' : Hp} {G1 : Gh} {H1 : Hp} {σ : L2.St} {ρ : Ev} {s s1 : O.S} {l : List Ob}
/-- what is known of a, once it is locked, and once it is free again -/
def setG (G : Gh) (a : Addr) (g : GO) : Gh := fun b => if b = a then some g else G b
theorem setG_same {a : Addr} {g : GO} : setG G a g a = some g := by unfold setG; rw [if_pos rfl]
theorem setG_ne {a b : Addr} {g : GO} (h : b ≠ a) : setG G a g b = G b := by unfold setG; rw [if_neg h]
def isM (n : Nat) : GO → Prop
  | .mk m => m = n
  | .mkf m _ => m = n
  | _ => False
theorem mkk_setG {a b : Addr} {n m : Nat} {g g' : GO} (hg : G a = some g) (h1 : isM n g) (h2 : isM n g') : Mkk (setG G a g') b m ↔ Mkk G b m := by
  by_cases hb : b = a
  · subst hb
    unfold Mkk
    rw [setG_same, hg]
    cases g <;> cases g' <;> simp_all [isM]
  · unfold Mkk
    rw [setG_ne hb]
theorem ne_fro {a b : Addr} {n : Nat} {g : GO} {o : HO} (hg : G a = some g) (h1 : isM n g) (h : G b = some (.fro o)) : b ≠ a := fun z => by
  subst z
  rw [hg] at h
  cases h
  exact h1
theorem setG_fr {a b : Addr} {n : Nat} {g g' : GO} {o : HO} (hg : G a = some g) (h1 : isM n g) (h : fr G b = some o) : fr (setG G a g') b = some o := by
  rw [fr_some] at h ⊢
  rw [setG_ne (ne_fro hg h1 h)]
  exact h
theorem setG_sqL {a b : Addr} {n : Nat} {g g' : GO} {xs : List V} (hg : G a = some g) (h1 : isM n g) (h : SqL K (fr G) b xs) : SqL K (fr (setG G a g')) b xs := by
  rcases h with (h | ⟨o, h⟩) | h
  · exact .inl (.inl (setG_fr hg h1 h))
  · exact .inl (.inr ⟨o, setG_fr hg h1 h⟩)
  · exact .inr h
theorem setG_sqT {a b : Addr} {n : Nat} {g g' : GO} {xs : List V} (hg : G a = some g) (h1 : isM n g) (h : SqT K (fr G) b xs) : SqT K (fr (setG G a g')) b xs := by
  rcases h with (h | ⟨o, h⟩) | h
  · exact .inl (.inl (setG_fr hg h1 h))
  · exact .inl (.inr ⟨o, setG_fr hg h1 h⟩)
  · exact .inr h
theorem setG_sqC {a b : Addr} {n : Nat} {g g' : GO} {xs : List V} (hg : G a = some g) (h1 : isM n g) (h : SqC K (fr G) b xs) : SqC K (fr (setG G a g')) b xs := h.elim (fun h => .inl (setG_fr hg h1 h)) (fun h => .inr ⟨setG_sqT hg h1 h.1, h.2⟩)
mutual
theorem Rep.setG {a : Addr} {n : Nat} {g g' : GO} (hg : G a = some g) (h1 : isM n g) (h2 : isM n g') : ∀ {v : V} {d : D}, Rep K G v d → Rep K (Mr.setG G a g') v d
  | _, _, .non => .non
  | _, _, .bl b => .bl b
  | _, _, .int i => .int i
  | _, _, .str x => .str x
  | _, _, .lst h r => .lst (setG_sqL hg h1 h) (Reps.setG hg h1 h2 r)
  | _, _, .tup h r => .tup (setG_sqC hg h1 h) (Reps.setG hg h1 h2 r)
  | _, _, .ref a => .ref a
  | _, _, .ty n => .ty n
  | _, _, .ins (a := b) h r => .ins (by rw [setG_ne (ne_fro hg h1 h)]; exact h) (RepF.setG hg h1 h2 r)
  | _, _, .dct (a := b) h r => .dct (by rw [setG_ne (ne_fro hg h1 h)]; exact h) (RepK.setG hg h1 h2 r)
  | _, _, .obj h => .obj ((mkk_setG hg h1 h2).mpr h)
theorem Reps.setG {a : Addr} {n : Nat} {g g' : GO} (hg : G a = some g) (h1 : isM n g) (h2 : isM n g') : ∀ {v : List V} {d : List D}, Reps K G v d → Reps K (Mr.setG G a g') v d
  | _, _, .nil => .nil
  | _, _, .cons h r => .cons (Rep.setG hg h1 h2 h) (Reps.setG hg h1 h2 r)
theorem RepF.setG {a : Addr} {n : Nat} {g g' : GO} (hg : G a = some g) (h1 : isM n g) (h2 : isM n g') : ∀ {v : List (Str × V)} {d : List (Str × D)}, RepF K G v d → RepF K (Mr.setG G a g') v d
  | _, _, .nil => .nil
  | _, _, .cons h r => .cons (Rep.setG hg h1 h2 h) (RepF.setG hg h1 h2 r)
theorem RepK.setG {a : Addr} {n : Nat} {g g' : GO} (hg : G a = some g) (h1 : isM n g) (h2 : isM n g') : ∀ {v : List (Key × V)} {d : List (Key × D)}, RepK K G v d → RepK K (Mr.setG G a g') v d
  | _, _, .nil => .nil
  | _, _, .cons h r => .cons (Rep.setG hg h1 h2 h) (RepK.setG hg h1 h2 r)
end
theorem RepT.setG {a : Addr} {n : Nat} {g g' : GO} (hg : G a = some g) (h1 : isM n g) (h2 : isM n g') : ∀ {v : List (List Key × V)} {d : List (List Key × D)}, RepT K G v d → RepT K (Mr.setG G a g') v d
  | _, _, .nil => .nil
  | _, _, .cons h r => .cons (Rep.setG hg h1 h2 h) (RepT.setG hg h1 h2 r)
theorem ObOk.setG {a b : Addr} {n : Nat} {g g' : GO} {o : Ob} (hg : G a = some g) (h1 : isM n g) (h2 : isM n g') (h : H' b = H b) (q : ObOk K G H b o) : ObOk K (Mr.setG G a g') H' b o := by
  cases o with
  | lst xs => obtain ⟨vs, e1, e2⟩ := q; exact ⟨vs, h.trans e1, e2.setG hg h1 h2⟩
  | dct xs => obtain ⟨vs, e1, e2⟩ := q; exact ⟨vs, h.trans e1, e2.setG hg h1 h2⟩
  | dlk xs => obtain ⟨od, vs, e1, e2⟩ := q; exact ⟨od, vs, h.trans e1, e2.setG hg h1 h2⟩
  | ins C xs => obtain ⟨dx, vs, e1, e2⟩ := q; exact ⟨dx, vs, h.trans e1, e2.setG hg h1 h2⟩
  | dcT xs => obtain ⟨vs, e1, e2⟩ := q; exact ⟨vs, h.trans e1, e2.setG hg h1 h2⟩
theorem mkk_of {a : Addr} {n m : Nat} {g : GO} (hg : G a = some g) (h1 : isM n g) (h : Mkk G a m) : m = n := by
  rcases h with h | ⟨u, h⟩ <;> (rw [hg] at h; cases h; exact h1)
theorem Mkd.ne {a b : Addr} {m : Nat} {g' : GO} {o : Ob} (hb : b ≠ a) (h : Mkd G b m o) : Mkd (Mr.setG G a g') b m o := by
  cases o with
  | dlk kvs => obtain ⟨u, h⟩ := h; exact ⟨u, by rw [setG_ne hb]; exact h⟩
  | _ => exact (setG_ne hb).trans h
theorem StOk.setG (q : StOk K G H l) {a : Addr} {n : Nat} {g g' : GO} {o : HO} {ob : Ob} (hg : G a = some g) (h1 : isM n g) (h2 : isM n g') (hd : Mkd (Mr.setG G a g') a n ob) (hb : ObOk K (Mr.setG G a g') (upd H a o) a ob) : StOk K (Mr.setG G a g') (upd H a o) (l.set n ob) where
  at_ := fun m o' e => by
    by_cases hm : n = m
    · subst hm
      have hl : n < l.length := by
        have := (List.getElem?_eq_some_iff.mp e).1
        rw [List.length_set] at this
        exact this
      rw [List.getElem?_set_self hl] at e
      cases e
      exact ⟨a, hd, hb⟩
    · rw [List.getElem?_set_ne hm] at e
      obtain ⟨b, k1, k2⟩ := q.at_ m o' e
      have hne : b ≠ a := fun z => by
        subst z
        exact hm (mkk_of hg h1 k1.mk).symm
      exact ⟨b, k1.ne hne, k2.setG hg h1 h2 (upd_ne hne)⟩
  lt := fun b m e => by rw [List.length_set]; exact q.lt b m ((mkk_setG hg h1 h2).mp e)
  inj := fun b c m e1 e2 => q.inj b c m ((mkk_setG hg h1 h2).mp e1) ((mkk_setG hg h1 h2).mp e2)
theorem Tr.setG {W : Addr → Prop} (t : Tr W G0 H0 G H) {a : Addr} {n : Nat} {g g' : GO} {o : HO} (hg : G a = some g) (h1 : isM n g) (h2 : isM n g') (h0 : ∀ m u, G0 a ≠ some (.mkf m u)) (h3 : ∀ u v, H0 a ≠ some (.frz u v)) (hs : Sh1 (upd H a o) a g') : Tr W G0 H0 (Mr.setG G a g') (upd H a o) := by
  have only : ∀ g0, G0 a = some g0 → g0 = .mk n := fun g0 e => by
    have le := t.gg a g0 e
    cases g0 with
    | fro u =>
      have le : G a = _ := le
      rw [hg] at le
      cases le
      exact h1.elim
    | mk m => rw [mkk_of hg h1 le]
    | mkf m u => exact absurd e (h0 m u)
  refine ⟨fun b g0 e => ?_, fun b g0 e => ?_, fun b e => ?_, fun b u w m e => ?_, fun b e => ?_, fun b u v e => ?_⟩
  · by_cases hb : b = a
    · subst hb
      have := only g0 e
      subst this
      show Mkk (Mr.setG G b g') b n
      rw [mkk_setG hg h1 h2]
      exact t.gg b _ e
    · have le := t.gg b g0 e
      cases g0 with
      | fro u => exact (setG_ne hb).trans le
      | mk m => exact (mkk_setG hg h1 h2).mpr le
      | mkf m u => exact (setG_ne hb).trans le
  · by_cases hb : b = a
    · subst hb
      rw [setG_same] at e
      cases e
      exact hs
    · rw [setG_ne hb] at e
      exact (t.gh b g0 e).cong (upd_ne hb)
  · by_cases hb : b = a
    · subst hb
      exact t.gr b (by rw [hg]; simp)
    · rw [setG_ne hb] at e
      exact t.gr b e
  · have hb : b ≠ a := fun z => by
      subst z
      rcases t.gr b (by rw [hg]; simp) with q | q
      · cases e0 : G0 b with
        | none => exact q e0
        | some g0 =>
          rw [only g0 e0] at e0
          exact m n e0
      · rw [q] at e; cases e
    rw [upd_ne hb]
    exact t.kp b u w m e
  · by_cases hb : b = a
    · subst hb; rw [upd_same] at e; cases e
    · rw [upd_ne hb] at e; exact t.dm b e
  · have hb : b ≠ a := fun z => by subst z; exact h3 u v e
    rw [upd_ne hb]
    exact t.fz b u v e
theorem Fm.setG (F : Fm K O H0 σ ρ G H s) {a : Addr} {n : Nat} {g g' : GO} {o : HO} {ob : Ob} (hg : G a = some g) (h1 : isM n g) (h2 : isM n g') (hs : Sh1 (upd H a o) a g') (hd : Mkd (Mr.setG G a g') a n ob) (hb : ObOk K (Mr.setG G a g') (upd H a o) a ob) :
    Fm K O H0 σ ρ (Mr.setG G a g') (upd H a o) (stPut O s n ob) := by
  have hm : Mkk G a n := by
    cases g with
    | fro u => exact h1.elim
    | mk m => cases h1; exact .inl hg
    | mkf m u => cases h1; exact .inr ⟨u, hg⟩
  have nW : ¬ O.W a := notW_mk F hm
  have fa : ∀ {p : Addr}, G p = none → p ≠ a := fun {p} e z => by subst z; exact hm.none e
  refine ⟨fun b g0 e => ?_, fun w hw => ?_, O.stu K s G H _ _ _ F.ok (fun w hw => upd_ne (fun z => by subst z; exact nW hw)) (F.sto.setG hg h1 h2 hd hb), F.len, fun i o' x q1 q2 => ?_, F.ds⟩
  · by_cases hba : b = a
    · subst hba
      rw [setG_same] at e
      cases e
      exact hs
    · rw [setG_ne hba] at e
      exact (F.gh b g0 e).cong (upd_ne hba)
  · rw [setG_ne (fun z => by subst z; exact nW hw)]
    exact F.wg w hw
  · have q := F.sl i o' x q1 q2
    cases x with
    | no => trivial
    | sh d => obtain ⟨v, a1, b1⟩ := q; exact ⟨v, a1, b1.setG hg h1 h2⟩
    | own xs => obtain ⟨p, vs, a1, b1, c, d, e, f⟩ := q; exact ⟨p, vs, a1, by rw [upd_ne (fa d)]; exact b1, c.setG hg h1 h2, by rw [setG_ne (fa d)]; exact d, e, f⟩
    | ownD xs => obtain ⟨p, vs, a1, b1, c, d, e, f⟩ := q; exact ⟨p, vs, a1, by rw [upd_ne (fa d)]; exact b1, c.setG hg h1 h2, by rw [setG_ne (fa d)]; exact d, e, f⟩
    | ownI C xs => obtain ⟨p, dx, vs, a1, b1, c, d, e, f⟩ := q; exact ⟨p, dx, vs, a1, by rw [upd_ne (fa d)]; exact b1, c.setG hg h1 h2, by rw [setG_ne (fa d)]; exact d, e, f⟩
    | exc c fs =>
      obtain ⟨x, dd, xs, e, r, b1, c1, d⟩ := q
      refine ⟨x, dd, xs, e, r, b1.kp (fun dd _ b1 => ?_), c1.setG hg h1 h2, d⟩
      have ne : dd ≠ a := fun z => by
        subst z
        have := F.gh dd g hg
        cases g with
        | fro u => exact h1.elim
        | mk m => obtain ⟨u, k1, k2⟩ := this; rw [b1] at k1; cases k1; cases k2
        | mkf m u => obtain ⟨k1, k2⟩ := this; rw [b1] at k1; cases k1; cases k2
      rw [upd_ne ne]; exact b1
def lockN (O : Wo) (n : Nat) (s : O.S) : Option O.S := match (O.st s)[n]? with
  | some (.dct kvs) => some (stPut O s n (.dlk kvs))
  | _ => none
theorem Le.ne {a b : Addr} {g g' : GO} (hb : b ≠ a) (h : Le G b g) : Le (Mr.setG G a g') b g := by
  cases g with
  | fro u => exact (setG_ne hb).trans h
  | mk m =>
    rcases h with h | ⟨u, h⟩
    · exact .inl ((setG_ne hb).trans h)
    · exact .inr ⟨u, (setG_ne hb).trans h⟩
  | mkf m u => exact (setG_ne hb).trans h
inductive Wk where
  | ks | vs | its
end
end Mr
namespace Mr
open PySem PySem.Spec PyProof.Rows L2 RZ
section
variable {K : PySem.W.Frag} {O : Wo} {Wx : WX} {X : Cx} {G0 : Gh} {H0 : Hp} {G : Gh} {H : Hp} {G1 : Gh} {H1 : Hp} {σ : L2.St} {ρ : Ev} {s s1 : O.S} {l : List Ob}
def dropP {β : Type} (kvs : List (Key × β)) (k : Key) : List (Key × β) := kvs.filter fun kv => decide (kv.1 ≠ k)
theorem RepK.drop (k : Key) : ∀ {vs : List (Key × V)} {ds : List (Key × D)}, RepK K G vs ds → RepK K G (dropK vs k) (dropP ds k)
  | _, _, .nil => .nil
  | _, _, .cons (f := f) h r => by
    have ih := r.drop k
    unfold dropK dropP at ih ⊢
    rw [List.filter_cons, List.filter_cons]
    by_cases e : f = k
    · simp only [ne_eq, e, not_true_eq_false, decide_false, Bool.false_eq_true, if_false]; exact ih
    · simp only [ne_eq, e, not_false_eq_true, decide_true, if_true]; exact .cons h ih
/-- sorted(d), the keys ints -/
def keysI : List (Key × D) → Option (List Int)
  | [] => some []
  | (.inl i, _) :: r => (keysI r).map fun q => i :: q
  | _ :: _ => none
open Classical in
noncomputable def dcLS (S : Type) (st : S → List Ob) (c : List Ob → Prop) (f : D → Ev → Option Ev) (mt : Ev → S → R S Bool) (mk mv : Ev → S → R S D) (ρ : Ev) : List D → List (Key × D) → S → R S (List (Key × D))
  | [], acc, s => if c (st s) then .ok acc s else .bad
  | d :: ds, acc, s => if c (st s) then (match f d ρ with
    | none => .bad
    | some ρ1 => match mt ρ1 s with
      | .ok true s1 => match mk ρ1 s1 with
        | .ok dk s2 => match mv ρ1 s2 with
          | .ok dv s3 => match toKey dk with
            | some k => if acc.length < 100000 then dcLS S st c f mt mk mv ρ ds (putP acc k dv) s3 else .bad
            | none => .bad
          | _ => .bad
        | _ => .bad
      | .ok false s1 => dcLS S st c f mt mk mv ρ ds acc s1
      | _ => .bad) else .bad
end
end Mr
namespace Mr
open PySem PySem.Spec PyProof.Rows L2 RZ
section
variable {K : PySem.W.Frag} {O : Wo} {Wx : WX} {X : Cx} {G : Gh} {H : Hp}
end
section
variable {K : PySem.W.Frag} {O : Wo} {Wx : WX} {X : Cx} {G : Gh} {H : Hp}
end
end Mr
namespace Mr
open PySem PySem.Spec PyProof.Rows L2 RZ
section
variable {K : PySem.W.Frag} {O : Wo} {Wx : WX} {X : Cx} {G : Gh} {H : Hp}
theorem dt_neS {a b : Expr} {ta tb : TE} {ma mb : ME O} {pos : Pos} {j : Nat} (hr : Room j X.A) (ha : DE K O Wx X a ta ma) (hb : DE K O Wx X b tb mb) : DT K O Wx X (.Compare a [.NotEq] [b] pos) (tTest (tOp (rNeG K) ta tb)) (mTest O (mBinS O (liftO dNe) ma mb)) := dt_cmpS (op_neG ha.hK hr.units) vop_ne.liftS ha hb (nomark _)
end
structure OkQ (q : List Ob) (b : Int) (s : Dr) : Prop where
  xs : ∀ x ∈ s.xs, 0 < x
  n : 0 ≤ s.n
  k : 0 ≤ s.k
  kb : s.k ≤ b
  st : s.st = q
theorem OkQ.mono {q : List Ob} {b c : Int} {s : Dr} (h : OkQ q b s) (hc : b ≤ c) : OkQ q c s := ⟨h.xs, h.n, h.k, Int.le_trans h.kb hc, h.st⟩
theorem OkQ.start (ns : List Int) : OkQ [] 0 ⟨ns.filter (fun n => decide (10 ^ 18 ≤ n)), 0, ns.filter (fun n => decide (n < 10 ^ 18)), 0, []⟩ :=
  ⟨fun x hx => by have := (List.mem_filter.mp hx).2; simp at this; omega, Int.le_refl _, Int.le_refl _, Int.le_refl _, rfl⟩
/-- the store put at another -/
def Dr.put (s : Dr) (q : List Ob) : Dr := { s with st := q }
theorem OkQ.put {q : List Ob} {b : Int} {s : Dr} (h : OkQ q b s) (q' : List Ob) : OkQ q' b { s with st := q' } := ⟨h.xs, h.n, h.k, h.kb, rfl⟩
end Mr
namespace Mr
open PySem PySem.Spec PyProof.Rows L2 RZ
section
variable {K : PySem.W.Frag} {O : Wo} {Wx : WX} {X : Cx} {G : Gh} {H : Hp}
end
end Mr
namespace Mr
open PySem PySem.Spec PyProof.Rows L2 RZ
def IsP1 (h : Heap) (v : Value) (x : Int) : Prop := ∃ a o t w n, v = Value.ref a ∧ h.get? a = some o ∧ o.cls = .type "tuple" ∧ o.data = .seq #[.int x t, w] n
theorem IsP1.keeps {h h' : Heap} {v : Value} {x : Int} (p : IsP1 h v x) (k : ∀ b o, h.get? b = some o → o.cls = .type "tuple" → h'.get? b = some o) : IsP1 h' v x := by
  obtain ⟨a, o, t, u, n, e, ho, hc, hd⟩ := p
  exact ⟨a, o, t, u, n, e, k _ _ ho hc, hc, hd⟩
abbrev lt1 {α : Type} (k : α → Int) (x y : α) : Bool := decide (k x < k y)
theorem lt1_swo {α : Type} (k : α → Int) : SrtO.Swo (lt1 k) := by
  refine ⟨fun x y h => ?_, fun x y z h1 h2 => ?_⟩
  · have := of_decide_eq_true h
    exact decide_eq_false (by omega)
  · have a := of_decide_eq_false h1
    have b := of_decide_eq_false h2
    exact decide_eq_false (by omega)
section
variable {prog : Program} {w : World} {A : Around} {E : Value → Shared → Prop} {s : Shared}
theorem p1_cmp {vs : List Value} {k : Value → Int} (hp : ∀ v ∈ vs, IsP1 s.heap v (k v)) (inj : ∀ v ∈ vs, ∀ u ∈ vs, k v = k u → v = u) : SrtO.Cmp prog w A s (tuples' true) (fun p => p.1 ∈ vs) (SrtO.lt2 (lt1 k)) := by
  intro p q hm hm'
  have h1 := hp _ hm
  have h2 := hp _ hm'
  show wpAny (model prog w) A (keyLt' (tuples' true) p.1 q.1) (fun r s' => s' = s ∧ r = decide (k p.1 < k q.1)) (fun _ _ => False) s
  by_cases hk : k p.1 = k q.1
  · have e0 := inj _ hm _ hm' hk
    rw [← e0]
    obtain ⟨a, o, t, u, n, e, ho, hc, hd⟩ := h1
    rw [e]
    rw [e] at hd
    refine PySem.W.kat_lt ho hd ho hd ?_
    show PySem.W.KatLex prog w A true (decide (2 < 2)) _ [(.int _ t, .int _ t), (u, u)] 0 s
    refine PySem.W.kat_cons (SeqAt.EqAt.int_int _ t _ t prog w _ _ ?_)
    refine PySem.W.kat_go (fun e1 => ?_) (fun e1 => by simp at e1)
    refine PySem.W.kat_yes (PySem.W.kat_cons (SeqAt.EqAt.same u prog w _ _ ?_))
    refine PySem.W.kat_go (fun e2 => ?_) (fun e2 => by simp at e2)
    exact PySem.W.kat_yes (PySem.W.kat_nil ⟨rfl, (decide_eq_false (Int.lt_irrefl _)).symm⟩)
  · generalize k p.1 = x at h1 hk ⊢
    generalize k q.1 = x' at h2 hk ⊢
    obtain ⟨a, o, t, u, n, e, ho, hc, hd⟩ := h1
    obtain ⟨a', o', t', u', n', e', ho', hc', hd'⟩ := h2
    rw [e, e']
    refine PySem.W.kat_lt ho hd ho' hd' ?_
    show PySem.W.KatLex prog w A true (decide (2 < 2)) _ [(.int x t, .int x' t'), (u, u')] 0 s
    refine PySem.W.kat_cons (SeqAt.EqAt.int_int x t x' t' prog w _ _ ?_)
    refine PySem.W.kat_go (fun e1 => absurd (by simpa using e1) hk) (fun e1 => ?_)
    exact PySem.W.kat_no (oneLt_int ⟨rfl, rfl⟩)
theorem p1_firsts {h : Heap} : ∀ {vs : List Value}, (∀ v ∈ vs, ∃ x, IsP1 h v x) → ∃ fs : List Value, PySem.W.KatTups h vs fs ∧ fs.length = vs.length ∧ ∀ f ∈ fs, ∃ x t, f = Value.int x t
  | [], _ => ⟨[], PySem.W.KatTups.nil, rfl, fun _ hm => by simp at hm⟩
  | v :: vs, hp => by
    obtain ⟨fs, h1, h2, h3⟩ := p1_firsts (vs := vs) fun v' hm => hp v' (List.mem_cons_of_mem _ hm)
    obtain ⟨x, a, o, t, u, n, e, ho, hc, hd⟩ := hp v (List.mem_cons_self ..)
    subst e
    refine ⟨.int x t :: fs, PySem.W.KatTups.cons ho hc hd rfl h1, by rw [List.length_cons, List.length_cons, h2], fun f hm => ?_⟩
    rcases List.mem_cons.mp hm with rfl | hm
    · exact ⟨x, t, rfl⟩
    · exact h3 f hm
theorem p1_sortable {a : Addr} {vs : List Value} {k : Value → Int} (h0 : 0 < vs.length) (hp : ∀ v ∈ vs, IsP1 s.heap v (k v)) (inj : ∀ v ∈ vs, ∀ u ∈ vs, k v = k u → v = u) (ha : ∀ o, s.heap.get? a = some o → o.cls ≠ .type "tuple") : SrtO.SortableO prog w A s a vs (lt1 k) := by
  intro h' keep
  have hp' : ∀ v ∈ vs, IsP1 h' v (k v) := fun v hm => (hp v hm).keeps fun b o e c => keep b o (fun z => by subst z; exact ha o e c) e
  obtain ⟨fs, h1, h2, h3⟩ := p1_firsts fun v hm => ⟨_, hp' v hm⟩
  refine ⟨tuples' true, fun Q E hq => ?_, p1_cmp hp' inj⟩
  refine PySem.W.kat_kind (T := .type "int") h1 (by omega) (fun f hm => ?_) (by rfl) ?_
  · obtain ⟨x, t, rfl⟩ := h3 f hm
    exact PySem.W.Looks.now
  · have e : (Value.type "int" != Value.type "tuple") = true := by first | decide +kernel | rfl | decide
    rw [e]
    exact hq
theorem sorted_p1 {l : Addr} {vs : List Value} {k : Value → Int} {Q : Value → Shared → Prop} (hl : s.heap.IsList l vs.toArray) (hz : vs.length ≤ sizeLine) (hp : ∀ v ∈ vs, IsP1 s.heap v (k v)) (inj : ∀ v ∈ vs, ∀ u ∈ vs, k v = k u → v = u)
    (h : ∀ (h' : Heap) (d : Addr) (out : List Value), SrtO.Srtd (lt1 k) out → out.Perm vs → (∀ b o, s.heap.get? b = some o → h'.get? b = some o) → s.heap.objs.size ≤ d → (∃ n, h'.get? d = some (seqObj "list" out.toArray n)) → Q (.ref d) { s with heap := h' }) :
    wpAny (model prog w) A (call (.builtin "sorted") [.ref l]) Q E s := by
  refine SrtO.sorted_ord (lt1_swo k) hl hz (fun h2 h₁ a ha kk => ?_) fun out hs hb => ?_
  · refine p1_sortable (s := { s with heap := h₁ }) (by omega) (fun v hm => (hp v hm).keeps fun b o e _ => (kk b o e).2) inj fun o e => ?_
    have e' : some o = some (seqObj "list" vs.toArray 0) := e.symm.trans ha
    cases e'
    intro c
    exact absurd (Value.type.inj c) (by decide)
  · exact h _ _ out hs hb.perm (fun b o e => sortedAll_old e) (Nat.le_succ _) (sortedAll_at s.heap vs out.toArray)
end
def rSortedP1 (K : PySem.W.Frag) : List V → Hp → VK → Prop := fun vs H Q => ∃ (a : Addr) (xs : List V) (ns : List Int), vs = [V.ref a] ∧ SqL K H a xs ∧ Paired (fun x n => ∃ t y, x = V.ref t ∧ SqT K H t [.int n, y]) xs ns ∧ ns.Nodup ∧
  ∀ (zs : List (V × Int)) p, zs.Pairwise (fun a b => a.2 ≤ b.2) → zs.Perm (xs.zip ns) → H p = none → Q (.ref p) (upd H p (.lst (zs.map (·.1))))
theorem paired_at {α β : Type} {R : α → β → Prop} {xs : List α} {ys : List β} (h : Paired R xs ys) : ∀ {j : Nat} {x : α}, xs[j]? = some x → ∃ y, ys[j]? = some y ∧ R x y := by
  induction h with
  | nil => intro j x e; cases e
  | cons r _ ih =>
    intro j x e
    cases j with
    | zero => simp only [List.getElem?_cons_zero, Option.some.injEq] at e; subst e; exact ⟨_, rfl, r⟩
    | succ j => exact ih (by simpa using e)
theorem paired_len {α β : Type} {R : α → β → Prop} {xs : List α} {ys : List β} (h : Paired R xs ys) : xs.length = ys.length := by
  induction h with
  | nil => rfl
  | cons _ _ ih => simp [ih]
theorem zip_own {α β : Type} (k : α → β) : ∀ xs : List α, xs.zip (xs.map k) = xs.map fun x => (x, k x)
  | [] => rfl
  | x :: xs => by rw [List.map_cons, List.map_cons, List.zip_cons_cons, zip_own k xs]
open Classical in
theorem cr_sortedP1 {X : Cx} : CallR X (.builtin "sorted") (rSortedP1 X.K) := by
  intro pins s σ H vs us Q I r h
  obtain ⟨a, xs, ns, rfl, hs, hp, nd, q⟩ := h
  obtain ⟨its, rv, hl, hz⟩ := I.list hs
  obtain ⟨u, rfl, ru⟩ := vals1 r
  obtain rfl : u = Value.ref a := ru
  have hx : ∀ x ∈ xs, ∃ n t y, x = V.ref t ∧ SqT X.K H t [.int n, y] := fun x m => by
    obtain ⟨j, hj⟩ := List.mem_iff_getElem?.mp m
    obtain ⟨n, _, t, y, e, ht⟩ := paired_at hp hj
    exact ⟨n, t, y, e, ht⟩
  -- the key of a thing
  let k : V → Int := fun x => if h : ∃ n t y, x = V.ref t ∧ SqT X.K H t [.int n, y] then h.choose else 0
  have hk : ∀ n t y, SqT X.K H t [.int n, y] → k (.ref t) = n := fun n t y ht => by
    have hE : ∃ n' t' y', V.ref t = V.ref t' ∧ SqT X.K H t' [.int n', y'] := ⟨n, t, y, rfl, ht⟩
    obtain ⟨t', y', e, ht'⟩ := hE.choose_spec
    have e' : t = t' := V.ref.inj e
    subst e'
    have := I.tuple_inj ht' ht
    have e2 : V.int hE.choose = V.int n := (List.cons.inj this).1
    show (if h : _ then _ else _) = _
    rw [dif_pos hE]
    exact V.int.inj e2
  have hns : ns = xs.map k := by
    refine List.ext_getElem? fun j => ?_
    rw [List.getElem?_map]
    cases e : xs[j]? with
    | none =>
      have := paired_len hp
      rw [List.getElem?_eq_none_iff] at e
      exact List.getElem?_eq_none (by omega)
    | some x =>
      obtain ⟨n, e1, t, y, rfl, ht⟩ := paired_at hp e
      rw [e1, Option.map_some, hk n t y ht]
  have inj : ∀ x ∈ xs, ∀ y ∈ xs, k x = k y → x = y := fun x hx y hy e => by
    obtain ⟨i, hi⟩ := List.mem_iff_getElem?.mp hx
    obtain ⟨j, hj⟩ := List.mem_iff_getElem?.mp hy
    have h1 : ns[i]? = some (k x) := by rw [hns, List.getElem?_map, hi]; rfl
    have h2 : ns[j]? = some (k y) := by rw [hns, List.getElem?_map, hj]; rfl
    have hij : i = j := by
      obtain ⟨b1, c1⟩ := List.getElem?_eq_some_iff.mp h1
      obtain ⟨b2, c2⟩ := List.getElem?_eq_some_iff.mp h2
      exact (List.getElem_inj nd).mp (by rw [c1, c2, e])
    subst hij
    rw [hi] at hj
    exact Option.some.inj hj
  obtain ⟨e1, e2⟩ := refs_back rv fun x m => by
    obtain ⟨_, t, _, e, _⟩ := hx x m
    exact ⟨t, e⟩
  have mem : ∀ v ∈ its, backV v ∈ xs := fun v hv => by rw [e1]; exact List.mem_map.mpr ⟨_, hv, rfl⟩
  refine sorted_p1 (k := fun u => k (backV u)) hl.isList (by rw [← rv.length]; exact hz) (fun v hv => ?_) (fun v hv u hu e => ?_) fun h' d out h1 h2 kp hd hn => ?_
  · obtain ⟨t, rfl⟩ := e2 v hv
    obtain ⟨n, t', y, e, ht⟩ := hx _ (mem _ hv)
    have e' : t = t' := by
      have : V.ref t = V.ref t' := e
      exact V.ref.inj this
    subst e'
    obtain ⟨its2, r2, p2, _⟩ := I.tuple ht
    obtain ⟨o, ho, hc, m, hd⟩ := p2
    obtain ⟨u1, u2, rfl, ri, rj⟩ := vals2 r2
    obtain ⟨t1, rfl⟩ := ri
    have := hk n t y ht
    refine ⟨t, o, t1, u2, m, rfl, ho, hc, ?_⟩
    show o.data = .seq #[.int (k (.ref t)) t1, u2] m
    rw [this]
    exact hd
  · obtain ⟨t, rfl⟩ := e2 v hv
    obtain ⟨t', rfl⟩ := e2 u hu
    have := inj _ (mem _ hv) _ (mem _ hu) e
    have e3 : t = t' := V.ref.inj this
    rw [e3]
  · have h3 : ∀ u ∈ out, ∃ a, u = Value.ref a := fun u hu => e2 u (h2.mem_iff.mp hu)
    obtain ⟨n, hn⟩ := hn
    have hb : (out.map backV).Perm xs := by
      rw [e1]
      exact h2.map backV
    have hz2 : xs.zip ns = xs.map fun x => (x, k x) := by
      rw [hns]
      exact zip_own k xs
    have key := q ((out.map backV).map fun x => (x, k x)) d (by
      have h4 : SrtO.Srtd (lt1 k) (out.map backV) := SrtO.srtd_map h1
      rw [List.pairwise_map]
      exact h4.imp fun h => by have := of_decide_eq_false h; dsimp only; omega) (by rw [hz2]; exact hb.map _) (I.hok.fresh hd)
    have em : ((out.map backV).map fun x => (x, k x)).map (·.1) = out.map backV := by rw [List.map_map]; exact (List.map_congr_left fun x _ => rfl).trans (List.map_id _)
    rw [em] at key
    refine ⟨.ref d, upd H d (.lst (out.map backV)), I.laid (t' := s.toks) kp hd ⟨?_, out, n, vals_back h3, hn⟩, rfl, key⟩
    rw [hb.length_eq]
    exact hz
theorem perm_lift {α β : Type} {f : α → β} {zs ms : List β} (h : zs.Perm ms) : ∀ {l : List α}, ms = l.map f → ∃ l' : List α, l'.Perm l ∧ zs = l'.map f := by
  induction h with
  | nil => intro l e; exact ⟨l, List.Perm.refl _, e⟩
  | cons x _ ih =>
    intro l e
    cases l with
    | nil => cases e
    | cons a l =>
      rw [List.map_cons] at e
      obtain ⟨e1, e2⟩ := List.cons.inj e
      obtain ⟨l', h1, h2⟩ := ih e2
      exact ⟨a :: l', h1.cons a, by rw [List.map_cons, e1, h2]⟩
  | swap x y l0 =>
    intro l e
    cases l with
    | nil => cases e
    | cons a l =>
      cases l with
      | nil => cases e
      | cons b l =>
        rw [List.map_cons, List.map_cons] at e
        obtain ⟨e1, e2⟩ := List.cons.inj e
        obtain ⟨e2, e3⟩ := List.cons.inj e2
        exact ⟨b :: a :: l, List.Perm.swap a b l, by rw [List.map_cons, List.map_cons, e1, e2, e3]⟩
  | trans _ _ ih1 ih2 =>
    intro l e
    obtain ⟨l2, h1, h2⟩ := ih2 e
    obtain ⟨l3, h3, h4⟩ := ih1 h2
    exact ⟨l3, h3.trans h1, h4⟩
section
variable {K : PySem.W.Frag} {O : Wo} {Wx : WX} {X : Cx} {G : Gh} {H : Hp}
theorem reps_pairs : ∀ {vs : List V} {ds : List D}, Reps K G vs ds → ∀ p ∈ vs.zip ds, Rep K G p.1 p.2
  | _, _, .nil, p, h => by cases h
  | _, _, .cons r rr, p, h => by
    rw [List.zip_cons_cons] at h
    rcases List.mem_cons.mp h with rfl | h
    · exact r
    · exact reps_pairs rr p h
theorem reps_of_pairs : ∀ {l : List (V × D)}, (∀ p ∈ l, Rep K G p.1 p.2) → Reps K G (l.map (·.1)) (l.map (·.2))
  | [], _ => .nil
  | p :: l, h => .cons (h p List.mem_cons_self) (reps_of_pairs fun q hq => h q (List.mem_cons_of_mem _ hq))
theorem zip_snd {α β : Type} : ∀ {xs : List α} {ys : List β}, xs.length = ys.length → (xs.zip ys).map (·.2) = ys
  | [], [], _ => rfl
  | x :: xs, y :: ys, h => by rw [List.zip_cons_cons, List.map_cons, zip_snd (by simpa using h)]
  | [], _ :: _, h => by cases h
  | _ :: _, [], h => by cases h
theorem zip_mapR {α β γ : Type} (f : β → γ) : ∀ (xs : List α) (ys : List β), xs.zip (ys.map f) = (xs.zip ys).map fun p => (p.1, f p.2)
  | [], _ => rfl
  | _ :: _, [] => rfl
  | x :: xs, y :: ys => by rw [List.map_cons, List.zip_cons_cons, List.zip_cons_cons, List.map_cons, zip_mapR f xs ys]
end
end Mr
namespace Mr
open PySem PySem.Spec PyProof.Rows L2 RZ
section
variable {K : PySem.W.Frag} {O : Wo} {Wx : WX} {X : Cx} {G : Gh} {H : Hp}
end
end Mr
namespace Mr
open PySem PySem.Spec PyProof.Rows L2 RZ
section
variable {K : PySem.W.Frag} {O : Wo} {Wx : WX} {X : Cx}
open Classical in
noncomputable def lc2LS (S : Type) (st : S → List Ob) (c : List Ob → Prop) (f : D → Ev → Option Ev) (mt : Ev → S → R S Bool) (mi1 : Ev → S → R S (List D × (List Ob → Prop))) (f1 : D → Ev → Option Ev) (mt1 : Ev → S → R S Bool) (me : Ev → S → R S D) (vs1 : List Nat) (ρ : Ev) : List D → List D → S → R S (List D)
  | [], acc, s => if c (st s) then .ok acc s else .bad
  | d :: ds, acc, s => if c (st s) then (match f d ρ with
    | none => .bad
    | some ρ1 => match mt ρ1 s with
      | .ok true s1 => match mi1 ρ1 s1 with
        | .ok ic s2 => match lcLS S st ic.2 f1 mt1 me (wipeE ρ1 vs1) ic.1 acc s2 with
          | .ok acc2 s3 => lc2LS S st c f mt mi1 f1 mt1 me vs1 ρ ds acc2 s3
          | _ => .bad
        | _ => .bad
      | .ok false s1 => lc2LS S st c f mt mi1 f1 mt1 me vs1 ρ ds acc s1
      | _ => .bad) else .bad
def tyS (l : List Ob) : D → Option String
  | .obj n => match l[n]? with
    | some (.lst _) => some "list"
    | some (.dct _) => some "dict"
    | some (.dlk _) => some "dict"
    | _ => none
  | .dct _ => some "dict"
  | d => tyD d
theorem tyS_ok {l : List Ob} {G : Gh} {H : Hp} {v : V} {d : D} {n : String} (q : StOk K G H l) (g : Sh G H) (r : Rep K G v d) (e : tyS l d = some n) : TyX K H v (.type n) := by
  cases r with
  | @obj a m h =>
    simp only [tyS] at e
    split at e
    · rename_i xs e1
      cases e
      obtain ⟨b, e2, h2, vs, e3, r⟩ := q.get (.obj h) e1
      cases e2
      exact .base (.lst e3)
    · rename_i xs e1
      cases e
      obtain ⟨b, e2, h2, vs, e3, r⟩ := q.get (.obj h) e1
      cases e2
      exact .base (.dK e3)
    · rename_i xs e1
      cases e
      obtain ⟨b, e2, h2, od, vs, e3, r⟩ := q.get (.obj h) e1
      cases e2
      exact .fDict e3
    · cases e
  | dct hs r => cases e; exact .fDict (g _ _ hs)
  | ref a => cases e
  | ty a => cases e
  | ins h r => cases e
  | non => exact Rep.ty_of g .non e
  | bl b => exact Rep.ty_of g (.bl b) e
  | int i => exact Rep.ty_of g (.int i) e
  | str x => exact Rep.ty_of g (.str x) e
  | lst h r => exact Rep.ty_of g (.lst h r) e
  | tup h r => exact Rep.ty_of g (.tup h r) e
def dIsIS (l : List Ob) : List D → Option D
  | [x, .ty c] => match tyS l x with
    | some n => (kitB n c).map .bl
    | none => none
  | _ => none
theorem vcl_isIS : VClS K (rIsi K) dIsIS := by
  intro l G H x dx d Q q g rx e k
  unfold dIsIS at e
  split at e
  · split at e
    · rename_i n en
      rw [Option.map_eq_some_iff] at e
      obtain ⟨b, eb, rfl⟩ := e
      cases rx with
      | cons r1 r2 =>
        cases r2 with
        | cons r2 r3 =>
          cases r3
          cases r2
          exact ⟨_, _, _, _, b, rfl, .ty _, tyS_ok q g r1 en, kit_ty eb, k _ G H (.refl g) (.bl _)⟩
    · cases e
  · cases e
def dIsTS (l : List Ob) (x : D) (cs : List D) : Option D := match tyS l x, clsNames cs with
  | some n, some ns => if cs.length ≤ 1000 then (kitAnyB n ns).map .bl else none
  | _, _ => none
def mIsTS (O : Wo) (a : ME O) (cs : MA O) : ME O := fun ρ s => (a ρ s).bind fun x s1 => (cs ρ s1).bind fun ds s2 => R.lift (dIsTS (O.st s2) x ds) s2
theorem de_isTS {a : Expr} {es : List Expr} {ta : TE} {tc : TA} {ma : ME O} {mc : MA O} {x1} {p p2 pos : Pos} (hm : X.mg "isinstance" = none) (ha : DE K O Wx X a ta ma) (hc : DA K O Wx X es tc mc) (hb : bootBuiltins "isinstance" = some (.builtin "isinstance") := by decide +kernel)
    (hg : Gl X "isinstance" := by rfl) (he : starEach [a, .Tuple es x1 p2] X.env = (false, eval a X.env) :: starEach [.Tuple es x1 p2] X.env := by rfl) (he2 : starEach [.Tuple es x1 p2] X.env = (false, eval (.Tuple es x1 p2) X.env) :: starEach [] X.env := by rfl)
    (hpl : (backTo pos (starEach [.Tuple es x1 p2] X.env)).any (·.1) = false := by rfl) :
    DE K O Wx X (.Call (.Name "isinstance" p) [a, .Tuple es x1 p2] [] pos) (tCB (rIsiT K) (tCons ta (tCons (tTup tc) tNil))) (mIsTS O ma mc) := by
  refine ⟨ha.hK, ha.tk, ?_, fun σ ρ H0 G H s Q F h => ?_⟩
  · have := ha.hK
    subst this
    exact pe_callB call_isiT hg hm hb (pa_cons ha.pe (pa_cons (pe_tup hc.pe) pa_nil he2) he) (by decide) (by decide) he hpl
  · refine ha.sn σ ρ H0 G H s _ F (pst_bind h fun dx s1 _ x G1 H1 t1 k1 r1 h1 => ?_)
    have F1 := F.tr t1 k1
    refine hc.sn σ ρ H0 G1 H1 s1 _ F1 (pst_bind h1 fun ds s2 _ cs G2 H2 t2 k2 r2 h2 => ?_)
    have F2 := F1.tr t2 k2
    obtain ⟨d, e, q⟩ := pst_lift F2 h2
    unfold dIsTS at e
    split at e
    · rename_i n ns en ens
      split at e
      · rename_i hz
        rw [Option.map_eq_some_iff] at e
        obtain ⟨b, eb, rfl⟩ := e
        refine ⟨by rw [r2.length]; exact sz5 (by omega), fun tp ntp => ?_⟩
        have tr := Tr0.new (o := .tup cs) F2.gh ntp
        have nW : ¬ O.W tp := nW_of F2.ok ntp
        have F3 := F2.tr tr.up (F2.keepW tr)
        exact ⟨x, tp, cs, .type n, ns.map Value.type, b, rfl, upd_same, r2.cls ens, tyS_ok F3.sto F3.gh ((r1.mono t2.gg).mono tr.gg) en, kitAnyB_ok eb, q _ _ _ tr (.bl _)⟩
      · cases e
    · cases e
end
end Mr
namespace Mr
open PySem PySem.Spec PyProof.Rows L2 RZ
/-- where a zip of two sources stands before its i-th tuple -/
structure ZAt (k1 k2 : Bool) (z TI TO i1 i2 l1 l2 d : Addr) (xs ys : Array Value) (i : Nat) (h : Heap) : Prop where
  ti : h.get? TI = some (tupO #[.ref i1, .ref i2])
  a1 : It01 k1 h i1 l1 i
  a2 : It01 k2 h i2 l2 i
  s1 : Sq01 k1 h l1 xs
  s2 : Sq01 k2 h l2 ys
  zz : (IsZip h z TI TO .none ∧ h.get? TO = some (tupO #[.none, .none])) ∨ ∃ T f oT, IsZipF h z TI TO T f ∧ h.get? T = some oT ∧ T ≠ z ∧ T ≠ i1 ∧ T ≠ i2 ∧ T ≠ d
section
variable {prog : Program} {w : World}
end
section
variable {K : PySem.W.Frag} {O : Wo} {Wx : WX} {X : Cx} {G : Gh} {H : Hp}
end
end Mr
namespace Mr
open PySem PySem.Spec PyProof.Rows L2 RZ
section
variable {prog : Program} {w : World} {A : Around} {E : Value → Shared → Prop} {s : Shared} {K : PySem.W.Frag} {x C f : Addr} {ox : Obj} {od : Option Obj}
end
section
variable {K : PySem.W.Frag} {O : Wo} {Wx : WX} {X : Cx} {G : Gh} {H : Hp} {C : Addr}
end
end Mr
namespace Mr
open PySem PySem.Spec PyProof.Rows L2 RZ
section
variable {X : Cx}
theorem ext_any (l : Addr) (items : Array Value) (n : Nat) (b : Addr) (items2 : Array Value) (n2 : Nat) (sl : Array (Option Value)) (hc0 : ¬(!items.isEmpty && Builtin.List.listTooLong (items.size + items2.size)) = true) (hc1 : items.size ≤ sizeLine) (hs2 : items.size + items2.size ≤ sizeLine + 1) :
    Meets (Builtin.«list.extend» ⟨[.ref l, .ref b], []⟩) (fun _ R s => s.heap.get? l = some { cls := .type "list", dict := none, data := .seq items n, slots := #[] } ∧ s.heap.get? b = some { cls := .type "list", dict := none, data := .seq items2 n2, slots := sl } ∧ R (.ok (.ret Value.none)) { s with heap := s.heap.update l (Obj.mapSeq fun x => x ++ items2), toks := s.toks }) :=
  .of_wp fun prog w A R s h => by
    obtain ⟨hp, g, d, tk, os⟩ := s; obtain ⟨hl, hb, h⟩ := h; have f1 := AutoSeq1.idx_int; have f2 := AutoSeq1.sub_tuple_tuple; have f3 := AutoSeq1.sub_list_list; have f4 := AutoSeq1.sub_tuple_list; have f5 := AutoSeq1.sub_list_tuple;
    have hz' : (items ++ items2).size ≤ sizeLine + 1 := by rw [Array.size_append]; exact hs2
    wp_walk using (wpAny_updateSeq hl rfl (hz := hc1) (_hz' := hz')), wpAny_loadPart' hl, wpAny_loadPart' hb; exact ⟨_, rfl, h⟩
def rExtV (K : PySem.W.Frag) : V → List V → Hp → VK → Prop := fun x vs H Q => ∃ l b xs zs, x = .ref l ∧ vs = [.ref b] ∧ H l = some (.lst xs) ∧ SqL K H b zs ∧ xs.length + zs.length ≤ sizeLine ∧ Q .non (upd H l (.lst (xs ++ zs)))
theorem mt_extV : MtM X "list.extend" (rExtV X.K) := by
  intro pins s σ H x vs v us Q I rx rv h
  obtain ⟨l, b, xs, zs, rfl, rfl, hH, hB, hz, q⟩ := h
  cases rx
  obtain ⟨u, rfl, ru⟩ := rv.one
  cases ru
  obtain ⟨z, its, n, r, hl, e⟩ := I.lstM hH
  obtain ⟨its2, r2, ⟨o2, n2, e2, c2, d2, t2⟩, hl2⟩ := I.list hB
  obtain ⟨oc, od, ot, os⟩ := o2
  dsimp only at c2 d2 t2
  subst c2 d2 t2
  have l2 := r2.length
  have hsz : its.toArray.size + its2.toArray.size ≤ sizeLine := by rw [List.size_toArray, List.size_toArray]; omega
  have hlong : ¬ (!its.toArray.isEmpty && Builtin.List.listTooLong (its.toArray.size + its2.toArray.size)) = true := by
    rw [notLongL hsz, Bool.and_false]
    exact Bool.false_ne_true
  refine call_meets PySem.F.slot_list_extend ⟨_, e, rfl⟩ PySem.F.entry_list_extend (PySem.F.args_list_extend_2 _ _)
    (ext_any l its.toArray n b its2.toArray n2 os hlong (by rw [List.size_toArray]; omega) (by omega)) ⟨e, e2, ?_⟩
  refine ⟨.non, _, I.lset (its' := its ++ its2) hH e (by simp) (r.append r2) ?_, rfl, q⟩
  rw [List.length_append]
  omega
end
variable {K : PySem.W.Frag} {O : Wo} {Wx : WX} {X : Cx} {G : Gh} {H : Hp}
end Mr
namespace Mr
open PySem PySem.Spec PyProof.Rows L2 RZ
section
variable {K : PySem.W.Frag} {O : Wo} {Wx : WX} {X : Cx}
end
section
variable {X : Cx}
end
section
variable {K : PySem.W.Frag} {O : Wo} {Wx : WX} {X : Cx}
end
end Mr
namespace Mr
open PySem PySem.Spec PyProof.Rows L2 RZ
variable {K : PySem.W.Frag}
section
variable {O : Wo} {Wx : WX} {X : Cx} {x : Str} {p p1 pos : Pos}
end
end Mr
namespace Mr
open PySem PySem.Spec PyProof.Rows L2 RZ
section
variable {K : PySem.W.Frag} {O : Wo} {Wx : WX} {X : Cx}
end
end Mr
namespace Mr
open PySem PySem.Spec PyProof.Rows L2 RZ
section
variable {M : Model} {A : Around} {E : Value → Shared → Prop} {t : Shared} {Z : Obj → Prop} {B : Heap} {env : Env} {outer : List Env} {L C a : Addr}
end
section
variable {X : Cx} {pins : List (Addr × Obj)} {σ : L2.St} {H3 : Hp} {s3 : Shared} {sc : Scope} {ce : Env} {fp : List Addr} {W : WX}
end
section
variable {X : Cx}
end
end Mr
namespace Mr
open PySem PySem.Spec PyProof.Rows L2 RZ
section
variable {X : Cx}
end
/-- an error's __init__(self, f1, ..) that stores nothing -/
def spIniN (K : PySem.W.Frag) (C : Addr) (n : Nat) : Sp := fun vs H Q _ => ∃ (a : Addr) (ws : List V), vs = .ref a :: ws ∧ ws.length = n ∧ H a = some (exo a C none) ∧ (∀ v ∈ ws, FmtV K v H) ∧ Q .non H
structure ErTN (P : Program) (w : World) (K : PySem.W.Frag) (mg : Str → Option Value) (base : Heap) (x : Str) (C : Addr) (fs : List Str) : Prop where
  gC : mg x = some (.ref C)
  T : OexC K C
  ini : ∃ fI fd, PySem.W.findIn K (.ref C) "__init__" = some (some (.ref fI)) ∧ PySem.W.typeIn K (.ref fI) = some (.type "function") ∧ FnOk P w K mg base CX0 1 fI fd ("self" :: fs) (spIniN K C fs.length) ∧ Binds K fd ("self" :: fs) []
section
variable {K : PySem.W.Frag} {O : Wo} {Wx : WX} {X : Cx} {G0 : Gh} {H0 : Hp} {G : Gh} {H : Hp} {G1 : Gh} {H1 : Hp} {σ : L2.St} {ρ : Ev} {s s1 : O.S}
end
end Mr
namespace Mr
open PySem PySem.Spec PyProof.Rows L2 RZ
section
variable {K : PySem.W.Frag} {O : Wo} {Wx : WX} {X : Cx}
open Classical in
noncomputable def lcLX (S : Type) (st : S → List Ob) (c : List Ob → Prop) (f : D → Ev → Option Ev) (mt : Ev → S → R S Bool) (me : Ev → S → R S D) (ρ : Ev) : List D → List D → S → R S (List D)
  | [], acc, s => if c (st s) then .ok acc s else .bad
  | d :: ds, acc, s => if c (st s) then (match f d ρ with
    | none => .bad
    | some ρ1 => match mt ρ1 s with
      | .ok true s1 => match me ρ1 s1 with
        | .ok y s2 => if acc.length < 100000 then lcLX S st c f mt me ρ ds (acc ++ [y]) s2 else .bad
        | .err c fs s2 => .err c fs s2
        | .bad => .bad
      | .ok false s1 => lcLX S st c f mt me ρ ds acc s1
      | _ => .bad) else .bad
end
end Mr
namespace Mr
open PySem PySem.Spec PyProof.Rows L2 RZ
def putT (kvs : List (List Key × D)) (k : List Key) (v : D) : List (List Key × D) := if (kvs.any fun kv => decide (kv.1 = k)) = true then kvs.map (fun kv => if kv.1 = k then (kv.1, v) else kv) else kvs ++ [(k, v)]
def valT (kvs : List (List Key × D)) (k : List Key) : Option D := (kvs.find? fun kv => decide (kv.1 = k)).map (·.2)
def toKeys : List D → Option (List Key)
  | [] => some []
  | .int i :: ds => (toKeys ds).map (.inl i :: ·)
  | _ :: _ => none
def tupK : D → Option (List Key)
  | .tup ds => toKeys ds
  | _ => none
section
variable {K : PySem.W.Frag} {O : Wo} {Wx : WX} {X : Cx} {G0 : Gh} {H0 : Hp} {G : Gh} {H : Hp} {G1 : Gh} {H1 : Hp} {σ : L2.St} {ρ : Ev} {s s1 : O.S}
theorem RepT.any {vs : List (List Key × V)} {ds : List (List Key × D)} (r : RepT K G vs ds) (k : List Key) : (vs.any fun kv => decide (kv.1 = k)) = ds.any fun kv => decide (kv.1 = k) := by
  induction vs generalizing ds with
  | nil => cases r; rfl
  | cons p vs ih =>
    cases r with
    | cons h r => rw [List.any_cons, List.any_cons, ih r]
theorem RepT.mapK {v : V} {d : D} (q : Rep K G v d) (k : List Key) : ∀ {vs : List (List Key × V)} {ds : List (List Key × D)}, RepT K G vs ds → RepT K G (vs.map (fun kv => if kv.1 = k then (kv.1, v) else kv)) (ds.map (fun kv => if kv.1 = k then (kv.1, d) else kv))
  | _, _, .nil => .nil
  | (f, _) :: _, _, .cons h r => by
    rw [List.map_cons, List.map_cons]
    by_cases e : f = k
    · subst e
      simp only [if_true]
      exact .cons q (r.mapK q f)
    · simp only [e, if_false]
      exact .cons h (r.mapK q k)
theorem RepT.append : ∀ {a b : List (List Key × V)} {c d : List (List Key × D)}, RepT K G a c → RepT K G b d → RepT K G (a ++ b) (c ++ d)
  | _, _, _, _, .nil, r => r
  | _, _, _, _, .cons h r, q => .cons h (r.append q)
theorem RepT.put {v : V} {d : D} {k : List Key} {vs : List (List Key × V)} {ds : List (List Key × D)} (r : RepT K G vs ds) (q : Rep K G v d) : RepT K G (putK vs k v) (putT ds k d) := by
  unfold putK putT
  rw [r.any k]
  split
  · exact r.mapK q k
  · exact r.append (.cons q .nil)
theorem RepT.val {vs : List (List Key × V)} {ds : List (List Key × D)} {k : List Key} {d : D} (r : RepT K G vs ds) (h : valT ds k = some d) : ∃ v, valV vs k = some v ∧ Rep K G v d := by
  induction vs generalizing ds with
  | nil => cases r; cases h
  | cons p vs ih =>
    cases r with
    | @cons f v e vs ds q r =>
      unfold valT at h
      rw [List.find?_cons] at h
      unfold valV
      rw [List.find?_cons]
      by_cases hf : f = k
      · subst hf
        simp only [decide_true] at h ⊢
        cases h
        exact ⟨v, rfl, q⟩
      · simp only [hf, decide_false] at h ⊢
        exact ih r h
theorem RepT.length {vs : List (List Key × V)} {ds : List (List Key × D)} (r : RepT K G vs ds) : vs.length = ds.length := by
  induction vs generalizing ds with
  | nil => cases r; rfl
  | cons p vs ih =>
    cases r with
    | cons q r => rw [List.length_cons, List.length_cons, ih r]
theorem Reps.keys : ∀ {vs : List V} {ds : List D} {ks : List Key}, Reps K G vs ds → toKeys ds = some ks → vs = ks.map kV ∧ ∀ x ∈ vs, ∃ i, x = V.int i
  | _, _, _, .nil, h => by cases h; exact ⟨rfl, fun x h => by cases h⟩
  | _, _, _, .cons q r, h => by
    cases q <;> first | (cases h; done) | skip
    unfold toKeys at h
    rw [Option.map_eq_some_iff] at h
    obtain ⟨ks, e2, rfl⟩ := h
    obtain ⟨e, f⟩ := r.keys e2
    refine ⟨by rw [e]; rfl, fun x hx => ?_⟩
    rcases List.mem_cons.mp hx with rfl | hx
    · exact ⟨_, rfl⟩
    · exact f x hx
theorem Rep.tupK {v : V} {d : D} {ks : List Key} (g : Sh G H) (r : Rep K G v d) (h : Mr.tupK d = some ks) : ∃ b, v = .ref b ∧ H b = some (.tup (ks.map kV)) := by
  cases r with
  | tup hs r =>
    obtain ⟨e, f⟩ := r.keys (show toKeys _ = some ks from h)
    subst e
    rcases g.seqC hs with q | ⟨_, x, hx, hn⟩
    · exact ⟨_, rfl, q⟩
    · obtain ⟨i, rfl⟩ := f x hx
      exact absurd rfl (hn i)
  | _ => cases h
/-- {} with tuples as keys to come: a new dict of the store -/
def mNewT (O : Wo) : ME O := fun _ s => .ok (.obj (O.st s).length) (O.wi s (O.st s ++ [.dcT []]))
theorem de_newT {pos : Pos} (c : Cn K Wx X) : DE K O Wx X (.Dict [] [] pos) tDNewT (mNewT O) := by
  refine ⟨c.hK, c.tk, pe_dnewT, fun σ ρ H0 G H s Q F q p np => ?_⟩
  have gp : G p = none := F.gh.free np
  have t : Tr O.W G H G (upd H p (.dT [])) := (Tr.refl F.gh).mut np gp
  have k : O.ok K s G (upd H p (.dT [])) := ok_off F.ok gp (nW_of F.ok np)
  exact q (.ref p) (mkG G p (O.st s).length) _ (t.mark np gp upd_same rfl) (ok_mark k gp ⟨[], upd_same, .nil⟩) (.obj (.inl mkG_same))
/-- o[i] = e, o such a dict -/
def putTS (l : List Ob) (x i d : D) : Option (Nat × Ob) := match x with
  | .obj n => (match l[n]? with
    | some (.dcT kvs) => (tupK i).bind fun k => if kvs.length < 100000 then some (n, .dcT (putT kvs k d)) else none
    | _ => none)
  | _ => none
def mSetIT (O : Wo) (mo mi m : ME O) : MS O := fun ρ s => toS (m ρ s) ρ fun d s1 => toS (mo ρ s1) ρ fun x s2 => toS (mi ρ s2) ρ fun i s3 => match putTS (O.st s3) x i d with
  | some (n, ob) => .nx ρ (stPut O s3 n ob)
  | none => .bad
theorem ds_setIT {o i e : Expr} {to ti te : TE} {mo mi me : ME O} {p1 p2 : Pos} {j : Nat} (hr : Room j X.A) (ho : DE K O Wx X o to mo) (hi : DE K O Wx X i ti mi) (he : DE K O Wx X e te me)
    (hs : swapsWith e (some (.Subscript o i p1)) p2.line X.env = pure false := by rfl) :
    DS K O Wx X (.Assign [.Subscript o i p1] e p2) (sDPut to ti te) (mSetIT O mo mi me) := by
  refine ⟨ps_dput (hu_of hr) ho.pe hi.pe he.pe hs, fun G0 H0 σ ρ G H s Dn F h => ?_⟩
  refine he.sn σ ρ H0 G H s _ F.fm (pst_toS F h fun d s1 e1 v G1 H1 t1 k1 r1 h1 => ?_)
  have F1 := F.go t1 k1
  refine ho.sn σ ρ H0 G1 H1 _ _ F1.fm (pst_toS F1 h1 fun x s2 e2 xv G2 H2 t2 k2 r2 h2 => ?_)
  have F2 := F1.go t2 k2
  refine hi.sn σ ρ H0 G2 H2 _ _ F2.fm (pst_toS F2 h2 fun i s3 e3 iv G3 H3 t3 k3 r3 h3 => ?_)
  have F3 := F2.go t3 k3
  split at h3
  · rename_i n ob ep
    unfold putTS at ep
    split at ep
    · rename_i m
      split at ep
      · rename_i kvs q4
        rw [Option.bind_eq_some_iff] at ep
        obtain ⟨k, ek, ep⟩ := ep
        by_cases hz : kvs.length < 100000
        · rw [if_pos hz] at ep
          cases ep
          obtain ⟨b, rfl, hb⟩ := r3.tupK F3.fm.gh ek
          obtain ⟨a, rfl, hg, vs, hp, r⟩ := F3.fm.sto.get (r2.mono t3.gg) q4
          obtain ⟨t5, k5⟩ := F3.fm.stw (o := .dT (putK vs k v)) (ob := .dcT (putT kvs k d)) hg (nfz hp rfl) rfl ⟨_, upd_same, r.put ((r1.mono t2.gg).mono t3.gg)⟩ hg
          exact ⟨a, _, rfl, DPut.t hp hb (by rw [r.length]; exact sz5l hz), h3 σ G3 _ (Sm.refl _) (F3.go t5 k5)⟩
        · rw [if_neg hz] at ep
          cases ep
      · cases ep
    · cases ep
  · exact (show False from h3).elim
/-- a[b], a such a dict -/
def idxT (l : List Ob) (x y : D) : Option D := match x with
  | .obj n => (match l[n]? with
    | some (.dcT kvs) => (tupK y).bind fun k => valT kvs k
    | _ => none)
  | _ => none
def mIdxT (O : Wo) (a b : ME O) : ME O := mBinS O idxT a b
theorem de_idxT {a b : Expr} {ta tb : TE} {ma mb : ME O} {pos : Pos} {j : Nat} (hr : Room j X.A) (ha : DE K O Wx X a ta ma) (hb : DE K O Wx X b tb mb) (hs2 : NoSl b := by exact fun _ _ => rfl) :
    DE K O Wx X (.Subscript a b pos) (tDGet ta tb) (mIdxT O ma mb) := by
  refine ⟨ha.hK, ha.tk, pe_dget (hu_of hr) ha.pe hb.pe hs2, fun σ ρ H0 G H s Q F h => ?_⟩
  refine ha.sn σ ρ H0 G H s _ F (pst_bind h fun dx s1 e1 x G1 H1 t1 k1 r1 h1 => ?_)
  have F1 := F.tr t1 k1
  refine hb.sn σ ρ H0 G1 H1 _ _ F1 (pst_bind h1 fun dy s2 e2 y G2 H2 t2 k2 r2 h2 => ?_)
  have F2 := F1.tr t2 k2
  obtain ⟨d, e, q⟩ := pst_lift F2 h2
  unfold idxT at e
  split at e
  · rename_i n
    split at e
    · rename_i kvs q4
      rw [Option.bind_eq_some_iff] at e
      obtain ⟨k, ek, ev⟩ := e
      obtain ⟨b', rfl, hb'⟩ := r2.tupK F2.gh ek
      obtain ⟨a', rfl, hg, vs, hp, rk⟩ := F2.sto.get (r1.mono t2.gg) q4
      obtain ⟨v, e3, e4⟩ := rk.val ev
      refine ⟨_, v, rfl, ?_, q v G2 H2 (.refl t2.gh) e4⟩
      rw [← e3]
      exact DGet.t hp hb'
    · cases e
  · cases e
end
end Mr
namespace Mr
open PySem PySem.Spec PyProof.Rows L2 RZ
section
variable {X : Cx}
theorem ext_anyT (l : Addr) (items : Array Value) (n : Nat) (b : Addr) (items2 : Array Value) (n2 : Nat) (dd : Option Addr) (sl : Array (Option Value)) (hc0 : ¬(!items.isEmpty && Builtin.List.listTooLong (items.size + items2.size)) = true) (hc1 : items.size ≤ sizeLine) (hs2 : items.size + items2.size ≤ sizeLine + 1) :
    Meets (Builtin.«list.extend» ⟨[.ref l, .ref b], []⟩) (fun _ R s => s.heap.get? l = some { cls := .type "list", dict := none, data := .seq items n, slots := #[] } ∧ s.heap.get? b = some { cls := .type "tuple", dict := dd, data := .seq items2 n2, slots := sl } ∧ R (.ok (.ret Value.none)) { s with heap := s.heap.update l (Obj.mapSeq fun x => x ++ items2), toks := s.toks }) :=
  .of_wp fun prog w A R s h => by
    obtain ⟨hp, g, d, tk, os⟩ := s; obtain ⟨hl, hb, h⟩ := h; have f1 := AutoSeq1.idx_int; have f2 := AutoSeq1.sub_tuple_tuple; have f3 := AutoSeq1.sub_list_list; have f4 := AutoSeq1.sub_tuple_list; have f5 := AutoSeq1.sub_list_tuple;
    have hz' : (items ++ items2).size ≤ sizeLine + 1 := by rw [Array.size_append]; exact hs2
    wp_walk using (wpAny_updateSeq hl rfl (hz := hc1) (_hz' := hz')), wpAny_loadPart' hl, wpAny_loadPart' hb; exact ⟨_, rfl, h⟩
def rExtQ (K : PySem.W.Frag) : V → List V → Hp → VK → Prop := fun x vs H Q => ∃ l b xs zs k, x = .ref l ∧ vs = [.ref b] ∧ H l = some (.lst xs) ∧ SqX K H k b zs ∧ xs.length + zs.length ≤ sizeLine ∧ Q .non (upd H l (.lst (xs ++ zs)))
theorem mt_extQ : MtM X "list.extend" (rExtQ X.K) := by
  intro pins s σ H x vs v us Q I rx rv h
  obtain ⟨l, b, xs, zs, k, rfl, rfl, hH, hB, hz, q⟩ := h
  cases k with
  | true => exact mt_extV pins s σ H _ _ v us Q I rx rv ⟨l, b, xs, zs, rfl, rfl, hH, hB, hz, q⟩
  | false =>
    cases rx
    obtain ⟨u, rfl, ru⟩ := rv.one
    cases ru
    obtain ⟨z, its, n, r, hl, e⟩ := I.lstM hH
    obtain ⟨its2, r2, ⟨o2, e2, c2, n2, t2⟩, hl2⟩ := I.tuple (SqX.T hB)
    obtain ⟨oc, od, ot, os⟩ := o2
    dsimp only at c2 t2
    subst c2 t2
    have l2 := r2.length
    have hsz : its.toArray.size + its2.toArray.size ≤ sizeLine := by rw [List.size_toArray, List.size_toArray]; omega
    have hlong : ¬ (!its.toArray.isEmpty && Builtin.List.listTooLong (its.toArray.size + its2.toArray.size)) = true := by
      rw [notLongL hsz, Bool.and_false]
      exact Bool.false_ne_true
    refine call_meets PySem.F.slot_list_extend ⟨_, e, rfl⟩ PySem.F.entry_list_extend (PySem.F.args_list_extend_2 _ _)
      (ext_anyT l its.toArray n b its2.toArray n2 od os hlong (by rw [List.size_toArray]; omega) (by omega)) ⟨e, e2, ?_⟩
    refine ⟨.non, _, I.lset (its' := its ++ its2) hH e (by simp) (r.append r2) ?_, rfl, q⟩
    rw [List.length_append]
    omega
end
section
variable {K : PySem.W.Frag} {O : Wo} {Wx : WX} {X : Cx} {G : Gh} {H : Hp}
def mExtSV (O : Wo) (mo me : ME O) : ME O := fun ρ s => (mo ρ s).bind fun x s1 => match x with
  | .obj n => (match (O.st s1)[n]? with
    | some (.lst _) => (me ρ s1).bind fun d s2 => (match (O.st s2)[n]? with
      | some (.lst xs) => (match sqS (O.st s2) d with
        | some (_, zs) => if xs.length + zs.length ≤ 100000 then .ok .non (stPut O s2 n (.lst (xs ++ zs))) else .bad
        | none => .bad)
      | _ => .bad)
    | _ => .bad)
  | _ => .bad
theorem de_extSV {o e : Expr} {to te : TE} {mo me : ME O} {p2 p3 : Pos} (ho : DE K O Wx X o to mo) (he : DE K O Wx X e te me)
    (hbase : attributeBase o "extend" X.env (eval o X.env) = eval o X.env := by rfl)
    (hfew : ((backTo p3 (starEach [e] X.env)).all (fun x => !x.1) && (backToKw p3 (keywordEach [] X.env)).all (fun x => x.1.isSome) && decide ([e].length + ([] : List Keyword).length + (if ([] : List Keyword).isEmpty then 0 else 1) < 30)) = true := by rfl)
    (hline : (p2.endLine == p3.line) = true := by rfl) (hse : starEach [e] X.env = (false, eval e X.env) :: starEach [] X.env := by rfl) (hpl : (backTo p3 (starEach [] X.env)).any (·.1) = false := by rfl) :
    DE K O Wx X (.Call (.Attribute o "extend" p2) [e] [] p3) (tBM K "list" (rExtQ K) to (tCons te tNil)) (mExtSV O mo me) := by
  refine ⟨ho.hK, ho.tk, by rw [← he.hK]; exact pe_bm PySem.F.plainAttrs_list PySem.F.slot_list_extend PySem.F.type_list_extend mt_extQ ho.pe (pa_cons he.pe pa_nil hse) hbase hfew hline hse hpl, fun σ ρ H0 G H s Q F h => ?_⟩
  refine ho.sn σ ρ H0 G H s _ F (pst_bind h fun x s1 _ xv G1 H1 t1 k1 r1 h1 => ?_)
  have F1 := F.tr t1 k1
  split at h1
  · rename_i n
    split at h1
    · rename_i xs0 e0
      obtain ⟨a, rfl, hg, vs0, hp0, _⟩ := F1.sto.get r1 e0
      refine ⟨.inl ⟨rfl, vs0, .inl (.inl hp0)⟩, ?_⟩
      refine he.sn σ ρ H0 G1 H1 s1 _ F1 (pst_bind h1 fun d s2 _ v G2 H2 t2 k2 r2 h2 => ?_)
      have F2 := F1.tr t2 k2
      split at h2
      · rename_i xs e1
        split at h2
        · rename_i kk zs e2
          split at h2
          · rename_i hz
            obtain ⟨b, eb, hg2, vs, hp, r3⟩ := F2.sto.get (r1.mono t2.gg) e1
            cases eb
            obtain ⟨c, ws, rfl, hq, rq⟩ := sqS_ok F2.sto F2.gh r2 e2
            refine ⟨a, c, vs, ws, kk, rfl, rfl, hp, hq, by rw [r3.length, rq.length]; exact sz5 hz, ?_⟩
            obtain ⟨t5, k5⟩ := F2.stw (o := .lst (vs ++ ws)) (ob := .lst (xs ++ zs)) hg2 (nfz hp rfl) rfl ⟨_, upd_same, r3.append rq⟩ hg2
            exact h2 .non G2 _ t5 k5 .non
          · exact (show False from h2).elim
        · exact (show False from h2).elim
      · exact (show False from h2).elim
    · exact (show False from h1).elim
  · exact (show False from h1).elim
end
end Mr
namespace Mr
open PySem PySem.Spec PyProof.Rows L2 RZ
theorem tuple_mul1 (l : Addr) (items : Array Value) (n : Nat) (dd : Option Addr) (sl : Array (Option Value)) (x : Int) (u : Tok) (c0 : (decide (x < -(2 ^ 63)) || decide (x ≥ 2 ^ 63)) = false) (c1 : (items.isEmpty || x == 1) = true) :
    Meets (Builtin.«tuple.__mul__» ⟨[.ref l, .int x u], []⟩) (fun _ R s => s.heap.get? l = some { cls := .type "tuple", dict := dd, data := .seq items n, slots := sl } ∧
      R (.ok (.ret (Value.ref l))) s) :=
  .of_wp fun prog w A R s h => by
    obtain ⟨hp, g, d, tk, os⟩ := s
    obtain ⟨hl, h⟩ := h
    have f1 := AutoSeq1.idx_int
    wp_walk using wpAny_loadPart' hl
    repeat (first
      | (refine wpAny_ite_false (decide_eq_false (by rw [c0]; exact Bool.false_ne_true)) ?_; wp_walk using wpAny_loadPart' hl)
      | (refine wpAny_ite_true (decide_eq_true c1) ?_; wp_walk using wpAny_loadPart' hl))
    exact ⟨_, rfl, h⟩
def rRepT1 (K : PySem.W.Frag) : R2 := fun x y H Q => ∃ l xs, x = .ref l ∧ y = .int 1 ∧ SqT K H l xs ∧ Q (.ref l) H
section
variable {K : PySem.W.Frag} {X : Cx}
theorem op_repT1 : OpR X (binaryOp .Mult) (rRepT1 X.K) := by
  intro pins s σ H x y v u Q I rx ry h
  obtain ⟨l, xs, rfl, rfl, hT, q⟩ := h
  cases rx
  obtain ⟨t, rfl⟩ := ry
  obtain ⟨its, r, ⟨⟨cls, dd, data, sl⟩, ho, hc, n, hd⟩, hs⟩ := I.tuple hT
  simp only at hc hd
  subst hc hd
  have c0 : (decide ((1 : Int) < -(2 ^ 63)) || decide ((1 : Int) ≥ 2 ^ 63)) = false := by decide
  have c1 : (its.toArray.isEmpty || (1 : Int) == 1) = true := by simp
  refine wpAny_binaryOp_repeat_ref (T := "tuple") (U := "int") (by decide) ⟨_, ho, rfl⟩ (fun s' => typeIs_int s' 1 t) noFill_tuple_mul F.fills_int_mul F.slot_int_rmul repeat_tuple F.slot_int_index.lookup
    (call_meets F.slot_int_rmul (typeIs_int s 1 t) F.entry_int_rmul (F.args_int_rmul_2 _ _) (int_rmul_tuple 1 t l its.toArray n dd sl)
      ⟨ho, rfl, ⟨_, ho, rfl⟩, call_meets F.slot_tuple_mul ⟨_, ho, rfl⟩ F.entry_tuple_mul (F.args_tuple_mul_2 _ _) (tuple_mul1 l its.toArray n dd sl 1 t c0 c1) ⟨ho, ?_⟩⟩)
  exact ⟨.ref l, _, I, rfl, q⟩
def rMulT (K : PySem.W.Frag) : R2 := fun x y H Q => rRepT K x y H Q ∨ rRepT1 K x y H Q
theorem op_mulT (hK : X.K = K) : OpR X (binaryOp .Mult) (rMulT K) := by
  subst hK
  exact op_repT.or op_repT1
def dMulT : D → D → Option D
  | .tup xs, .int k => if xs ≠ [] ∧ 1 ≤ k ∧ k ≤ 1000 ∧ xs.length ≤ 1000 then some (.tup (List.replicate k.toNat xs).flatten) else none
  | _, _ => none
theorem vop_mulT : VOp K (rMulT K) dMulT := by
  intro G H x y dx dy d Q g rx ry e q
  unfold dMulT at e
  split at e
  · split at e
    · rename_i hz
      obtain ⟨hne, k1, k2, hl⟩ := hz
      cases e
      cases rx with
      | @tup a vs ds hx r1 =>
        cases ry
        have l1 := r1.length
        have vne : vs ≠ [] := fun z => hne (r1.nil_iff.mp z)
        rename_i k
        by_cases hk : 2 ≤ k
        · exact .inl ⟨_, _, vs, rfl, rfl, g.seqT hx, vne, hk, k2, by omega, fun p n => q _ _ _ (Tr0.new g n) (new_tup g n (r1.rep _))⟩
        · have : k = 1 := by omega
          subst this
          refine .inr ⟨_, vs, rfl, rfl, g.seqT hx, ?_⟩
          have := q (.ref a) G H (.refl g) (.tup hx (by simpa using r1))
          exact this
    · cases e
  · cases e
theorem de_mulT {O : Wo} {Wx : WX} {a b : Expr} {ta tb : TE} {ma mb : ME O} {pos : Pos} (ha : DE K O Wx X a ta ma) (hb : DE K O Wx X b tb mb) : DE K O Wx X (.BinOp a .Mult b pos) (tOp (rMulT K) ta tb) (mBin O dMulT ma mb) := de_bin (op_mulT ha.hK) vop_mulT ha hb
end
def IsP2 (h : Heap) (v : Value) (x : Int × Int) : Prop := ∃ a o t t2 n, v = Value.ref a ∧ h.get? a = some o ∧ o.cls = .type "tuple" ∧ o.data = .seq #[.int x.1 t, .int x.2 t2] n
theorem IsP2.keeps {h h' : Heap} {v : Value} {x : Int × Int} (p : IsP2 h v x) (k : ∀ b o, h.get? b = some o → o.cls = .type "tuple" → h'.get? b = some o) : IsP2 h' v x := by
  obtain ⟨a, o, t, u, n, e, ho, hc, hd⟩ := p
  exact ⟨a, o, t, u, n, e, k _ _ ho hc, hc, hd⟩
def ltP (x y : Int × Int) : Prop := x.1 < y.1 ∨ x.1 = y.1 ∧ x.2 < y.2
def leP (x y : Int × Int) : Prop := x.1 < y.1 ∨ x.1 = y.1 ∧ x.2 ≤ y.2
instance : ∀ x y, Decidable (ltP x y) := fun x y => by unfold ltP; infer_instance
instance : ∀ x y, Decidable (leP x y) := fun x y => by unfold leP; infer_instance
theorem not_ltP {x y : Int × Int} : ¬ ltP y x ↔ leP x y := by unfold ltP leP; omega
abbrev lt2P {α : Type} (k : α → Int × Int) (x y : α) : Bool := decide (ltP (k x) (k y))
theorem lt2P_swo {α : Type} (k : α → Int × Int) : SrtO.Swo (lt2P k) := by
  refine ⟨fun x y h => ?_, fun x y z h1 h2 => ?_⟩
  · have := of_decide_eq_true h
    refine decide_eq_false ?_
    unfold ltP at *
    omega
  · have a := of_decide_eq_false h1
    have b := of_decide_eq_false h2
    refine decide_eq_false ?_
    unfold ltP at *
    omega
section
variable {prog : Program} {w : World} {A : Around} {E : Value → Shared → Prop} {s : Shared}
theorem p2_cmp {vs : List Value} {k : Value → Int × Int} (hp : ∀ v ∈ vs, IsP2 s.heap v (k v)) : SrtO.Cmp prog w A s (tuples' true) (fun p => p.1 ∈ vs) (SrtO.lt2 (lt2P k)) := by
  intro p q hm hm'
  have h1 := hp _ hm
  have h2 := hp _ hm'
  show wpAny (model prog w) A (keyLt' (tuples' true) p.1 q.1) (fun r s' => s' = s ∧ r = decide (ltP (k p.1) (k q.1))) (fun _ _ => False) s
  generalize k p.1 = x at h1 ⊢
  generalize k q.1 = x' at h2 ⊢
  obtain ⟨x, y⟩ := x
  obtain ⟨x', y'⟩ := x'
  obtain ⟨a, o, t, u, n, e, ho, hc, hd⟩ := h1
  obtain ⟨a', o', t', u', n', e', ho', hc', hd'⟩ := h2
  rw [e, e']
  refine PySem.W.kat_lt ho hd ho' hd' ?_
  show PySem.W.KatLex prog w A true (decide (2 < 2)) _ [(.int x t, .int x' t'), (.int y u, .int y' u')] 0 s
  refine PySem.W.kat_cons (SeqAt.EqAt.int_int x t x' t' prog w _ _ ?_)
  refine PySem.W.kat_go (fun e1 => ?_) (fun e1 => ?_)
  · have e1 : x = x' := by simpa using e1
    subst e1
    refine PySem.W.kat_yes (PySem.W.kat_cons (SeqAt.EqAt.int_int y u y' u' prog w _ _ ?_))
    refine PySem.W.kat_go (fun e2 => ?_) (fun e2 => ?_)
    · have e2 : y = y' := by simpa using e2
      subst e2
      exact PySem.W.kat_yes (PySem.W.kat_nil ⟨rfl, (decide_eq_false (by unfold ltP; omega)).symm⟩)
    · have e2 : y ≠ y' := by simpa using e2
      have : (y < y') ↔ ltP (x, y) (x, y') := by unfold ltP; simp
      exact PySem.W.kat_no (TS.oneLt_ints _ ⟨rfl, decide_eq_decide.mpr this⟩)
  · have e1 : x ≠ x' := by simpa using e1
    have : (x < x') ↔ ltP (x, y) (x', y') := by unfold ltP; simp [e1]
    exact PySem.W.kat_no (TS.oneLt_ints _ ⟨rfl, decide_eq_decide.mpr this⟩)
theorem p2_firsts {h : Heap} : ∀ {vs : List Value}, (∀ v ∈ vs, ∃ x, IsP2 h v x) → ∃ fs : List Value, PySem.W.KatTups h vs fs ∧ fs.length = vs.length ∧ ∀ f ∈ fs, ∃ x t, f = Value.int x t
  | [], _ => ⟨[], PySem.W.KatTups.nil, rfl, fun _ hm => by simp at hm⟩
  | v :: vs, hp => by
    obtain ⟨fs, h1, h2, h3⟩ := p2_firsts (vs := vs) fun v' hm => hp v' (List.mem_cons_of_mem _ hm)
    obtain ⟨x, a, o, t, u, n, e, ho, hc, hd⟩ := hp v (List.mem_cons_self ..)
    subst e
    refine ⟨.int x.1 t :: fs, PySem.W.KatTups.cons ho hc hd rfl h1, by rw [List.length_cons, List.length_cons, h2], fun f hm => ?_⟩
    rcases List.mem_cons.mp hm with rfl | hm
    · exact ⟨x.1, t, rfl⟩
    · exact h3 f hm
theorem p2_sortable {a : Addr} {vs : List Value} {k : Value → Int × Int} (h0 : 0 < vs.length) (hp : ∀ v ∈ vs, IsP2 s.heap v (k v)) (ha : ∀ o, s.heap.get? a = some o → o.cls ≠ .type "tuple") : SrtO.SortableO prog w A s a vs (lt2P k) := by
  intro h' keep
  have hp' : ∀ v ∈ vs, IsP2 h' v (k v) := fun v hm => (hp v hm).keeps fun b o e c => keep b o (fun z => by subst z; exact ha o e c) e
  obtain ⟨fs, h1, h2, h3⟩ := p2_firsts fun v hm => ⟨_, hp' v hm⟩
  refine ⟨tuples' true, fun Q E hq => ?_, p2_cmp hp'⟩
  refine PySem.W.kat_kind (T := .type "int") h1 (by omega) (fun f hm => ?_) (by rfl) ?_
  · obtain ⟨x, t, rfl⟩ := h3 f hm
    exact PySem.W.Looks.now
  · have e : (Value.type "int" != Value.type "tuple") = true := by first | decide +kernel | rfl | decide
    rw [e]
    exact hq
theorem sorted_p2 {l : Addr} {vs : List Value} {k : Value → Int × Int} {Q : Value → Shared → Prop} (hl : s.heap.IsList l vs.toArray) (hz : vs.length ≤ sizeLine) (hp : ∀ v ∈ vs, IsP2 s.heap v (k v))
    (h : ∀ (h' : Heap) (d : Addr) (out : List Value), SrtO.Srtd (lt2P k) out → out.Perm vs → (∀ b o, s.heap.get? b = some o → h'.get? b = some o) → s.heap.objs.size ≤ d → (∃ n, h'.get? d = some (seqObj "list" out.toArray n)) → Q (.ref d) { s with heap := h' }) :
    wpAny (model prog w) A (call (.builtin "sorted") [.ref l]) Q E s := by
  refine SrtO.sorted_ord (lt2P_swo k) hl hz (fun h2 h₁ a ha kk => ?_) fun out hs hb => ?_
  · refine p2_sortable (s := { s with heap := h₁ }) (by omega) (fun v hm => (hp v hm).keeps fun b o e _ => (kk b o e).2) fun o e => ?_
    have e' : some o = some (seqObj "list" vs.toArray 0) := e.symm.trans ha
    cases e'
    intro c
    exact absurd (Value.type.inj c) (by decide)
  · exact h _ _ out hs hb.perm (fun b o e => sortedAll_old e) (Nat.le_succ _) (sortedAll_at s.heap vs out.toArray)
end
def rSortedP2 (K : PySem.W.Frag) : List V → Hp → VK → Prop := fun vs H Q => ∃ (a : Addr) (xs : List V) (ns : List (Int × Int)), vs = [V.ref a] ∧ SqL K H a xs ∧ Paired (fun x n => ∃ t, x = V.ref t ∧ SqT K H t [.int n.1, .int n.2]) xs ns ∧
  ∀ (zs : List (V × (Int × Int))) p, zs.Pairwise (fun a b => leP a.2 b.2) → zs.Perm (xs.zip ns) → H p = none → Q (.ref p) (upd H p (.lst (zs.map (·.1))))
open Classical in
theorem cr_sortedP2 {X : Cx} : CallR X (.builtin "sorted") (rSortedP2 X.K) := by
  intro pins s σ H vs us Q I r h
  obtain ⟨a, xs, ns, rfl, hs, hp, q⟩ := h
  obtain ⟨its, rv, hl, hz⟩ := I.list hs
  obtain ⟨u, rfl, ru⟩ := vals1 r
  obtain rfl : u = Value.ref a := ru
  have hx : ∀ x ∈ xs, ∃ (n : Int × Int) (t : Addr), x = V.ref t ∧ SqT X.K H t [.int n.1, .int n.2] := fun x m => by
    obtain ⟨j, hj⟩ := List.mem_iff_getElem?.mp m
    obtain ⟨n, _, t, e, ht⟩ := paired_at hp hj
    exact ⟨n, t, e, ht⟩
  -- the key of a thing
  let k : V → Int × Int := fun x => if h : ∃ (n : Int × Int) (t : Addr), x = V.ref t ∧ SqT X.K H t [.int n.1, .int n.2] then h.choose else (0, 0)
  have hk : ∀ (n : Int × Int) t, SqT X.K H t [.int n.1, .int n.2] → k (.ref t) = n := fun n t ht => by
    have hE : ∃ (n' : Int × Int) (t' : Addr), V.ref t = V.ref t' ∧ SqT X.K H t' [.int n'.1, .int n'.2] := ⟨n, t, rfl, ht⟩
    obtain ⟨t', e, ht'⟩ := hE.choose_spec
    have e' : t = t' := V.ref.inj e
    subst e'
    have := I.tuple_inj ht' ht
    have e2 : V.int hE.choose.1 = V.int n.1 := (List.cons.inj this).1
    have e3 : V.int hE.choose.2 = V.int n.2 := (List.cons.inj (List.cons.inj this).2).1
    show (if h : _ then _ else _) = _
    rw [dif_pos hE]
    exact Prod.ext (V.int.inj e2) (V.int.inj e3)
  have hns : ns = xs.map k := by
    refine List.ext_getElem? fun j => ?_
    rw [List.getElem?_map]
    cases e : xs[j]? with
    | none =>
      have := paired_len hp
      rw [List.getElem?_eq_none_iff] at e
      exact List.getElem?_eq_none (by omega)
    | some x =>
      obtain ⟨n, e1, t, rfl, ht⟩ := paired_at hp e
      rw [e1, Option.map_some, hk n t ht]
  obtain ⟨e1, e2⟩ := refs_back rv fun x m => by
    obtain ⟨_, t, e, _⟩ := hx x m
    exact ⟨t, e⟩
  have mem : ∀ v ∈ its, backV v ∈ xs := fun v hv => by rw [e1]; exact List.mem_map.mpr ⟨_, hv, rfl⟩
  refine sorted_p2 (k := fun u => k (backV u)) hl.isList (by rw [← rv.length]; exact hz) (fun v hv => ?_) fun h' d out h1 h2 kp hd hn => ?_
  · obtain ⟨t, rfl⟩ := e2 v hv
    obtain ⟨n, t', e, ht⟩ := hx _ (mem _ hv)
    have e' : t = t' := by
      have : V.ref t = V.ref t' := e
      exact V.ref.inj this
    subst e'
    obtain ⟨its2, r2, p2, _⟩ := I.tuple ht
    obtain ⟨o, ho, hc, m, hd⟩ := p2
    obtain ⟨u1, u2, rfl, ri, rj⟩ := vals2 r2
    obtain ⟨t1, rfl⟩ := ri
    obtain ⟨t2, rfl⟩ := rj
    have := hk n t ht
    refine ⟨t, o, t1, t2, m, rfl, ho, hc, ?_⟩
    show o.data = .seq #[.int (k (.ref t)).1 t1, .int (k (.ref t)).2 t2] m
    rw [this]
    exact hd
  · have h3 : ∀ u ∈ out, ∃ a, u = Value.ref a := fun u hu => e2 u (h2.mem_iff.mp hu)
    obtain ⟨n, hn⟩ := hn
    have hb : (out.map backV).Perm xs := by
      rw [e1]
      exact h2.map backV
    have hz2 : xs.zip ns = xs.map fun x => (x, k x) := by
      rw [hns]
      exact zip_own k xs
    have key := q ((out.map backV).map fun x => (x, k x)) d (by
      have h4 : SrtO.Srtd (lt2P k) (out.map backV) := SrtO.srtd_map h1
      rw [List.pairwise_map]
      exact h4.imp fun h => not_ltP.mp (of_decide_eq_false h)) (by rw [hz2]; exact hb.map _) (I.hok.fresh hd)
    have em : ((out.map backV).map fun x => (x, k x)).map (·.1) = out.map backV := by rw [List.map_map]; exact (List.map_congr_left fun x _ => rfl).trans (List.map_id _)
    rw [em] at key
    refine ⟨.ref d, upd H d (.lst (out.map backV)), I.laid (t' := s.toks) kp hd ⟨?_, out, n, vals_back h3, hn⟩, rfl, key⟩
    rw [hb.length_eq]
    exact hz
def prI : D → Int × Int
  | .tup [.int i, .int j] => (i, j)
  | _ => (0, 0)
def isP2 : D → Bool
  | .tup [.int _, .int _] => true
  | _ => false
def sortQ (ds : List D) : List D := ds.mergeSort (fun a b => decide (leP (prI a) (prI b)))
theorem sortQ_perm (ds : List D) : (sortQ ds).Perm ds := List.mergeSort_perm _ _
theorem sortQ_rise (ds : List D) : (sortQ ds).Pairwise (fun a b => leP (prI a) (prI b)) := by
  have := List.pairwise_mergeSort (le := fun a b : D => decide (leP (prI a) (prI b))) (fun a b c h1 h2 => by simp only [decide_eq_true_eq] at h1 h2 ⊢; unfold leP at *; omega) (fun a b => by simp only [Bool.or_eq_true, decide_eq_true_eq]; unfold leP; omega) ds
  exact this.imp fun h => by simpa using h
theorem isP2_inj {a b : D} (ha : isP2 a = true) (hb : isP2 b = true) (e : prI a = prI b) : a = b := by
  unfold isP2 at ha hb
  split at ha
  · split at hb
    · have e1 := congrArg Prod.fst e
      have e2 := congrArg Prod.snd e
      simp only [prI] at e1 e2
      rw [e1, e2]
    · cases hb
  · cases ha
section
variable {K : PySem.W.Frag} {O : Wo} {Wx : WX} {X : Cx} {G : Gh} {H : Hp}
theorem sortQ_ok {vs : List V} {ds : List D} {zs : List (V × (Int × Int))} (r : Reps K G vs ds) (ok : ds.all isP2 = true) (hs : zs.Pairwise (fun a b => leP a.2 b.2)) (hp : zs.Perm (vs.zip (ds.map prI))) : Reps K G (zs.map (·.1)) (sortQ ds) := by
  obtain ⟨T, h1, rfl⟩ := perm_lift (f := fun p : V × D => (p.1, prI p.2)) hp (zip_mapR prI vs ds)
  have hr := reps_of_pairs (K := K) (G := G) (l := T) fun p hp => reps_pairs r p (h1.mem_iff.mp hp)
  have e : T.map (·.2) = sortQ ds := by
    have pd : (T.map (·.2)).Perm ds := by
      have := h1.map (·.2)
      rw [zip_snd r.length] at this
      exact this
    have al := List.all_eq_true.mp ok
    rw [List.pairwise_map] at hs
    refine List.Perm.eq_of_pairwise (le := fun a b => leP (prI a) (prI b)) (fun a b ha hb h h' => isP2_inj (al a (pd.mem_iff.mp ha)) (al b ((sortQ_perm ds).mem_iff.mp hb)) ?_) ?_ (sortQ_rise ds) (pd.trans (sortQ_perm ds).symm)
    · unfold leP at h h'
      exact Prod.ext (by omega) (by omega)
    rw [List.pairwise_map]
    exact hs
  rw [e] at hr
  rw [List.map_map]
  exact hr
theorem p2_paired (g : Sh G H) : ∀ {vs : List V} {ds : List D}, Reps K G vs ds → ds.all isP2 = true → Paired (fun x n => ∃ t, x = V.ref t ∧ SqT K H t [.int n.1, .int n.2]) vs (ds.map prI)
  | _, _, .nil, _ => .nil
  | _, _, .cons (d := d) r rr, h => by
    rw [List.all_cons, Bool.and_eq_true] at h
    refine .cons ?_ (p2_paired g rr h.2)
    have h1 := h.1
    unfold isP2 at h1
    split at h1
    · cases r with
      | tup hs r =>
        cases r with
        | cons ra rb =>
          cases rb with
          | cons rb rc =>
            cases rc
            cases ra
            cases rb
            exact ⟨_, rfl, g.seqT hs⟩
    · cases h1
def mSortQ (O : Wo) (a : MA O) : MA O := fun ρ s => (a ρ s).bind fun ds s1 => match ds with
  | [x] => (match sqS (O.st s1) x with
    | some (true, xs) => if xs.all isP2 = true then .ok (sortQ xs) s1 else .bad
    | _ => .bad)
  | _ => .bad
theorem cr_sortedP2G {X : Cx} (hK : X.K = K) : CallR X (.builtin "sorted") (rSortedP2 K) := by subst hK; exact cr_sortedP2
theorem dn_sortedQ {e : Expr} {ta : TA} {ma : MA O} {p pos : Pos} (hm : X.mg "sorted" = none) (ha : DA K O Wx X [e] ta ma)
    (hg : Gl X "sorted" := by rfl) (he : starEach [e] X.env = (false, eval e X.env) :: starEach [] X.env := by rfl) (hpl : (backTo pos (starEach [] X.env)).any (·.1) = false := by rfl) :
    DN K O Wx X (.Call (.Name "sorted" p) [e] [] pos) (tCB (rSortedP2 K) ta) (mSortQ O ma) := by
  refine ⟨ha.hK, ha.tk, pe_callB (cr_sortedP2G ha.hK) hg hm (by decide +kernel) ha.pe (by decide) (by decide) he hpl, fun σ ρ H0 G H s Q F h => ?_⟩
  refine ha.sn σ ρ H0 G H s _ F (pstN_bind h fun ds s1 _ vs G1 H1 t1 k1 r1 h1 => ?_)
  have F1 := F.tr t1 k1
  split at h1
  · rename_i x
    cases r1 with
    | cons ra rb =>
      cases rb
      split at h1
      · rename_i xs e1
        split at h1
        · rename_i ok
          obtain ⟨a, vs, rfl, hq, r⟩ := sqS_ok F1.sto F1.gh ra e1
          exact ⟨a, vs, xs.map prI, rfl, hq, p2_paired F1.gh r ok, fun zs p hs hp n => newL (.refl F1.gh) k1 F1.gh h1 (sortQ_ok r ok hs hp) n⟩
        · exact (show False from h1).elim
      · exact (show False from h1).elim
  · exact (show False from h1).elim
end
end Mr
namespace S
open PySem PySem.Spec PyProof.Rows L2 RZ Mr
noncomputable section
def mb_law_mixed (A : Ad) : MS (O A) :=
  (mSeq (O A) (mAsg (O A) (mBin (O A) dMod (mBin (O A) dPow (mBin (O A) dAdd (mBin (O A) dAdd (mBin (O A) dMod (mVar (O A) 0) (mC (O A) (.int 2147483647))) (mBin (O A) dMul (mC (O A) (.int 7919)) (mVar (O A) 1))) (mC (O A) (.int 104729))) (mC (O A) (.int 5))) (mC (O A) (.int 2147483629))) (fName 2))
  (mRet (O A) (mBin (O A) dMod (mBin (O A) dPow (mBin (O A) dAdd (mBin (O A) dAdd (mBin (O A) dMul (mVar (O A) 2) (mC (O A) (.int 48271))) (mBin (O A) dMul (mBin (O A) dMul (mC (O A) (.int 40503)) (mVar (O A) 1)) (mVar (O A) 1))) (mC (O A) (.int 13))) (mC (O A) (.int 3))) (mC (O A) (.int 1000000007)))))
def m_law_mixed (A : Ad) : List D → Dr → R Dr D := runF (O A) 3 (mb_law_mixed A)
def mb_law_take (A : Ad) : MS (O A) :=
  (mSeq (O A) (mDrSet A.d A.a A.b 0 3 (mBin (O A) dAdd (mDrI A.d A.a A.b 0 3) (mC (O A) (.int 1))))
  (mSeq (O A) (mIfS (O A) (mAnd (O A) (mTest (O A) (mBin (O A) dEq (mDrI A.d A.a A.b 0 1) (mC (O A) (.int 0)))) (mDrNe A.d A.a A.b 0 0)) (mDrPop A.d A.a A.b 0) (mNext (O A)))
  (mSeq (O A) (mIfS (O A) (mTest (O A) (mBin (O A) dGt (mDrI A.d A.a A.b 0 1) (mC (O A) (.int 0))))
    (mSeq (O A) (mAsg (O A) (mBin (O A) dMod (mDrI A.d A.a A.b 0 1) (mVar (O A) 1)) (fName 2))
    (mSeq (O A) (mDrSet A.d A.a A.b 0 1 (mBin (O A) dDiv (mDrI A.d A.a A.b 0 1) (mVar (O A) 1))) (mRet (O A) (mVar (O A) 2)))) (mNext (O A)))
  (mSeq (O A) (mAsg (O A) (mC (O A) (.int 17)) (fName 3))
  (mSeq (O A) (mIfS (O A) (mDrNe A.d A.a A.b 0 2) (mAsg (O A) (mDrIx A.d A.a A.b 0 2 (mBin (O A) dMod (mDrI A.d A.a A.b 0 3) (mDrLen A.d A.a A.b 0 2))) (fName 3)) (mNext (O A)))
  (mSeq (O A) (mAsg (O A) (mC (O A) (.int 0)) (fName 2))
  (mSeq (O A) (mAsg (O A) (mC (O A) (.int 1)) (fName 4))
  (mSeq (O A) (mWhile (O A) (fun _ _ => 100) (mTest (O A) (mBin (O A) dLt (mVar (O A) 4) (mVar (O A) 1)))
    (mSeq (O A) (mAsg (O A) (mBin (O A) dAdd (mBin (O A) dMul (mVar (O A) 2) (mC (O A) (.int 1000000007))) (mCall (O A) 2 (m_law_mixed A) (mCons (O A) (mVar (O A) 3) (mCons (O A) (mBin (O A) dAdd (mDrI A.d A.a A.b 0 3) (mBin (O A) dMul (mC (O A) (.int 1009)) (mBin (O A) dMod (mVar (O A) 2) (mC (O A) (.int 97))))) (mNil (O A)))))) (fName 2))
    (mAsg (O A) (mBin (O A) dMul (mVar (O A) 4) (mC (O A) (.int 1000000007))) (fName 4))))
  (mRet (O A) (mBin (O A) dMod (mVar (O A) 2) (mVar (O A) 1)))))))))))
def m_law_take (A : Ad) : List D → Dr → R Dr D := runF (O A) 5 (mb_law_take A)
def mb_law_number (A : Ad) : MS (O A) :=
  (mSeq (O A) (mAsg (O A) (mCall (O A) 2 (m_law_take A) (mCons (O A) (mVar (O A) 0) (mCons (O A) (mC (O A) (.int 8)) (mNil (O A))))) (fName 1))
  (mSeq (O A) (mIfS (O A) (mTest (O A) (mBin (O A) dLt (mVar (O A) 1) (mC (O A) (.int 6))))
  (mRet (O A) (mBin (O A) dSub (mCall (O A) 2 (m_law_take A) (mCons (O A) (mVar (O A) 0) (mCons (O A) (mC (O A) (.int 12)) (mNil (O A))))) (mC (O A) (.int 3))))
  (mNext (O A)))
  (mSeq (O A) (mAsg (O A) (mCall (O A) 2 (m_law_take A) (mCons (O A) (mVar (O A) 0) (mCons (O A) (mBin (O A) dIdx (mCl (O A) dList (mCons (O A) (mBin (O A) dPow (mC (O A) (.int 10)) (mC (O A) (.int 6))) (mCons (O A) (mBin (O A) dPow (mC (O A) (.int 10)) (mC (O A) (.int 40))) (mNil (O A))))) (mBin (O A) dSub (mVar (O A) 1) (mC (O A) (.int 6)))) (mNil (O A))))) (fName 2))
  (mRet (O A) (mBin (O A) dIdx (mCl (O A) dList (mCons (O A) (mVar (O A) 2) (mCons (O A) (mBin (O A) dSub (mC (O A) (.int 0)) (mVar (O A) 2)) (mNil (O A))))) (mCall (O A) 2 (m_law_take A) (mCons (O A) (mVar (O A) 0) (mCons (O A) (mC (O A) (.int 2)) (mNil (O A))))))))))
def m_law_number (A : Ad) : List D → Dr → R Dr D := runF (O A) 3 (mb_law_number A)
end
end S
namespace S
open PySem PySem.Spec PyProof.Rows L2 RZ Mr
/-- the evaluation equations, all in one -/
theorem EE : type_of% (And.intro @runF.eq_1 <| And.intro @mSeq.eq_1 <| And.intro @mAsg.eq_1 <| And.intro @mBin.eq_1 <| And.intro @mUn.eq_1 <| And.intro @mVar.eq_1 <| And.intro @mC.eq_1 <| And.intro @mRet.eq_1 <| And.intro @mNext.eq_1 <| And.intro @mIfS.eq_1 <| And.intro @mTest.eq_1 <| And.intro @mTruth.eq_1 <| And.intro @mAnd.eq_1 <| And.intro @mOr.eq_1 <| And.intro @mNot.eq_1 <| And.intro @mAndV.eq_1 <| And.intro @mOrV.eq_1 <| And.intro @mNotV.eq_1 <| And.intro @mCl.eq_1 <| And.intro @mCons.eq_1 <| And.intro @mNil.eq_1 <| And.intro @mCall.eq_1 <| And.intro @mDrop.eq_1 <| And.intro @mDrI.eq_1 <| And.intro @mDrNe.eq_1 <| And.intro @mDrIx.eq_1 <| And.intro @mDrLen.eq_1 <| And.intro @mDrSet.eq_1 <| And.intro @mDrPop.eq_1 <| And.intro @drL.eq_1 <| And.intro @isDr0 <| And.intro @fName.eq_1 <| And.intro @bind_ok <| And.intro @bind_err <| And.intro @bind_bad <| And.intro @eAdd <| And.intro @eSub <| And.intro @eMul <| And.intro @eDiv <| And.intro @eMod <| And.intro @ePow <| And.intro @eNeg <| And.intro @eLt <| And.intro @eLe <| And.intro @eGt <| And.intro @eGe <| And.intro @eEqI <| And.intro @eNeI <| And.intro @eEqB <| And.intro @eNeB <| And.intro @eIdxL <| And.intro @eIdxT <| And.intro @eBool <| And.intro @eAbs <| And.intro @Bool.false_eq_true <| And.intro @dList.eq_1 <| And.intro @dTup.eq_1 <| And.intro @if_true.{1} <| And.intro @if_false.{1} <| And.intro @if_pos.{1} <| And.intro @List.map_cons.{0,0} <| And.intro @List.map_nil.{0,0} <| And.intro @List.length_cons.{0} <| And.intro @List.length_nil.{0} <| And.intro @List.cons_append.{0} <| And.intro @List.nil_append.{0} <| And.intro @List.getElem?_cons_zero.{0} <| And.intro @List.getElem?_cons_succ.{0} <| And.intro @List.set_cons_zero.{0} <| And.intro @List.set_cons_succ.{0} <| And.intro @Bool.not_true <| And.intro @Bool.not_false <| And.intro @decide_true <| And.intro @decide_false <| And.intro @ite_true.{1} <| And.intro @ite_false.{1} <| And.intro @mIf.eq_1 <| And.intro @mLst.eq_1 <| And.intro @mSlice.eq_1 <| And.intro @mPart.eq_1 <| And.intro @mNoPart.eq_1 <| And.intro @mItS.eq_1 <| And.intro @mItL.eq_1 <| And.intro @mItT.eq_1 <| And.intro @mFor.eq_1 <| And.intro @mPar.eq_1 <| And.intro @mPass.eq_1 <| And.intro @mBrk.eq_1 <| And.intro @mCnt.eq_1 <| @mRetN.eq_1) :=
  (And.intro @runF.eq_1 <| And.intro @mSeq.eq_1 <| And.intro @mAsg.eq_1 <| And.intro @mBin.eq_1 <| And.intro @mUn.eq_1 <| And.intro @mVar.eq_1 <| And.intro @mC.eq_1 <| And.intro @mRet.eq_1 <| And.intro @mNext.eq_1 <| And.intro @mIfS.eq_1 <| And.intro @mTest.eq_1 <| And.intro @mTruth.eq_1 <| And.intro @mAnd.eq_1 <| And.intro @mOr.eq_1 <| And.intro @mNot.eq_1 <| And.intro @mAndV.eq_1 <| And.intro @mOrV.eq_1 <| And.intro @mNotV.eq_1 <| And.intro @mCl.eq_1 <| And.intro @mCons.eq_1 <| And.intro @mNil.eq_1 <| And.intro @mCall.eq_1 <| And.intro @mDrop.eq_1 <| And.intro @mDrI.eq_1 <| And.intro @mDrNe.eq_1 <| And.intro @mDrIx.eq_1 <| And.intro @mDrLen.eq_1 <| And.intro @mDrSet.eq_1 <| And.intro @mDrPop.eq_1 <| And.intro @drL.eq_1 <| And.intro @isDr0 <| And.intro @fName.eq_1 <| And.intro @bind_ok <| And.intro @bind_err <| And.intro @bind_bad <| And.intro @eAdd <| And.intro @eSub <| And.intro @eMul <| And.intro @eDiv <| And.intro @eMod <| And.intro @ePow <| And.intro @eNeg <| And.intro @eLt <| And.intro @eLe <| And.intro @eGt <| And.intro @eGe <| And.intro @eEqI <| And.intro @eNeI <| And.intro @eEqB <| And.intro @eNeB <| And.intro @eIdxL <| And.intro @eIdxT <| And.intro @eBool <| And.intro @eAbs <| And.intro @Bool.false_eq_true <| And.intro @dList.eq_1 <| And.intro @dTup.eq_1 <| And.intro @if_true.{1} <| And.intro @if_false.{1} <| And.intro @if_pos.{1} <| And.intro @List.map_cons.{0,0} <| And.intro @List.map_nil.{0,0} <| And.intro @List.length_cons.{0} <| And.intro @List.length_nil.{0} <| And.intro @List.cons_append.{0} <| And.intro @List.nil_append.{0} <| And.intro @List.getElem?_cons_zero.{0} <| And.intro @List.getElem?_cons_succ.{0} <| And.intro @List.set_cons_zero.{0} <| And.intro @List.set_cons_succ.{0} <| And.intro @Bool.not_true <| And.intro @Bool.not_false <| And.intro @decide_true <| And.intro @decide_false <| And.intro @ite_true.{1} <| And.intro @ite_false.{1} <| And.intro @mIf.eq_1 <| And.intro @mLst.eq_1 <| And.intro @mSlice.eq_1 <| And.intro @mPart.eq_1 <| And.intro @mNoPart.eq_1 <| And.intro @mItS.eq_1 <| And.intro @mItL.eq_1 <| And.intro @mItT.eq_1 <| And.intro @mFor.eq_1 <| And.intro @mPar.eq_1 <| And.intro @mPass.eq_1 <| And.intro @mBrk.eq_1 <| And.intro @mCnt.eq_1 <| @mRetN.eq_1)
end S
namespace S
open PySem PySem.Spec PyProof.Rows L2 RZ Mr
variable {qst : List Ob}
theorem mixed_ok (A : Ad) (z k : Int) (s : Dr) (h0 : 0 ≤ k) (h1 : k ≤ 2000000) : ∃ r, m_law_mixed A [.int z, .int k] s = .ok (.int r) s ∧ 0 ≤ r ∧ r < 1000000007 := by
  have a1 : 0 ≤ z.fmod 2147483647 := Int.fmod_nonneg_of_pos z (by decide)
  have a2 : z.fmod 2147483647 < 2147483647 := Int.fmod_lt_of_pos z (by decide)
  have c1 : CModG z 2147483647 := by unfold CModG; decide
  have c2 : CMulG 7919 k := mulG (by decide) (by decide) (by omega) (by omega)
  have c3 : CPowG (z.fmod 2147483647 + 7919 * k + 104729) 5 := ⟨by decide, by decide, by omega⟩
  have c4 : ∀ y : Int, CModG y 2147483629 := fun y => by unfold CModG; decide
  have c9 : ∀ y : Int, CModG y 1000000007 := fun y => by unfold CModG; decide
  have f1 : 0 ≤ ((z.fmod 2147483647 + 7919 * k + 104729) ^ 5).fmod 2147483629 := Int.fmod_nonneg_of_pos _ (by decide)
  have f2 : ((z.fmod 2147483647 + 7919 * k + 104729) ^ 5).fmod 2147483629 < 2147483629 := Int.fmod_lt_of_pos _ (by decide)
  have c5 : CMulG (((z.fmod 2147483647 + 7919 * k + 104729) ^ 5).fmod 2147483629) 48271 := mulG (by omega) (by omega) (by decide) (by decide)
  have c6 : CMulG 40503 k := mulG (by decide) (by decide) (by omega) (by omega)
  have c7 : CMulG (40503 * k) k := mulG (by omega) (by omega) (by omega) (by omega)
  have k1 : 0 ≤ 40503 * k * k := Int.mul_nonneg (by omega) h0
  have k2 : 40503 * k * k ≤ 40503 * 2000000 * 2000000 := Int.mul_le_mul (by omega) h1 h0 (by omega)
  have c8 : CPowG (((z.fmod 2147483647 + 7919 * k + 104729) ^ 5).fmod 2147483629 * 48271 + 40503 * k * k + 13) 3 := ⟨by decide, by decide, by omega⟩
  refine ⟨_, ?_, Int.fmod_nonneg_of_pos ((((z.fmod 2147483647 + 7919 * k + 104729) ^ 5).fmod 2147483629 * 48271 + 40503 * k * k + 13) ^ 3) (by decide), Int.fmod_lt_of_pos _ (by decide)⟩
  simp only [m_law_mixed, mb_law_mixed, EE, eEqS, seqS, toS, R.lift, asSeq, asList, asTup, List.replicate, Nat.reduceAdd, Nat.reduceSub, Nat.reduceLeDiff, Nat.reduceLT, Nat.reduceMul, Int.reduceToNat, Int.reduceEq, Int.reduceAdd, Int.reduceSub, Int.reduceNeg, reduceIte, Nat.reduceEqDiff, c1, c2, c3, c4, c5, c6, c7, c8, c9]
theorem loop_ok (A : Ad) {n seed : Int} {s : Dr} (hn : n ≤ 10 ^ 150) (k0 : 0 ≤ s.k) (k1 : s.k ≤ 1000000) : ∀ (m : Nat) (found reach : Int), 0 ≤ found → found < reach → n ≤ reach * 1000 ^ m →
    ∃ f' r' : Int, whileL (O A).S (mTest (O A) (mBin (O A) dLt (mVar (O A) 4) (mVar (O A) 1)))
    (mSeq (O A) (mAsg (O A) (mBin (O A) dAdd (mBin (O A) dMul (mVar (O A) 2) (mC (O A) (.int 1000000007))) (mCall (O A) 2 (m_law_mixed A) (mCons (O A) (mVar (O A) 3) (mCons (O A) (mBin (O A) dAdd (mDrI A.d A.a A.b 0 3) (mBin (O A) dMul (mC (O A) (.int 1009)) (mBin (O A) dMod (mVar (O A) 2) (mC (O A) (.int 97))))) (mNil (O A)))))) (fName 2))
    (mAsg (O A) (mBin (O A) dMul (mVar (O A) 4) (mC (O A) (.int 1000000007))) (fName 4))) (m + 1) [.sh (.ref A.d), .sh (.int n), .sh (.int found), .sh (.int seed), .sh (.int reach)] s = .nx [.sh (.ref A.d), .sh (.int n), .sh (.int f'), .sh (.int seed), .sh (.int r')] s := by
  intro m
  induction m with
  | zero =>
    intro found reach h0 h1 h2
    refine ⟨found, reach, ?_⟩
    have h3 : ¬ reach < n := by simpa using h2
    simp only [whileL, EE, eEqS, seqS, toS, R.lift, asSeq, asList, asTup, List.replicate, Nat.reduceAdd, Nat.reduceSub, Nat.reduceLeDiff, Nat.reduceLT, Nat.reduceMul, Int.reduceToNat, Int.reduceEq, Int.reduceAdd, Int.reduceSub, Int.reduceNeg, reduceIte, Nat.reduceEqDiff, h3]
  | succ m ih =>
    intro found reach h0 h1 h2
    by_cases h3 : reach < n
    · have g1 : 0 ≤ found.fmod 97 := Int.fmod_nonneg_of_pos found (by decide)
      have g2 : found.fmod 97 < 97 := Int.fmod_lt_of_pos found (by decide)
      obtain ⟨r, e, r0, r1⟩ := mixed_ok A seed (s.k + 1009 * found.fmod 97) s (by omega) (by omega)
      have c1 : CMulG found 1000000007 := mulG (by omega) (by omega) (by decide) (by decide)
      have c2 : CMulG 1009 (found.fmod 97) := mulG (by decide) (by decide) (by omega) (by omega)
      have c3 : CMulG reach 1000000007 := mulG (by omega) (by omega) (by decide) (by decide)
      have c4 : CModG found 97 := by unfold CModG; decide
      have hp : (0 : Int) ≤ 1000 ^ m := Int.le_of_lt (Int.pow_pos (by decide))
      have h4 : n ≤ reach * 1000000007 * 1000 ^ m := by
        refine Int.le_trans h2 ?_
        rw [Int.pow_succ, Int.mul_comm (1000 ^ m) 1000, ← Int.mul_assoc]
        exact Int.mul_le_mul_of_nonneg_right (by omega) hp
      obtain ⟨f', r', e2⟩ := ih (found * 1000000007 + r) (reach * 1000000007) (by omega) (by omega) h4
      refine ⟨f', r', ?_⟩
      rw [← e2]
      rw [whileL]
      simp only [EE, eEqS, seqS, toS, R.lift, asSeq, asList, asTup, List.replicate, Nat.reduceAdd, Nat.reduceSub, Nat.reduceLeDiff, Nat.reduceLT, Nat.reduceMul, Int.reduceToNat, Int.reduceEq, Int.reduceAdd, Int.reduceSub, Int.reduceNeg, reduceIte, Nat.reduceEqDiff, h3, c1, c2, c3, c4, e]
    · refine ⟨found, reach, ?_⟩
      simp only [whileL, EE, eEqS, seqS, toS, R.lift, asSeq, asList, asTup, List.replicate, Nat.reduceAdd, Nat.reduceSub, Nat.reduceLeDiff, Nat.reduceLT, Nat.reduceMul, Int.reduceToNat, Int.reduceEq, Int.reduceAdd, Int.reduceSub, Int.reduceNeg, reduceIte, Nat.reduceEqDiff, h3]
theorem take_ok (A : Ad) {b n : Int} {s : Dr} (h : OkQ qst b s) (hb : b < 1000000) (h1 : 1 ≤ n) (h2 : n ≤ 10 ^ 150) : ∃ r s', m_law_take A [.ref A.d, .int n] s = .ok (.int r) s' ∧ 0 ≤ r ∧ r < n ∧ OkQ qst (b + 1) s' := by
  obtain ⟨xs, n0, zs, k, st⟩ := s
  obtain ⟨hx, hn, hk, hkb, hst⟩ := h
  dsimp only at hx hn hk hkb hst
  have m0 : n ≠ 0 := by omega
  have m1 : ∀ x : Int, CModG x n := fun x => m0
  have m2 : ∀ x : Int, CDivG x n := fun x => divG m0 (by omega) (by omega)
  have ret : ∀ (x : Int) (ys : List Int), 0 < x → (∀ y ∈ ys, 0 < y) → 0 ≤ x.fmod n ∧ x.fmod n < n ∧ OkQ qst (b + 1) ⟨ys, x.fdiv n, zs, k + 1, st⟩ := fun x ys hx hy =>
    ⟨Int.fmod_nonneg_of_pos x (by omega), Int.fmod_lt_of_pos x (by omega), hy, Int.fdiv_nonneg (by omega) (by omega), by show 0 ≤ k + 1; omega, by show k + 1 ≤ b + 1; omega, hst⟩
  by_cases hz : n0 = 0
  · subst hz
    cases xs with
    | cons x xs =>
      have x0 : 0 < x := hx x List.mem_cons_self
      refine ⟨_, _, ?_, ret x xs x0 fun y hy => hx y (List.mem_cons_of_mem _ hy)⟩
      simp only [m_law_take, mb_law_take, EE, eEqS, seqS, toS, R.lift, asSeq, asList, asTup, List.replicate, Nat.reduceAdd, Nat.reduceSub, Nat.reduceLeDiff, Nat.reduceLT, Nat.reduceMul, Int.reduceToNat, Int.reduceEq, Int.reduceAdd, Int.reduceSub, Int.reduceNeg, reduceIte, Nat.reduceEqDiff, Option.map_some, m1, m2, List.isEmpty_cons, x0]
    | nil =>
      have ok : OkQ qst (b + 1) ⟨[], 0, zs, k + 1, st⟩ := ⟨hx, Int.le_refl _, by show 0 ≤ k + 1; omega, by show k + 1 ≤ b + 1; omega, hst⟩
      have fin : ∀ f : Int, 0 ≤ f.fmod n ∧ f.fmod n < n := fun f => ⟨Int.fmod_nonneg_of_pos f (by omega), Int.fmod_lt_of_pos f (by omega)⟩
      have lp : ∀ seed : Int, _ := fun seed => loop_ok A (n := n) (seed := seed) (s := ⟨[], 0, zs, k + 1, st⟩) h2 (by show 0 ≤ k + 1; omega) (by show k + 1 ≤ 1000000; omega) 99 0 1 (by decide) (by decide) (by
        refine Int.le_trans h2 ?_
        decide +kernel)
      cases zs with
      | nil =>
        obtain ⟨f', r', e⟩ := lp 17
        refine ⟨f'.fmod n, _, ?_, (fin f').1, (fin f').2, ok⟩
        simp only [m_law_take, mb_law_take, mWhile, EE, eEqS, seqS, toS, R.lift, asSeq, asList, asTup, List.replicate, Nat.reduceAdd, Nat.reduceSub, Nat.reduceLeDiff, Nat.reduceLT, Nat.reduceMul, Int.reduceToNat, Int.reduceEq, Int.reduceAdd, Int.reduceSub, Int.reduceNeg, reduceIte, Nat.reduceEqDiff, Option.map_some, m1, m2, List.isEmpty_nil, Int.lt_irrefl]
        rw [e]
        simp only [EE, eEqS, seqS, toS, R.lift, asSeq, asList, asTup, List.replicate, Nat.reduceAdd, Nat.reduceSub, Nat.reduceLeDiff, Nat.reduceLT, Nat.reduceMul, Int.reduceToNat, Int.reduceEq, Int.reduceAdd, Int.reduceSub, Int.reduceNeg, reduceIte, Nat.reduceEqDiff, m1]
      | cons z zs =>
        have l0 : ((zs.length + 1 : Nat) : Int) ≠ 0 := by omega
        have l1 : CModG (k + 1) ((zs.length + 1 : Nat) : Int) := l0
        obtain ⟨y, ey, _⟩ := atI_ok (xs := z :: zs) (i := (k + 1).fmod ((zs.length + 1 : Nat) : Int)) (Int.fmod_nonneg_of_pos _ (by omega)) (by rw [List.length_cons]; exact Int.fmod_lt_of_pos _ (by omega))
        obtain ⟨f', r', e⟩ := lp y
        refine ⟨f'.fmod n, _, ?_, (fin f').1, (fin f').2, ok⟩
        simp only [m_law_take, mb_law_take, mWhile, EE, eEqS, seqS, toS, R.lift, asSeq, asList, asTup, List.replicate, Nat.reduceAdd, Nat.reduceSub, Nat.reduceLeDiff, Nat.reduceLT, Nat.reduceMul, Int.reduceToNat, Int.reduceEq, Int.reduceAdd, Int.reduceSub, Int.reduceNeg, reduceIte, Nat.reduceEqDiff, Option.map_some, m1, m2, List.isEmpty_cons, List.isEmpty_nil, Int.lt_irrefl, l1, ey]
        rw [e]
        simp only [EE, eEqS, seqS, toS, R.lift, asSeq, asList, asTup, List.replicate, Nat.reduceAdd, Nat.reduceSub, Nat.reduceLeDiff, Nat.reduceLT, Nat.reduceMul, Int.reduceToNat, Int.reduceEq, Int.reduceAdd, Int.reduceSub, Int.reduceNeg, reduceIte, Nat.reduceEqDiff, m1]
  · have x0 : 0 < n0 := by omega
    have hz' : decide (n0 = 0) = false := decide_eq_false hz
    refine ⟨_, _, ?_, ret n0 xs x0 hx⟩
    simp only [m_law_take, mb_law_take, EE, eEqS, seqS, toS, R.lift, asSeq, asList, asTup, List.replicate, Nat.reduceAdd, Nat.reduceSub, Nat.reduceLeDiff, Nat.reduceLT, Nat.reduceMul, Int.reduceToNat, Int.reduceEq, Int.reduceAdd, Int.reduceSub, Int.reduceNeg, reduceIte, Nat.reduceEqDiff, Option.map_some, m1, m2, hz', x0]
theorem at0 {α : Type} (a : α) (r : List α) : atI (a :: r) 0 = some a := by
  unfold atI ixN
  rw [if_pos (by decide), if_pos (by simp)]
  rfl
theorem at1 {α : Type} (a b : α) (r : List α) : atI (a :: b :: r) 1 = some b := by
  unfold atI ixN
  rw [if_pos (by decide), if_pos (by simp; omega)]
  rfl
theorem number_ok (A : Ad) {b : Int} {s : Dr} (h : OkQ qst b s) (hb : b + 3 ≤ 1000000) : ∃ r s', m_law_number A [.ref A.d] s = .ok (.int r) s' ∧ -(10 ^ 40) < r ∧ r < 10 ^ 40 ∧ OkQ qst (b + 3) s' := by
  obtain ⟨w, s1, e1, w0, w1, k1⟩ := take_ok A (n := 8) h (by omega) (by decide) (by decide)
  by_cases hw : w < 6
  · obtain ⟨r, s2, e2, r0, r1, k2⟩ := take_ok A (n := 12) k1 (by omega) (by decide) (by decide)
    refine ⟨r - 3, s2, ?_, by omega, by omega, k2.mono (by omega)⟩
    simp only [m_law_number, mb_law_number, EE, eEqS, seqS, toS, R.lift, asSeq, asList, asTup, List.replicate, Nat.reduceAdd, Nat.reduceSub, Nat.reduceLeDiff, Nat.reduceLT, Nat.reduceMul, Int.reduceToNat, Int.reduceEq, Int.reduceAdd, Int.reduceSub, Int.reduceNeg, reduceIte, Nat.reduceEqDiff, e1, e2, hw]
  · have c6 : CPowG 10 6 := by decide
    have c40 : CPowG 10 40 := by decide
    have hw6 : w = 6 ∨ w = 7 := by omega
    have fin : ∀ (n : Int) (s1 : Dr), OkQ qst (b + 1) s1 → 1 ≤ n → n ≤ 10 ^ 40 → ∃ (g : Int) (s2 : Dr) (t : Int) (s3 : Dr), m_law_take A [.ref A.d, .int n] s1 = .ok (.int g) s2 ∧ m_law_take A [.ref A.d, .int 2] s2 = .ok (.int t) s3 ∧ -(10 ^ 40) < g ∧ g < 10 ^ 40 ∧ (t = 0 ∨ t = 1) ∧ OkQ qst (b + 3) s3 := by
      intro n s1 k1 n1 n2
      obtain ⟨g, s2, e2, g0, g1, k2⟩ := take_ok A (n := n) k1 (by omega) n1 (by omega)
      obtain ⟨t, s3, e3, t0, t1, k3⟩ := take_ok A (n := 2) k2 (by omega) (by decide) (by decide)
      exact ⟨g, s2, t, s3, e2, e3, by omega, by omega, by omega, k3.mono (by omega)⟩
    rcases hw6 with rfl | rfl
    · obtain ⟨g, s2, t, s3, e2, e3, g0, g1, ht, k3⟩ := fin (10 ^ 6) s1 k1 (by decide) (by decide)
      rcases ht with rfl | rfl
      · refine ⟨g, s3, ?_, g0, g1, k3⟩
        simp only [m_law_number, mb_law_number, EE, eEqS, seqS, toS, R.lift, asSeq, asList, asTup, List.replicate, Nat.reduceAdd, Nat.reduceSub, Nat.reduceLeDiff, Nat.reduceLT, Nat.reduceMul, Int.reduceToNat, Int.reduceEq, Int.reduceAdd, Int.reduceSub, Int.reduceNeg, reduceIte, Nat.reduceEqDiff, e1, e2, e3, hw, c6, c40, at0, at1]
      · refine ⟨0 - g, s3, ?_, by omega, by omega, k3⟩
        simp only [m_law_number, mb_law_number, EE, eEqS, seqS, toS, R.lift, asSeq, asList, asTup, List.replicate, Nat.reduceAdd, Nat.reduceSub, Nat.reduceLeDiff, Nat.reduceLT, Nat.reduceMul, Int.reduceToNat, Int.reduceEq, Int.reduceAdd, Int.reduceSub, Int.reduceNeg, reduceIte, Nat.reduceEqDiff, e1, e2, e3, hw, c6, c40, at0, at1]
    · obtain ⟨g, s2, t, s3, e2, e3, g0, g1, ht, k3⟩ := fin (10 ^ 40) s1 k1 (by decide) (by decide)
      rcases ht with rfl | rfl
      · refine ⟨g, s3, ?_, g0, g1, k3⟩
        simp only [m_law_number, mb_law_number, EE, eEqS, seqS, toS, R.lift, asSeq, asList, asTup, List.replicate, Nat.reduceAdd, Nat.reduceSub, Nat.reduceLeDiff, Nat.reduceLT, Nat.reduceMul, Int.reduceToNat, Int.reduceEq, Int.reduceAdd, Int.reduceSub, Int.reduceNeg, reduceIte, Nat.reduceEqDiff, e1, e2, e3, hw, c6, c40, at0, at1]
      · refine ⟨0 - g, s3, ?_, by omega, by omega, k3⟩
        simp only [m_law_number, mb_law_number, EE, eEqS, seqS, toS, R.lift, asSeq, asList, asTup, List.replicate, Nat.reduceAdd, Nat.reduceSub, Nat.reduceLeDiff, Nat.reduceLT, Nat.reduceMul, Int.reduceToNat, Int.reduceEq, Int.reduceAdd, Int.reduceSub, Int.reduceNeg, reduceIte, Nat.reduceEqDiff, e1, e2, e3, hw, c6, c40, at0, at1]
end S
namespace S
open PySem PySem.Spec PyProof.Rows L2 RZ Mr
variable {qst : List Ob}
theorem forL_ok {O : Wo} {f : D → Ev → Option Ev} {mb : MS O} (N : Nat) (I : Nat → Ev → O.S → Prop) (Pd : D → Prop) (st : ∀ i d ρ s, i < N → Pd d → I i ρ s → ∃ ρ1 ρ2 s2, f d ρ = some ρ1 ∧ mb ρ1 s = .nx ρ2 s2 ∧ I (i + 1) ρ2 s2) :
    ∀ (ds : List D) (i : Nat) (ρ : Ev) (s : O.S), i + ds.length ≤ N → (∀ d ∈ ds, Pd d) → I i ρ s → ∃ ρ' s', forL O.S f mb ds ρ s = .nx ρ' s' ∧ I (i + ds.length) ρ' s'
  | [], i, ρ, s, _, _, h => ⟨ρ, s, by simp only [forL], h⟩
  | d :: ds, i, ρ, s, hl, hp, h => by
    rw [List.length_cons] at hl
    obtain ⟨ρ1, ρ2, s2, e1, e2, h2⟩ := st i d ρ s (by omega) (hp d List.mem_cons_self) h
    obtain ⟨ρ', s', e3, h3⟩ := forL_ok N I Pd st ds (i + 1) ρ2 s2 (by omega) (fun x hx => hp x (List.mem_cons_of_mem _ hx)) h2
    refine ⟨ρ', s', ?_, ?_⟩
    · simp only [forL, e1, e2, e3]
    · have : i + (d :: ds).length = i + 1 + ds.length := by simp; omega
      rw [this]
      exact h3
/-- each item gives one, the source is left alone -/
theorem lcL_map {O : Wo} {f : D → Ev → Option Ev} {mt : MT O} {me : ME O} {ρ : Ev} {s : O.S} (g : D → D) : ∀ (ds acc : List D), (∀ d ∈ ds, ∃ ρ1, f d ρ = some ρ1 ∧ mt ρ1 s = .ok true s ∧ me ρ1 s = .ok (g d) s) → acc.length + ds.length ≤ 100000 →
    lcL O.S f mt me ρ ds acc s = .ok (acc ++ ds.map g) s
  | [], acc, _, _ => by simp [lcL]
  | d :: ds, acc, h, hl => by
    rw [List.length_cons] at hl
    obtain ⟨ρ1, e1, e2, e3⟩ := h d List.mem_cons_self
    have e4 := lcL_map (O := O) (f := f) (mt := mt) (me := me) (ρ := ρ) (s := s) g ds (acc ++ [g d]) (fun x hx => h x (List.mem_cons_of_mem _ hx)) (by simp; omega)
    simp only [lcL, e1, e2, e3]
    rw [if_pos (by omega), e4]
    simp
/-- some items give one -/
theorem lcL_filter {O : Wo} {f : D → Ev → Option Ev} {mt : MT O} {me : ME O} {ρ : Ev} {s : O.S} (p : D → Bool) (g : D → D) : ∀ (ds acc : List D), (∀ d ∈ ds, ∃ ρ1, f d ρ = some ρ1 ∧ mt ρ1 s = .ok (p d) s ∧ (p d = true → me ρ1 s = .ok (g d) s)) → acc.length + ds.length ≤ 100000 →
    lcL O.S f mt me ρ ds acc s = .ok (acc ++ (ds.filter p).map g) s
  | [], acc, _, _ => by simp [lcL]
  | d :: ds, acc, h, hl => by
    rw [List.length_cons] at hl
    obtain ⟨ρ1, e1, e2, e3⟩ := h d List.mem_cons_self
    cases hp : p d with
    | true =>
      have e4 := lcL_filter (O := O) (f := f) (mt := mt) (me := me) (ρ := ρ) (s := s) p g ds (acc ++ [g d]) (fun x hx => h x (List.mem_cons_of_mem _ hx)) (by simp; omega)
      rw [hp] at e2
      simp only [lcL, e1, e2, e3 hp]
      rw [if_pos (by omega), e4, List.filter_cons_of_pos hp]
      simp
    | false =>
      have e4 := lcL_filter (O := O) (f := f) (mt := mt) (me := me) (ρ := ρ) (s := s) p g ds acc (fun x hx => h x (List.mem_cons_of_mem _ hx)) (by omega)
      rw [hp] at e2
      simp only [lcL, e1, e2]
      rw [e4, List.filter_cons_of_neg (by simp [hp])]
/-- draws in a comprehension: a bound on the source, a fact of each item -/
theorem lcL_draw {A : Ad} {f : D → Ev → Option Ev} {mt : MT (O A)} {me : ME (O A)} {ρ : Ev} (P : D → Prop) (c : Int) : ∀ (ds acc : List D) (b : Int) (s : Dr), (∀ (d : D) (b' : Int) (s' : Dr), d ∈ ds → OkQ qst b' s' → b' + c ≤ b + c * ds.length → ∃ ρ1 y s2, f d ρ = some ρ1 ∧ mt ρ1 s' = .ok true s' ∧ me ρ1 s' = .ok y s2 ∧ P y ∧ OkQ qst (b' + c) s2) →
    acc.length + ds.length ≤ 100000 → 0 ≤ c → OkQ qst b s → (∀ d ∈ acc, P d) → ∃ ys s', lcL (O A).S f mt me ρ ds acc s = .ok ys s' ∧ ys.length = acc.length + ds.length ∧ (∀ d ∈ ys, P d) ∧ OkQ qst (b + c * ds.length) s'
  | [], acc, b, s, _, _, _, ok, ha => ⟨acc, s, by simp [lcL], by simp, ha, ok.mono (by simp)⟩
  | d :: ds, acc, b, s, h, hl, hc, ok, ha => by
    rw [List.length_cons] at hl
    have hn : (0 : Int) ≤ c * (ds.length : Int) := Int.mul_nonneg hc (by omega)
    have hm : c * ((d :: ds).length : Int) = c * (ds.length : Int) + c := by
      rw [List.length_cons, Int.natCast_add, Int.mul_add]; simp
    obtain ⟨ρ1, y, s2, e1, e2, e3, py, ok2⟩ := h d b s List.mem_cons_self ok (by rw [hm]; omega)
    obtain ⟨ys, s', e4, l4, p4, ok4⟩ := lcL_draw (A := A) (f := f) (mt := mt) (me := me) (ρ := ρ) P c ds (acc ++ [y]) (b + c) s2 (fun x b' s' hx k hb => h x b' s' (List.mem_cons_of_mem _ hx) k (by rw [hm]; omega)) (by simp; omega) hc ok2
      (fun x hx => by rcases List.mem_append.mp hx with q | q; exact ha x q; rw [List.mem_singleton] at q; rw [q]; exact py)
    refine ⟨ys, s', ?_, ?_, p4, ok4.mono (by rw [hm]; omega)⟩
    · simp only [lcL, e1, e2, e3]
      rw [if_pos (by omega), e4]
    · rw [l4]; simp; omega
def Nx {O : Wo} (P : Ev → O.S → Prop) (r : RS O.S) : Prop := ∃ ρ s, r = .nx ρ s ∧ P ρ s
theorem Nx.mono {O : Wo} {P Q : Ev → O.S → Prop} {r : RS O.S} (h : Nx P r) (f : ∀ ρ s, P ρ s → Q ρ s) : Nx Q r := by
  obtain ⟨ρ, s, e, p⟩ := h
  exact ⟨ρ, s, e, f ρ s p⟩
theorem nx_seq {O : Wo} {a b : MS O} {ρ : Ev} {s : O.S} {Q : Ev → O.S → Prop} (P : Ev → O.S → Prop) (h1 : Nx P (a ρ s)) (h2 : ∀ ρ' s', P ρ' s' → Nx Q (b ρ' s')) : Nx Q (mSeq O a b ρ s) := by
  obtain ⟨ρ', s', e, p⟩ := h1
  unfold mSeq seqS
  rw [e]
  exact h2 ρ' s' p
theorem nx_if {O : Wo} {c : MT O} {a b : MS O} {ρ : Ev} {s s1 : O.S} {k : Bool} {Q : Ev → O.S → Prop} (hc : c ρ s = .ok k s1) (h1 : k = true → Nx Q (a ρ s1)) (h2 : k = false → Nx Q (b ρ s1)) : Nx Q (mIfS O c a b ρ s) := by
  unfold mIfS
  rw [hc]
  simp only [toS]
  cases k with
  | true => rw [if_pos rfl]; exact h1 rfl
  | false => rw [if_neg (by decide)]; exact h2 rfl
theorem nx_next {O : Wo} {ρ : Ev} {s : O.S} {Q : Ev → O.S → Prop} (h : Q ρ s) : Nx Q (mNext O ρ s) := ⟨ρ, s, rfl, h⟩
theorem nx_of {O : Wo} {r : RS O.S} {ρ : Ev} {s : O.S} {Q : Ev → O.S → Prop} (e : r = .nx ρ s) (h : Q ρ s) : Nx Q r := ⟨ρ, s, e, h⟩
/-- a loop over n items, each of which runs through -/
theorem forL_nx {O : Wo} {f : D → Ev → Option Ev} {mb : MS O} (N : Nat) (I : Nat → Ev → O.S → Prop) (st : ∀ i d ρ s, i < N → I i ρ s → ∃ ρ1, f d ρ = some ρ1 ∧ Nx (I (i + 1)) (mb ρ1 s)) (ds : List D) (hl : ds.length = N) (ρ : Ev) (s : O.S) (h : I 0 ρ s) : Nx (I N) (forL O.S f mb ds ρ s) := by
  obtain ⟨ρ', s', e, h'⟩ := forL_ok (O := O) (f := f) (mb := mb) N I (fun _ => True) (fun i d ρ s hi _ q => by
    obtain ⟨ρ1, e1, ρ2, s2, e2, q2⟩ := st i d ρ s hi q
    exact ⟨ρ1, ρ2, s2, e1, e2, q2⟩) ds 0 ρ s (by omega) (fun _ _ => trivial) h
  exact ⟨ρ', s', e, by rw [Nat.zero_add, hl] at h'; exact h'⟩
theorem ints_of {Q : Int → Prop} : ∀ {ys : List D}, (∀ d ∈ ys, ∃ i : Int, d = .int i ∧ Q i) → ∃ xs : List Int, ys = xs.map D.int ∧ ∀ x ∈ xs, Q x
  | [], _ => ⟨[], rfl, fun x hx => absurd hx List.not_mem_nil⟩
  | y :: ys, h => by
    obtain ⟨i, rfl, hi⟩ := h y List.mem_cons_self
    obtain ⟨xs, rfl, hx⟩ := ints_of (ys := ys) fun d hd => h d (List.mem_cons_of_mem _ hd)
    exact ⟨i :: xs, rfl, fun x q => by rcases List.mem_cons.mp q with rfl | q; exact hi; exact hx x q⟩
theorem cut_take (xs : List D) (n : Nat) : cutD xs none (some (n : Int)) = xs.take n := by
  unfold Mr.cutD
  rw [HT.sIx_none, HT.sIx_nat]
  simp only [List.drop_zero, Nat.sub_zero]
  rw [List.take_eq_take_iff]
  omega
def pqD : Nat → D → Bool
  | _, .non => true
  | _, .int _ => true
  | _, .str x => PyData.strOk x
  | n + 1, .lst xs => xs.all (pqD n)
  | n + 1, .tup xs => xs.all (pqD n)
  | _, _ => false
theorem toPs_pq {n : Nat} (ih : ∀ d, pqD n d = true → ∃ p, toP d = some p ∧ p.canLay0 = true ∧ p.depth ≤ n) : ∀ xs : List D, xs.all (pqD n) = true → ∃ ps, toPs xs = some ps ∧ PyData.canLayAll0 ps = true ∧ PyData.depthAll ps ≤ n
  | [], _ => ⟨[], by simp only [toPs], by simp only [PyData.canLayAll0], by simp [PyData.depthAll]⟩
  | x :: xs, h => by
    rw [List.all_cons, Bool.and_eq_true] at h
    obtain ⟨p, e1, c1, d1⟩ := ih x h.1
    obtain ⟨ps, e2, c2, d2⟩ := toPs_pq ih xs h.2
    refine ⟨p :: ps, by simp only [toPs, e1, e2], by simp only [PyData.canLayAll0, c1, c2, Bool.and_self], ?_⟩
    simp only [PyData.depthAll]
    omega
theorem toP_pq : ∀ (n : Nat) (d : D), pqD n d = true → ∃ p, toP d = some p ∧ p.canLay0 = true ∧ p.depth ≤ n
  | n, .non, _ => ⟨.none, by simp only [toP], by simp only [PyData.canLay0], by simp [PyData.depth]⟩
  | n, .int i, _ => ⟨.int i, by simp only [toP], by simp only [PyData.canLay0], by simp [PyData.depth]⟩
  | n, .str x, h => ⟨.str x, by simp only [toP], by simp only [PyData.canLay0]; cases n <;> simpa only [pqD] using h, by simp [PyData.depth]⟩
  | n + 1, .lst xs, h => by
    simp only [pqD] at h
    obtain ⟨ps, e, c, d⟩ := toPs_pq (toP_pq n) xs h
    exact ⟨.list ps, by simp only [toP, e, Option.map_some], by simp only [PyData.canLay0, c], by simp only [PyData.depth]; omega⟩
  | n + 1, .tup xs, h => by
    simp only [pqD] at h
    obtain ⟨ps, e, c, d⟩ := toPs_pq (toP_pq n) xs h
    exact ⟨.tuple ps, by simp only [toP, e, Option.map_some], by simp only [PyData.canLay0, c], by simp only [PyData.depth]; omega⟩
  | 0, .lst xs, h => by simp [pqD] at h
  | 0, .tup xs, h => by simp [pqD] at h
  | n, .bl b, h => by cases n <;> simp [pqD] at h
  | n, .ref b, h => by cases n <;> simp [pqD] at h
  | n, .ty b, h => by cases n <;> simp [pqD] at h
  | n, .ins b c, h => by cases n <;> simp [pqD] at h
  | n, .dct b, h => by cases n <;> simp [pqD] at h
  | n, .obj b, h => by cases n <;> simp [pqD] at h
theorem eqvAll_pq {n m : Nat} (ih : ∀ a b p q, pqD n a = true → pqD m b = true → toP a = some p → toP b = some q → (PyData.eqv p q = true ↔ a = b)) :
    ∀ (xs ys : List D) (ps qs : List PyData), xs.all (pqD n) = true → ys.all (pqD m) = true → toPs xs = some ps → toPs ys = some qs → (PyData.eqvAll ps qs = true ↔ xs = ys)
  | [], [], ps, qs, _, _, e1, e2 => by simp only [toPs, Option.some.injEq] at e1 e2; subst e1 e2; simp [PyData.eqvAll]
  | [], y :: ys, ps, qs, h1, h2, e1, e2 => by
    rw [List.all_cons, Bool.and_eq_true] at h2
    obtain ⟨p, f1, _, _⟩ := toP_pq m y h2.1
    obtain ⟨pp, f2, _, _⟩ := toPs_pq (toP_pq m) ys h2.2
    simp only [toPs, f1, f2, Option.some.injEq] at e1 e2
    subst e1 e2
    simp [PyData.eqvAll]
  | x :: xs, [], ps, qs, h1, h2, e1, e2 => by
    rw [List.all_cons, Bool.and_eq_true] at h1
    obtain ⟨p, f1, _, _⟩ := toP_pq n x h1.1
    obtain ⟨pp, f2, _, _⟩ := toPs_pq (toP_pq n) xs h1.2
    simp only [toPs, f1, f2, Option.some.injEq] at e1 e2
    subst e1 e2
    simp [PyData.eqvAll]
  | x :: xs, y :: ys, ps, qs, h1, h2, e1, e2 => by
    rw [List.all_cons, Bool.and_eq_true] at h1 h2
    obtain ⟨p, f1, _, _⟩ := toP_pq n x h1.1
    obtain ⟨pp, f2, _, _⟩ := toPs_pq (toP_pq n) xs h1.2
    obtain ⟨q, g1, _, _⟩ := toP_pq m y h2.1
    obtain ⟨qq, g2, _, _⟩ := toPs_pq (toP_pq m) ys h2.2
    simp only [toPs, f1, f2, g1, g2, Option.some.injEq] at e1 e2
    subst e1 e2
    have i1 := ih x y p q h1.1 h2.1 f1 g1
    have i2 := eqvAll_pq ih xs ys pp qq h1.2 h2.2 f2 g2
    simp only [PyData.eqvAll, Bool.and_eq_true, i1, i2, List.cons.injEq]
theorem eqv_pq : ∀ (n m : Nat) (a b : D) (p q : PyData), pqD n a = true → pqD m b = true → toP a = some p → toP b = some q → (PyData.eqv p q = true ↔ a = b) := by
  intro n
  induction n with
  | zero =>
    intro m a b p q h1 h2 e1 e2
    cases a <;> first | (simp [pqD] at h1; done) | skip
    all_goals (cases b <;> first | (cases m <;> simp [pqD] at h2; done) | skip)
    all_goals first | (simp only [toP, Option.some.injEq] at e1 e2; subst e1 e2; simp [PyData.eqv]; done) | skip
    all_goals (simp only [toP, Option.some.injEq, Option.map_eq_some_iff] at e1 e2; subst e1; obtain ⟨ps, _, rfl⟩ := e2; simp [PyData.eqv])
  | succ n ih =>
    intro m a b p q h1 h2 e1 e2
    cases a <;> first | (simp [pqD] at h1; done) | skip
    all_goals (cases b <;> first | (cases m <;> simp [pqD] at h2; done) | skip)
    all_goals first | (simp only [toP, Option.some.injEq] at e1 e2; subst e1 e2; simp [PyData.eqv]; done) | skip
    all_goals first | (simp only [toP, Option.some.injEq, Option.map_eq_some_iff] at e1 e2; subst e1; obtain ⟨ps, _, rfl⟩ := e2; simp [PyData.eqv]; done) | skip
    all_goals first | (simp only [toP, Option.some.injEq, Option.map_eq_some_iff] at e1 e2; subst e2; obtain ⟨ps, _, rfl⟩ := e1; simp [PyData.eqv]; done) | skip
    all_goals (simp only [toP, Option.map_eq_some_iff] at e1 e2; obtain ⟨ps, e1, rfl⟩ := e1; obtain ⟨qs, e2, rfl⟩ := e2)
    all_goals first | (simp only [PyData.eqv]; simp; done) | skip
    all_goals (cases m with
      | zero => simp [pqD] at h2
      | succ m =>
        simp only [pqD] at h1 h2
        have := eqvAll_pq (n := n) (m := m) (fun a b p q => ih m a b p q) _ _ ps qs h1 h2 e1 e2
        simp only [PyData.eqv, this, D.lst.injEq, D.tup.injEq])
theorem eq_pq {n m : Nat} {a b : D} (ha : pqD n a = true) (hb : pqD m b = true) (hn : n ≤ 60) (hm : m ≤ 60) : ∃ r, dEqB a b = some r ∧ (r = true ↔ a = b) := by
  obtain ⟨p, e1, c1, d1⟩ := toP_pq n a ha
  obtain ⟨q, e2, c2, d2⟩ := toP_pq m b hb
  have key := eqv_pq n m a b p q ha hb e1 e2
  have s1 : SeqAt.shaped p = true := by unfold SeqAt.shaped; rw [c1, Bool.true_and]; exact decide_eq_true (by omega)
  have s2 : SeqAt.shaped q = true := by unfold SeqAt.shaped; rw [c2, Bool.true_and]; exact decide_eq_true (by omega)
  unfold dEqB
  split <;> first | exact ⟨_, rfl, by simp⟩ | skip
  rw [e1, e2]
  dsimp only
  rw [if_pos ⟨s1, s2⟩]
  exact ⟨_, rfl, key⟩
theorem pq_ints {n : Nat} (xs : List Int) : (xs.map D.int).all (pqD n) = true := by
  rw [List.all_eq_true]
  intro d hd
  rw [List.mem_map] at hd
  obtain ⟨i, _, rfl⟩ := hd
  cases n <;> rfl
theorem pq_lst {n : Nat} (xs : List Int) : pqD (n + 1) (.lst (xs.map D.int)) = true := by simp only [pqD]; exact pq_ints xs
end S
namespace S
open PySem PySem.Spec PyProof.Rows L2 RZ Mr
theorem forLS_eq {S : Type} {st : S → List Ob} {c : List Ob → Prop} {f : D → Ev → Option Ev} {mb : Ev → S → RS S} (hc : ∀ l, c l) : ∀ (ds : List D) (ρ : Ev) (s : S), forLS S st c f mb ds ρ s = forL S f mb ds ρ s
  | [], ρ, s => by unfold forLS forL; rw [if_pos (hc _)]
  | d :: ds, ρ, s => by
    unfold forLS forL
    rw [if_pos (hc _)]
    cases f d ρ with
    | none => rfl
    | some ρ1 =>
      dsimp only
      cases mb ρ1 s <;> first | rfl | exact forLS_eq hc ds _ _
theorem lcLS_eq {S : Type} {st : S → List Ob} {c : List Ob → Prop} {f : D → Ev → Option Ev} {mt : Ev → S → R S Bool} {me : Ev → S → R S D} {ρ : Ev} (hc : ∀ l, c l) : ∀ (ds acc : List D) (s : S), lcLS S st c f mt me ρ ds acc s = lcL S f mt me ρ ds acc s
  | [], acc, s => by unfold lcLS lcL; rw [if_pos (hc _)]
  | d :: ds, acc, s => by
    unfold lcLS lcL
    rw [if_pos (hc _)]
    cases f d ρ with
    | none => rfl
    | some ρ1 =>
      dsimp only
      cases mt ρ1 s with
      | ok b s1 =>
        cases b with
        | false => exact lcLS_eq hc ds acc s1
        | true =>
          dsimp only
          cases me ρ1 s1 with
          | ok y s2 =>
            dsimp only
            split
            · exact lcLS_eq hc ds _ s2
            · rfl
          | err c fs s1 => rfl
          | bad => rfl
      | err c fs s1 => rfl
      | bad => rfl
theorem thawL_pq {l : List Ob} {m : Nat} : ∀ {xs : List D}, (∀ x ∈ xs, thawN (m + 1) l x = some x) → thawL (m + 1) l xs = some xs
  | [], _ => by simp only [thawL]
  | x :: xs, h => by simp only [thawL, h x List.mem_cons_self, thawL_pq (xs := xs) fun y hy => h y (List.mem_cons_of_mem _ hy), Option.bind_some, Option.map_some]
theorem thawN_pq {l : List Ob} : ∀ (n m : Nat) (d : D), pqD n d = true → n + 1 < m → thawN m l d = some d
  | n, 0, d, h, hm => by omega
  | n, m + 1, .non, h, hm => by simp only [thawN]
  | n, m + 1, .int i, h, hm => by simp only [thawN]
  | n, m + 1, .str i, h, hm => by simp only [thawN]
  | n + 1, m + 1, .lst xs, h, hm => by
    simp only [pqD, List.all_eq_true] at h
    obtain ⟨m, rfl⟩ : ∃ k, m = k + 1 := ⟨m - 1, by omega⟩
    simp only [thawN, thawL_pq fun x hx => thawN_pq n (m + 1) x (h x hx) (by omega), Option.map_some]
  | n + 1, m + 1, .tup xs, h, hm => by
    simp only [pqD, List.all_eq_true] at h
    obtain ⟨m, rfl⟩ : ∃ k, m = k + 1 := ⟨m - 1, by omega⟩
    simp only [thawN, thawL_pq fun x hx => thawN_pq n (m + 1) x (h x hx) (by omega), Option.map_some]
  | 0, m + 1, .lst xs, h, hm => by simp [pqD] at h
  | 0, m + 1, .tup xs, h, hm => by simp [pqD] at h
  | n, m + 1, .bl b, h, hm => by cases n <;> simp [pqD] at h
  | n, m + 1, .ref b, h, hm => by cases n <;> simp [pqD] at h
  | n, m + 1, .ty b, h, hm => by cases n <;> simp [pqD] at h
  | n, m + 1, .ins b c, h, hm => by cases n <;> simp [pqD] at h
  | n, m + 1, .dct b, h, hm => by cases n <;> simp [pqD] at h
  | n, m + 1, .obj b, h, hm => by cases n <;> simp [pqD] at h
theorem thaw_pq {l : List Ob} {n : Nat} {d : D} (h : pqD n d = true) (hn : n ≤ 20) : thaw l d = some d := thawN_pq n 24 d h (by omega)
theorem liftO_pq {f : D → D → Option D} {l : List Ob} {n m : Nat} {a b : D} (ha : pqD n a = true) (hb : pqD m b = true) (hn : n ≤ 20) (hm : m ≤ 20) : liftO f l a b = (f a b).bind scalS := by
  simp only [liftO, thaw_pq ha hn, thaw_pq hb hm, Option.bind_some]
theorem liftEq_pq {l : List Ob} {n m : Nat} {a b : D} (ha : pqD n a = true) (hb : pqD m b = true) (hn : n ≤ 20) (hm : m ≤ 20) : ∃ r, liftO dEq l a b = some (.bl r) ∧ liftO dNe l a b = some (.bl (!r)) ∧ (r = true ↔ a = b) := by
  obtain ⟨r, e, q⟩ := eq_pq ha hb (by omega) (by omega)
  refine ⟨r, ?_, ?_, q⟩ <;> rw [liftO_pq ha hb hn hm]
  · simp only [dEq, e, Option.map_some, Option.bind_some, scalS]
  · simp only [dNe, e, Option.map_some, Option.bind_some, scalS]
def IntKs {β : Type} (kvs : List (Key × β)) (P : β → Prop) : Prop := ∀ p ∈ kvs, (∃ k : Int, p.1 = .inl k) ∧ P p.2
theorem putP_mem {β : Type} {kvs : List (Key × β)} {k : Key} {v : β} {p : Key × β} (h : p ∈ putP kvs k v) : p = (k, v) ∨ p ∈ kvs := by
  unfold putP at h
  split at h
  · obtain ⟨q, hq, e⟩ := List.mem_map.mp h
    split at e
    · rename_i ek
      exact .inl (by rw [← e, ek])
    · exact .inr (e ▸ hq)
  · rcases List.mem_append.mp h with h | h
    · exact .inr h
    · exact .inl (List.mem_singleton.mp h)
theorem putP_len {β : Type} (kvs : List (Key × β)) (k : Key) (v : β) : (putP kvs k v).length ≤ kvs.length + 1 := by
  unfold putP
  split
  · rw [List.length_map]; omega
  · simp
theorem IntKs.put {β : Type} {kvs : List (Key × β)} {P : β → Prop} {k : Int} {v : β} (h : IntKs kvs P) (hv : P v) : IntKs (putP kvs (.inl k) v) P := by
  intro p hp
  rcases putP_mem hp with rfl | hp
  · exact ⟨⟨k, rfl⟩, hv⟩
  · exact h p hp
end S
namespace S
open PySem PySem.Spec PyProof.Rows L2 RZ Mr
def Oc {S : Type} (P : Ev → S → Prop) (Q : D → S → Prop) (r : RS S) : Prop := match r with
  | .nx ρ s => P ρ s
  | .rt d s => Q d s
  | _ => False
theorem Oc.mono {S : Type} {P P' : Ev → S → Prop} {Q Q' : D → S → Prop} {r : RS S} (h : Oc P Q r) (f : ∀ ρ s, P ρ s → P' ρ s) (g : ∀ d s, Q d s → Q' d s) : Oc P' Q' r := by
  cases r <;> first | exact f _ _ h | exact g _ _ h | exact h
theorem nx_forS {O : Wo} {mi : MJ O} {f : D → Ev → Option Ev} {mb : MS O} {ρ : Ev} {s s1 : O.S} {ds : List D} {c : List Ob → Prop} {P : Ev → O.S → Prop} (hi : mi ρ s = .ok (ds, c) s1) (h : Nx P (forLS O.S O.st c f mb ds ρ s1)) : Nx P (mForS O mi f mb ρ s) := by
  obtain ⟨ρ', s', e, p⟩ := h
  refine ⟨ρ', s', ?_, p⟩
  unfold mForS
  rw [hi]
  simp only [toS]
  exact e
/-- a comprehension over things of a kind, told by plain values -/
theorem lcLS_fm' {S α : Type} {st : S → List Ob} {c : List Ob → Prop} {f : D → Ev → Option Ev} {mt : Ev → S → R S Bool} {me : Ev → S → R S D} {ρ : Ev} {s : S} (t : α → D) (p : α → Bool) (g : α → D) (hc : c (st s)) : ∀ (xs : List α) (acc : List D),
    (∀ x ∈ xs, ∃ ρ1, f (t x) ρ = some ρ1 ∧ mt ρ1 s = .ok (p x) s ∧ (p x = true → me ρ1 s = .ok (g x) s)) → acc.length + xs.length ≤ 100000 → lcLS S st c f mt me ρ (xs.map t) acc s = .ok (acc ++ (xs.filter p).map g) s
  | [], acc, _, _ => by rw [List.map_nil]; unfold lcLS; rw [if_pos hc]; simp
  | d :: ds, acc, h, hl => by
    rw [List.length_cons] at hl
    obtain ⟨ρ1, e1, e2, e3⟩ := h d List.mem_cons_self
    rw [List.map_cons]
    unfold lcLS
    rw [if_pos hc, e1]
    dsimp only
    rw [e2]
    cases hp : p d with
    | true =>
      dsimp only
      rw [e3 hp]
      dsimp only
      rw [if_pos (by omega), lcLS_fm' t p g hc ds (acc ++ [g d]) (fun x hx => h x (List.mem_cons_of_mem _ hx)) (by simp; omega), List.filter_cons_of_pos hp]
      simp
    | false =>
      dsimp only
      rw [lcLS_fm' t p g hc ds acc (fun x hx => h x (List.mem_cons_of_mem _ hx)) (by omega), List.filter_cons_of_neg (by simp [hp])]
theorem mLcS_fm {O : Wo} {α : Type} {mi : MJ O} {f : D → Ev → Option Ev} {mt : MT O} {me : ME O} {vs : List Nat} {ρ : Ev} {s s1 : O.S} {c : List Ob → Prop} (t : α → D) (p : α → Bool) (g : α → D) (xs : List α) (hi : mi ρ s = .ok (xs.map t, c) s1) (hc : c (O.st s1))
    (h : ∀ x ∈ xs, ∃ ρ1, f (t x) (wipeE ρ vs) = some ρ1 ∧ mt ρ1 s1 = .ok (p x) s1 ∧ (p x = true → me ρ1 s1 = .ok (g x) s1)) (hl : xs.length ≤ 100000) : mLcS O mi f mt me vs ρ s = .ok ((xs.filter p).map g) s1 := by
  unfold mLcS
  rw [hi]
  simp only [bind_ok]
  have := lcLS_fm' (st := O.st) (c := c) (f := f) (mt := mt) (me := me) (ρ := wipeE ρ vs) (s := s1) t p g hc xs [] h (by simpa using hl)
  rw [this, List.nil_append]
theorem mLcS_map {O : Wo} {α : Type} {mi : MJ O} {f : D → Ev → Option Ev} {me : ME O} {vs : List Nat} {ρ : Ev} {s s1 : O.S} {c : List Ob → Prop} (t : α → D) (g : α → D) (xs : List α) (hi : mi ρ s = .ok (xs.map t, c) s1) (hc : c (O.st s1))
    (h : ∀ x ∈ xs, ∃ ρ1, f (t x) (wipeE ρ vs) = some ρ1 ∧ me ρ1 s1 = .ok (g x) s1) (hl : xs.length ≤ 100000) : mLcS O mi f (mYes O) me vs ρ s = .ok (xs.map g) s1 := by
  rw [mLcS_fm t (fun _ => true) g xs hi hc (fun x hx => by
    obtain ⟨ρ1, e1, e2⟩ := h x hx
    exact ⟨ρ1, e1, rfl, fun _ => e2⟩) hl]
  congr 2
  simp
/-- all of a list of truths -/
theorem toBools_blm (bs : List Bool) : toBools (bs.map D.bl) = some bs := by
  induction bs with
  | nil => rfl
  | cons b bs ih => rw [List.map_cons]; simp only [toBools, ih]; rfl
theorem dAll_map {α : Type} (xs : List α) (g : α → Bool) : dAll [.lst (xs.map fun x => .bl (g x))] = some (.bl (xs.all g)) := by
  have : (xs.map fun x => D.bl (g x)) = (xs.map g).map D.bl := by rw [List.map_map]; rfl
  rw [this]
  simp only [dAll, toBools_blm, Option.map_some]
  congr 2
  rw [List.all_map]
  rfl
end S
namespace S
open PySem PySem.Spec PyProof.Rows L2 RZ Mr
noncomputable section
def k_AXES : D := .int 4
def k_ELEMENTS : D := .int 64
def k_LAST_CELL : D := .int 63
def bd_product_of_0 (A : Ad) : MS (O A) :=
  (mAug (O A) 1 dMul (mVar (O A) 2))
def mb_product_of (A : Ad) : MS (O A) :=
  (mSeq (O A) (mAsg (O A) (mC (O A) (.int 1)) (fName 1))
  (mSeq (O A) (mFor (O A) (mItS (O A) (mVar (O A) 0)) (fName 2)
  (bd_product_of_0 A))
  (mRet (O A) (mVar (O A) 1))))
def m_product_of (A : Ad) : List D → Dr → R Dr D := runF (O A) 3 (mb_product_of A)
def lc_ends_of_0 (A : Ad) : MA (O A) :=
  (mLc (O A) (mItA (O A) dZip (mCons (O A) (mVar (O A) 1) (mCons (O A) (mVar (O A) 2) (mNil (O A))))) (fTup 2 (fCons (fName 6) (fCons (fName 7) fNil))) (mYes (O A)) (mBin (O A) dMul (mBin (O A) dSub (mVar (O A) 6) (mC (O A) (.int 1))) (mVar (O A) 7)) [6, 7])
def lc_ends_of_1 (A : Ad) : MA (O A) :=
  (mLc (O A) (mItS (O A) (mVar (O A) 3)) (fName 8) (mTest (O A) (mBin (O A) dLt (mVar (O A) 8) (mC (O A) (.int 0)))) (mVar (O A) 8) [8])
def lc_ends_of_2 (A : Ad) : MA (O A) :=
  (mLc (O A) (mItS (O A) (mVar (O A) 3)) (fName 8) (mTest (O A) (mBin (O A) dGt (mVar (O A) 8) (mC (O A) (.int 0)))) (mVar (O A) 8) [8])
def mb_ends_of (A : Ad) : MS (O A) :=
  (mSeq (O A) (mAsg (O A) (mLst (O A) (lc_ends_of_0 A)) (fName 3))
  (mSeq (O A) (mAsg (O A) (mBin (O A) dAdd (mVar (O A) 0) (mCl (O A) dSum (mCons (O A) (mLst (O A) (lc_ends_of_1 A)) (mNil (O A))))) (fName 4))
  (mSeq (O A) (mAsg (O A) (mBin (O A) dAdd (mVar (O A) 0) (mCl (O A) dSum (mCons (O A) (mLst (O A) (lc_ends_of_2 A)) (mNil (O A))))) (fName 5))
  (mRet (O A) (mCl (O A) dTup (mCons (O A) (mVar (O A) 4) (mCons (O A) (mVar (O A) 5) (mNil (O A)))))))))
def m_ends_of (A : Ad) : List D → Dr → R Dr D := runF (O A) 9 (mb_ends_of A)
def lc_view_reason_0 (A : Ad) : MA (O A) :=
  (mLc (O A) (mItS (O A) (mVar (O A) 1)) (fName 5) (mYes (O A)) (mBin (O A) dLt (mVar (O A) 5) (mC (O A) (.int 1))) [5])
def mb_view_reason (A : Ad) : MS (O A) :=
  (mSeq (O A) (mIfS (O A) (mOr (O A) (mTest (O A) (mBin (O A) dNe (mCl (O A) dLen (mCons (O A) (mVar (O A) 1) (mNil (O A)))) (mCl (O A) dLen (mCons (O A) (mVar (O A) 2) (mNil (O A)))))) (mTest (O A) (mBin (O A) dGt (mCl (O A) dLen (mCons (O A) (mVar (O A) 1) (mNil (O A)))) (mC (O A) k_AXES))))
  (mRet (O A) (mC (O A) (.str "rank")))
  (mNext (O A)))
  (mSeq (O A) (mIfS (O A) (mTruth (O A) (mCl (O A) dAny (mCons (O A) (mLst (O A) (lc_view_reason_0 A)) (mNil (O A)))))
  (mRet (O A) (mC (O A) (.str "length")))
  (mNext (O A)))
  (mSeq (O A) (mIfS (O A) (mTest (O A) (mBin (O A) dGt (mCall (O A) 1 (m_product_of A) (mCons (O A) (mVar (O A) 1) (mNil (O A)))) (mC (O A) k_ELEMENTS)))
  (mRet (O A) (mC (O A) (.str "size")))
  (mNext (O A)))
  (mSeq (O A) (mAsg (O A) (mCall (O A) 3 (m_ends_of A) (mCons (O A) (mVar (O A) 0) (mCons (O A) (mVar (O A) 1) (mCons (O A) (mVar (O A) 2) (mNil (O A)))))) (fTup 2 (fCons (fName 3) (fCons (fName 4) fNil))))
  (mSeq (O A) (mIfS (O A) (mOr (O A) (mTest (O A) (mBin (O A) dLt (mVar (O A) 3) (mC (O A) (.int 0)))) (mTest (O A) (mBin (O A) dGt (mVar (O A) 4) (mC (O A) k_LAST_CELL))))
  (mRet (O A) (mC (O A) (.str "cell")))
  (mNext (O A)))
  (mRet (O A) (mC (O A) .non)))))))
def m_view_reason (A : Ad) : List D → Dr → R Dr D := runF (O A) 6 (mb_view_reason A)
def bd_law_parts_0 (A : Ad) : MS (O A) :=
  (mSeq (O A) (mAsg (O A) (mBin (O A) dAdd (mC (O A) (.int 1)) (mCall (O A) 2 (m_law_take A) (mCons (O A) (mVar (O A) 0) (mCons (O A) (mCl (O A) dMin2 (mCons (O A) (mVar (O A) 5) (mCons (O A) (mBin (O A) dIdx (mCl (O A) dList (mCons (O A) (mC (O A) (.int 2)) (mCons (O A) (mC (O A) (.int 4)) (mCons (O A) (mC (O A) (.int 8)) (mCons (O A) (mC (O A) (.int 64)) (mNil (O A))))))) (mCall (O A) 2 (m_law_take A) (mCons (O A) (mVar (O A) 0) (mCons (O A) (mC (O A) (.int 4)) (mNil (O A)))))) (mNil (O A))))) (mNil (O A)))))) (fName 9))
  (mSeq (O A) (mAsg (O A) (mC (O A) (.int 0)) (fName 10))
  (mSeq (O A) (mIfS (O A) (mTest (O A) (mBin (O A) dGt (mVar (O A) 9) (mC (O A) (.int 1))))
  (mAsg (O A) (mBin (O A) dDiv (mVar (O A) 6) (mBin (O A) dSub (mVar (O A) 9) (mC (O A) (.int 1)))) (fName 10))
  (mNext (O A)))
  (mSeq (O A) (mAsg (O A) (mBin (O A) dSub (mCall (O A) 2 (m_law_take A) (mCons (O A) (mVar (O A) 0) (mCons (O A) (mBin (O A) dAdd (mBin (O A) dMul (mC (O A) (.int 2)) (mVar (O A) 10)) (mC (O A) (.int 1))) (mNil (O A))))) (mVar (O A) 10)) (fName 11))
  (mSeq (O A) (mAsg (O A) (mBin (O A) dDiv (mVar (O A) 5) (mVar (O A) 9)) (fName 5))
  (mSeq (O A) (mAsg (O A) (mBin (O A) dSub (mVar (O A) 6) (mBin (O A) dMul (mCl (O A) dAbs (mCons (O A) (mVar (O A) 11) (mNil (O A)))) (mBin (O A) dSub (mVar (O A) 9) (mC (O A) (.int 1))))) (fName 6))
  (mSeq (O A) (mIfS (O A) (mTest (O A) (mBin (O A) dLt (mVar (O A) 11) (mC (O A) (.int 0))))
  (mAsg (O A) (mBin (O A) dSub (mVar (O A) 7) (mBin (O A) dMul (mVar (O A) 11) (mBin (O A) dSub (mVar (O A) 9) (mC (O A) (.int 1))))) (fName 7))
  (mNext (O A)))
  (mSeq (O A) (mAppend (O A) 3 (mVar (O A) 9))
  (mAppend (O A) 4 (mVar (O A) 11))))))))))
def mb_law_parts (A : Ad) : MS (O A) :=
  (mSeq (O A) (mOwn (O A) 3 (mDisp (O A) (mNil (O A))))
  (mSeq (O A) (mOwn (O A) 4 (mDisp (O A) (mNil (O A))))
  (mSeq (O A) (mAsg (O A) (mVar (O A) 2) (fName 5))
  (mSeq (O A) (mAsg (O A) (mBin (O A) dSub (mVar (O A) 1) (mC (O A) (.int 1))) (fName 6))
  (mSeq (O A) (mAsg (O A) (mC (O A) (.int 0)) (fName 7))
  (mSeq (O A) (mFor (O A) (mRng1 (O A) (mCons (O A) (mCall (O A) 2 (m_law_take A) (mCons (O A) (mVar (O A) 0) (mCons (O A) (mC (O A) (.int 5)) (mNil (O A))))) (mNil (O A)))) (fName 8)
  (bd_law_parts_0 A))
  (mFrz (O A) 4 (mFrz (O A) 3 (mRet (O A) (mCl (O A) dTup (mCons (O A) (mBin (O A) dAdd (mVar (O A) 7) (mCall (O A) 2 (m_law_take A) (mCons (O A) (mVar (O A) 0) (mCons (O A) (mBin (O A) dAdd (mVar (O A) 6) (mC (O A) (.int 1))) (mNil (O A)))))) (mCons (O A) (mCl (O A) dTupOf (mCons (O A) (mVar (O A) 3) (mNil (O A)))) (mCons (O A) (mCl (O A) dTupOf (mCons (O A) (mVar (O A) 4) (mNil (O A)))) (mNil (O A)))))))))))))))
def m_law_parts (A : Ad) : List D → Dr → R Dr D := runF (O A) 12 (mb_law_parts A)
def lc_law_indices_0 (A : Ad) : MA (O A) :=
  (mLc (O A) (mRng1 (O A) (mCons (O A) (mVar (O A) 2) (mNil (O A)))) (fName 5) (mYes (O A)) (mBin (O A) dAdd (mVar (O A) 4) (mCl (O A) dTup (mCons (O A) (mVar (O A) 5) (mNil (O A))))) [5])
def bd_law_indices_1 (A : Ad) : MS (O A) :=
  (mExtend (O A) 3 (lc_law_indices_0 A))
def bd_law_indices_2 (A : Ad) : MS (O A) :=
  (mSeq (O A) (mOwn (O A) 3 (mDisp (O A) (mNil (O A))))
  (mSeq (O A) (mFor (O A) (mItS (O A) (mVar (O A) 1)) (fName 4)
  (bd_law_indices_1 A))
  (mFrz (O A) 3 (mAsg (O A) (mVar (O A) 3) (fName 1)))))
def mb_law_indices (A : Ad) : MS (O A) :=
  (mSeq (O A) (mAsg (O A) (mCl (O A) dList (mCons (O A) (mCl (O A) dTup (mNil (O A))) (mNil (O A)))) (fName 1))
  (mSeq (O A) (mFor (O A) (mItS (O A) (mVar (O A) 0)) (fName 2)
  (bd_law_indices_2 A))
  (mRet (O A) (mVar (O A) 1))))
def m_law_indices (A : Ad) : List D → Dr → R Dr D := runF (O A) 6 (mb_law_indices A)
end
end S
namespace S
open PySem PySem.Spec PyProof.Rows L2 RZ Mr
theorem forL_step {S : Type} {f : D → Ev → Option Ev} {mb : Ev → S → RS S} {d : D} {ds : List D} {ρ ρ1 ρ2 : Ev} {s s2 : S} (h1 : f d ρ = some ρ1) (h2 : mb ρ1 s = .nx ρ2 s2) : forL S f mb (d :: ds) ρ s = forL S f mb ds ρ2 s2 := by
  simp only [forL, h1, h2]
abbrev iD (xs : List Int) : List D := xs.map D.int
theorem rangeD_eq (n : Nat) : rangeD 0 n = iD ((List.range n).map fun (k : Nat) => (k : Int)) := by
  unfold rangeD iD
  rw [List.map_map]
  refine List.map_congr_left fun k _ => ?_
  simp
def rng (l : Int) : List Int := (List.range l.toNat).map fun (k : Nat) => (k : Int)
theorem rng_len (l : Int) : (rng l).length = l.toNat := by simp [rng]
theorem mem_rng {l k : Int} (h : k ∈ rng l) : 0 ≤ k ∧ k < l := by
  unfold rng at h
  rw [List.mem_map] at h
  obtain ⟨n, hn, rfl⟩ := h
  have := List.mem_range.mp hn
  omega
abbrev Ax := List (Int × Int)
def shp (ax : Ax) : List Int := ax.map Prod.fst
def strd (ax : Ax) : List Int := ax.map Prod.snd
def prodL : List Int → Int
  | [] => 1
  | x :: xs => x * prodL xs
def isSq (d : D) (xs : List Int) : Prop := d = .lst (iD xs) ∨ d = .tup (iD xs)
theorem isSq.as {d : D} {xs : List Int} (h : isSq d xs) : asSeq d = some (iD xs) := by rcases h with rfl | rfl <;> rfl
theorem isSq.len {d : D} {xs : List Int} (h : isSq d xs) : dLen [d] = some (.int xs.length) := by rcases h with rfl | rfl <;> simp [dLen]
/-- two sequences of one kind -/
def sq2 (d e : D) (xs ys : List Int) : Prop := isSq d xs ∧ isSq e ys
def axD (ax : Ax) : List D := ax.map fun a => D.tup [.int a.1, .int a.2]
theorem sq2.zip {d e : D} {ax : Ax} (h : sq2 d e (shp ax) (strd ax)) : dZip [d, e] = some (axD ax) := by
  have key : zipD (iD (shp ax)) (iD (strd ax)) = axD ax := by
    clear h
    unfold zipD iD shp strd axD
    induction ax with
    | nil => rfl
    | cons a ax ih =>
      simp only [List.map_cons, List.zip_cons_cons] at ih ⊢
      rw [ih]
  obtain ⟨h1, h2⟩ := h
  rcases h1 with rfl | rfl <;> rcases h2 with rfl | rfl <;> simp only [dZip, key]
theorem flat_len {α β : Type} (cs : List α) (f : α → List β) (n : Nat) (h : ∀ c ∈ cs, (f c).length = n) : (cs.flatMap f).length = cs.length * n := by
  induction cs with
  | nil => simp
  | cons c cs ih =>
    rw [List.flatMap_cons, List.length_append, h c List.mem_cons_self, ih fun x hx => h x (List.mem_cons_of_mem _ hx), List.length_cons, Nat.add_mul]
    omega
/-- bounds of what is computed with -/
structure Bd (ax : Ax) : Prop where
  pos : ∀ a ∈ ax, 1 ≤ a.1
  str : ∀ a ∈ ax, -(10 ^ 60) < a.2 ∧ a.2 < 10 ^ 60
theorem Bd.tail {a : Int × Int} {ax : Ax} (h : Bd (a :: ax)) : Bd ax := ⟨fun b hb => h.pos b (List.mem_cons_of_mem _ hb), fun b hb => h.str b (List.mem_cons_of_mem _ hb)⟩
theorem prod_pos {xs : List Int} (h : ∀ x ∈ xs, 1 ≤ x) : 1 ≤ prodL xs := by
  induction xs with
  | nil => simp [prodL]
  | cons x xs ih =>
    have h1 := h x List.mem_cons_self
    have h2 := ih fun y hy => h y (List.mem_cons_of_mem _ hy)
    have := Int.mul_le_mul h1 h2 (by decide) (by omega)
    simpa [prodL] using this
theorem Bd.shp {ax : Ax} (h : Bd ax) : ∀ x ∈ shp ax, 1 ≤ x := by
  intro x hx
  unfold S.shp at hx
  rw [List.mem_map] at hx
  obtain ⟨a, ha, rfl⟩ := hx
  exact h.pos a ha
theorem f2_ok (i j : Nat) (a b : D) (ρ : Ev) : fTup 2 (fCons (fName i) (fCons (fName j) fNil)) (.tup [a, b]) ρ = some ((ρ.set i (.sh a)).set j (.sh b)) := rfl
theorem rng1_ok {A : Ad} {ma : MA (O A)} {ρ : Ev} {s s' : Dr} {l : Int} (h : ma ρ s = .ok [.int l] s') (h0 : -100000 ≤ l) (h1 : l ≤ 100000) : mRng1 (O A) ma ρ s = .ok (iD (rng l)) s' := by
  unfold mRng1
  rw [h]
  simp only [bind_ok]
  rw [if_pos ⟨h1, h0⟩, rangeD_eq]
  rfl
/-- parts as data -/
def ptD (o : Int) (ax : Ax) : D := .tup [.int o, .tup (iD (shp ax)), .tup (iD (strd ax))]
abbrev tD (i : List Int) : D := .tup (iD i)
def indsF : List Int → List (List Int) → List (List Int)
  | [], is => is
  | l :: sh, is => indsF sh (is.flatMap fun i => (rng l).map fun k => i ++ [k])
def indsL (sh : List Int) : List (List Int) := indsF sh [[]]
theorem inds_step_len (is : List (List Int)) (l : Int) : (is.flatMap fun i => (rng l).map fun k => i ++ [k]).length = is.length * l.toNat := flat_len _ _ _ fun c _ => by rw [List.length_map, rng_len]
theorem lc_linds (A : Ad) {x0 x1 x3 x5 : Sl} {s : Dr} {i : List Int} {l : Int} (h0 : 1 ≤ l) (h1 : l ≤ 64) (hi : i.length ≤ 1000) :
    lc_law_indices_0 A [x0, x1, .sh (.int l), x3, .sh (tD i), x5] s = .ok (((rng l).map fun k => i ++ [k]).map tD) s := by
  have e1 := rng1_ok (A := A) (ma := mCons (O A) (mVar (O A) 2) (mNil (O A))) (ρ := [x0, x1, .sh (.int l), x3, .sh (tD i), x5]) (s := s) (s' := s) (l := l) (by simp only [EE, eEqS, seqS, toS, R.lift, asSeq, asList, asTup, List.replicate, Nat.reduceAdd, Nat.reduceSub, Nat.reduceLeDiff, Nat.reduceLT, Nat.reduceMul, Int.reduceToNat, Int.reduceEq, Int.reduceAdd, Int.reduceSub, Int.reduceNeg, reduceIte, Nat.reduceEqDiff]) (by omega) (by omega)
  simp only [lc_law_indices_0, mLc, wipeE, e1, EE, eEqS, seqS, toS, R.lift, asSeq, asList, asTup, List.replicate, Nat.reduceAdd, Nat.reduceSub, Nat.reduceLeDiff, Nat.reduceLT, Nat.reduceMul, Int.reduceToNat, Int.reduceEq, Int.reduceAdd, Int.reduceSub, Int.reduceNeg, reduceIte, Nat.reduceEqDiff]
  rw [lcL_map (O := O A) (fun d => match d with | .int k => tD (i ++ [k]) | _ => .non) (iD (rng l)) []
    (by
      intro e he
      rw [List.mem_map] at he
      obtain ⟨k, hk, rfl⟩ := he
      refine ⟨_, rfl, rfl, ?_⟩
      have ha : dAdd (tD i) (.tup [.int k]) = some (tD (i ++ [k])) := by
        simp only [dAdd, tD, iD, List.length_map, List.length_cons, List.length_nil]
        rw [if_pos (by omega), List.map_append]
        rfl
      simp only [EE, eEqS, seqS, toS, R.lift, asSeq, asList, asTup, List.replicate, Nat.reduceAdd, Nat.reduceSub, Nat.reduceLeDiff, Nat.reduceLT, Nat.reduceMul, Int.reduceToNat, Int.reduceEq, Int.reduceAdd, Int.reduceSub, Int.reduceNeg, reduceIte, Nat.reduceEqDiff, ha])
    (by simp [rng_len]; omega)]
  congr 1
  simp only [List.nil_append, iD, List.map_map]
  rfl
theorem linds_in (A : Ad) {x0 x1 : Sl} {s : Dr} {l : Int} (h0 : 1 ≤ l) (h1 : l ≤ 64) : ∀ (is acc : List (List Int)) (x4 x5 : Sl), (∀ i ∈ is, i.length ≤ 1000) → acc.length + is.length * l.toNat ≤ 1000 →
    ∃ y4 y5, forL (O A).S (fName 4) (bd_law_indices_1 A) (is.map tD) [x0, x1, .sh (.int l), .own (acc.map tD), x4, x5] s = .nx [x0, x1, .sh (.int l), .own ((acc ++ is.flatMap fun i => (rng l).map fun k => i ++ [k]).map tD), y4, y5] s
  | [], acc, x4, x5, _, _ => ⟨x4, x5, by simp [forL]⟩
  | i :: is, acc, x4, x5, hc, hl => by
    rw [List.length_cons, Nat.add_mul] at hl
    obtain ⟨y4, y5, e⟩ := linds_in A (x0 := x0) (x1 := x1) (s := s) h0 h1 is (acc ++ (rng l).map fun k => i ++ [k]) (.sh (tD i)) x5 (fun x hx => hc x (List.mem_cons_of_mem _ hx)) (by rw [List.length_append, List.length_map, rng_len]; omega)
    have lc := lc_linds A (x0 := x0) (x1 := x1) (x3 := .own (acc.map tD)) (x5 := x5) (s := s) h0 h1 (hc i List.mem_cons_self)
    have hz : (acc.map tD).length + (((rng l).map fun k => i ++ [k]).map tD).length ≤ 100000 := by simp [rng_len]; omega
    refine ⟨y4, y5, ?_⟩
    show forL (O A).S _ _ (tD i :: is.map tD) _ s = _
    rw [forL_step rfl (by simp only [bd_law_indices_1, mExtend, EE, eEqS, seqS, toS, R.lift, asSeq, asList, asTup, List.replicate, Nat.reduceAdd, Nat.reduceSub, Nat.reduceLeDiff, Nat.reduceLT, Nat.reduceMul, Int.reduceToNat, Int.reduceEq, Int.reduceAdd, Int.reduceSub, Int.reduceNeg, reduceIte, Nat.reduceEqDiff, lc]; rw [if_pos hz]), ← List.map_append, e]
    simp
theorem linds_loop (A : Ad) {x0 : Sl} {s : Dr} : ∀ (sh : List Int) (is : List (List Int)) (n : Nat) (x2 x3 x4 x5 : Sl), (∀ l ∈ sh, 1 ≤ l) → (∀ i ∈ is, i.length ≤ n) → n + sh.length ≤ 1000 → (is.length : Int) * prodL sh ≤ 64 → 0 < is.length →
    ∃ y2 y3 y4 y5, forL (O A).S (fName 2) (bd_law_indices_2 A) (iD sh) [x0, .sh (.lst (is.map tD)), x2, x3, x4, x5] s = .nx [x0, .sh (.lst ((indsF sh is).map tD)), y2, y3, y4, y5] s
  | [], is, n, x2, x3, x4, x5, _, _, _, _, _ => ⟨x2, x3, x4, x5, rfl⟩
  | l :: sh, is, n, x2, x3, x4, x5, hb, hi, hn, hp, h0 => by
    have p1 := prod_pos (xs := sh) fun x hx => hb x (List.mem_cons_of_mem _ hx)
    have a1 := hb l List.mem_cons_self
    have e1 : prodL (l :: sh) = l * prodL sh := rfl
    rw [e1, ← Int.mul_assoc] at hp
    have hcs : (1 : Int) ≤ is.length := by omega
    have hca : (is.length : Int) * l ≤ 64 := by
      have h1 : (0 : Int) ≤ (is.length : Int) * l := Int.mul_nonneg (by omega) (by omega)
      have := Int.mul_le_mul_of_nonneg_left p1 h1
      omega
    have ha64 : l ≤ 64 := by
      have := Int.mul_le_mul_of_nonneg_right hcs (show (0 : Int) ≤ l by omega)
      omega
    have hln : is.length * l.toNat ≤ 64 := by
      have : ((is.length * l.toNat : Nat) : Int) = (is.length : Int) * l := by
        rw [Int.natCast_mul, Int.toNat_of_nonneg (by omega)]
      omega
    have hlen := inds_step_len is l
    rw [List.length_cons] at hn
    obtain ⟨z4, z5, e2⟩ := linds_in A (x0 := x0) (x1 := .sh (.lst (is.map tD))) (s := s) a1 ha64 is [] x4 x5 (fun i h => by have := hi i h; omega) (by simp; omega)
    rw [List.nil_append] at e2
    obtain ⟨y2, y3, y4, y5, e⟩ := linds_loop A (x0 := x0) (s := s) sh (is.flatMap fun i => (rng l).map fun k => i ++ [k]) (n + 1) (.sh (.int l)) (.sh (.lst ((is.flatMap fun i => (rng l).map fun k => i ++ [k]).map tD))) z4 z5 (fun x hx => hb x (List.mem_cons_of_mem _ hx))
      (by
        intro i hm
        rw [List.mem_flatMap] at hm
        obtain ⟨i0, h3, h4⟩ := hm
        rw [List.mem_map] at h4
        obtain ⟨k, _, rfl⟩ := h4
        have := hi i0 h3
        simp
        omega) (by omega)
      (by
        rw [hlen, Int.natCast_mul, Int.toNat_of_nonneg (by omega)]
        exact hp) (by rw [hlen]; exact Nat.mul_pos h0 (by omega))
    refine ⟨y2, y3, y4, y5, ?_⟩
    show forL (O A).S _ _ (D.int l :: iD sh) _ s = _
    simp only [List.map_nil] at e2
    rw [forL_step rfl (by simp only [bd_law_indices_2, mOwn, mDisp, listMax, mFrz, frzE, EE, eEqS, seqS, toS, R.lift, asSeq, asList, asTup, List.replicate, Nat.reduceAdd, Nat.reduceSub, Nat.reduceLeDiff, Nat.reduceLT, Nat.reduceMul, Int.reduceToNat, Int.reduceEq, Int.reduceAdd, Int.reduceSub, Int.reduceNeg, reduceIte, Nat.reduceEqDiff, e2]; rfl), e]
    rfl
theorem law_indices_ok (A : Ad) {s : Dr} {sh : List Int} {d : D} (hd : isSq d sh) (hb : ∀ l ∈ sh, 1 ≤ l) (hp : prodL sh ≤ 64) (hl : sh.length ≤ 100) : m_law_indices A [d] s = .ok (.lst ((indsL sh).map tD)) s := by
  obtain ⟨y2, y3, y4, y5, e⟩ := linds_loop A (x0 := .sh d) (s := s) sh [[]] 0 .no .no .no .no hb (by simp) (by omega) (by simpa using hp) (by simp)
  have as := hd.as
  simp only [asSeq] at as
  simp only [tD, iD, List.map_cons, List.map_nil] at e as
  simp only [m_law_indices, mb_law_indices, EE, eEqS, seqS, toS, R.lift, asSeq, asList, asTup, List.replicate, Nat.reduceAdd, Nat.reduceSub, Nat.reduceLeDiff, Nat.reduceLT, Nat.reduceMul, Int.reduceToNat, Int.reduceEq, Int.reduceAdd, Int.reduceSub, Int.reduceNeg, reduceIte, Nat.reduceEqDiff, as, e]
  rfl
def neg0 (x : Int) : Int := if x < 0 then x else 0
def pos0 (x : Int) : Int := if 0 < x then x else 0
def lowS : Ax → Int
  | [] => 0
  | a :: ax => neg0 ((a.1 - 1) * a.2) + lowS ax
def highS : Ax → Int
  | [] => 0
  | a :: ax => pos0 ((a.1 - 1) * a.2) + highS ax
theorem lowS_le : ∀ ax : Ax, lowS ax ≤ 0
  | [] => by simp [lowS]
  | a :: ax => by have := lowS_le ax; unfold lowS neg0; split <;> omega
theorem highS_ge : ∀ ax : Ax, 0 ≤ highS ax
  | [] => by simp [highS]
  | a :: ax => by have := highS_ge ax; unfold highS pos0; split <;> omega
/-- a view within some cells -/
structure Vw (cells most o : Int) (ax : Ax) : Prop where
  len : ax.length ≤ 4
  pos : ∀ a ∈ ax, 1 ≤ a.1
  one : ∀ a ∈ ax, a.1 = 1 → a.2 = 0
  prd : prodL (shp ax) ≤ most
  low : 0 ≤ o + lowS ax
  high : o + highS ax ≤ cells - 1
theorem reach_bd : ∀ {ax : Ax} {a : Int × Int}, a ∈ ax → lowS ax ≤ (a.1 - 1) * a.2 ∧ (a.1 - 1) * a.2 ≤ highS ax
  | b :: ax, a, h => by
    have h1 := lowS_le ax
    have h2 := highS_ge ax
    rcases List.mem_cons.mp h with rfl | h
    · unfold lowS highS neg0 pos0
      constructor <;> (split <;> omega)
    · have := reach_bd h
      unfold lowS highS neg0 pos0
      constructor <;> (split <;> omega)
theorem Vw.str {cells most o : Int} {ax : Ax} (h : Vw cells most o ax) (hc : cells ≤ 64) : ∀ a ∈ ax, -64 < a.2 ∧ a.2 < 64 := by
  intro a ha
  have p := h.pos a ha
  by_cases h1 : a.1 = 1
  · rw [h.one a ha h1]; decide
  · have r := reach_bd ha
    have l := h.low
    have hh := h.high
    have m1 : (1 : Int) ≤ a.1 - 1 := by omega
    by_cases h2 : 0 ≤ a.2
    · have := Int.mul_le_mul_of_nonneg_right m1 h2
      have := lowS_le ax
      omega
    · have := Int.mul_le_mul_of_nonneg_right m1 (show (0 : Int) ≤ -a.2 by omega)
      rw [Int.mul_neg, Int.mul_neg] at this
      have := highS_ge ax
      omega
theorem Vw.bd {cells most o : Int} {ax : Ax} (h : Vw cells most o ax) (hc : cells ≤ 64) : Bd ax := ⟨h.pos, fun a ha => by have := h.str hc a ha; omega⟩
theorem Vw.off {cells most o : Int} {ax : Ax} (h : Vw cells most o ax) (hc : cells ≤ 64) : 0 ≤ o ∧ o < 64 := by
  have l := h.low
  have hh := h.high
  have := lowS_le ax
  have := highS_ge ax
  omega
theorem toInts_iD : ∀ xs : List Int, toInts (iD xs) = some xs
  | [] => rfl
  | x :: xs => by
    have := toInts_iD xs
    unfold iD at this ⊢
    simp only [List.map_cons, toInts, this]
    rfl
theorem sum_low : ∀ ax : Ax, ((ax.map fun a => (a.1 - 1) * a.2).filter fun r => decide (r < 0)).sum = lowS ax
  | [] => rfl
  | a :: ax => by
    have := sum_low ax
    rw [List.map_cons, List.filter_cons]
    unfold lowS neg0
    split
    · rename_i h
      rw [if_pos (by simpa using h), List.sum_cons, this]
    · rename_i h
      rw [if_neg (by simpa using h), this]
      omega
theorem sum_high : ∀ ax : Ax, ((ax.map fun a => (a.1 - 1) * a.2).filter fun r => decide (0 < r)).sum = highS ax
  | [] => rfl
  | a :: ax => by
    have := sum_high ax
    rw [List.map_cons, List.filter_cons]
    unfold highS pos0
    split
    · rename_i h
      rw [if_pos (by simpa using h), List.sum_cons, this]
    · rename_i h
      rw [if_neg (by simpa using h), this]
      omega
/-- numbers that may be computed with -/
structure Wd (ax : Ax) : Prop where
  len : ∀ a ∈ ax, -(10 ^ 60) < a.1 ∧ a.1 < 10 ^ 60
  str : ∀ a ∈ ax, -(10 ^ 60) < a.2 ∧ a.2 < 10 ^ 60
  few : ax.length ≤ 100
theorem ends_of_ok (A : Ad) {s : Dr} {o : Int} {ax : Ax} {d e : D} (hd : sq2 d e (shp ax) (strd ax)) (hw : Wd ax) : m_ends_of A [.int o, d, e] s = .ok (.tup [.int (o + lowS ax), .int (o + highS ax)]) s := by
  have r0 : ∀ x3 x4 x5 x6 x7 x8 : Sl, lc_ends_of_0 A [.sh (.int o), .sh d, .sh e, x3, x4, x5, x6, x7, x8] s = .ok (iD (ax.map fun a => (a.1 - 1) * a.2)) s := by
    intro x3 x4 x5 x6 x7 x8
    simp only [lc_ends_of_0, mLc, wipeE, mItA, EE, eEqS, seqS, toS, R.lift, asSeq, asList, asTup, List.replicate, Nat.reduceAdd, Nat.reduceSub, Nat.reduceLeDiff, Nat.reduceLT, Nat.reduceMul, Int.reduceToNat, Int.reduceEq, Int.reduceAdd, Int.reduceSub, Int.reduceNeg, reduceIte, Nat.reduceEqDiff, hd.zip]
    rw [lcL_map (O := O A) (fun d => match d with | .tup [.int l, .int st] => .int ((l - 1) * st) | _ => .non) (axD ax) []
      (by
        intro y hy
        unfold axD at hy
        rw [List.mem_map] at hy
        obtain ⟨a, ha, rfl⟩ := hy
        have h1 := hw.len a ha
        have h2 := hw.str a ha
        have c1 : CMulG (a.1 - 1) a.2 := mulG (by omega) (by omega) (by omega) (by omega)
        refine ⟨_, f2_ok _ _ _ _ _, rfl, ?_⟩
        simp only [EE, eEqS, seqS, toS, R.lift, asSeq, asList, asTup, List.replicate, Nat.reduceAdd, Nat.reduceSub, Nat.reduceLeDiff, Nat.reduceLT, Nat.reduceMul, Int.reduceToNat, Int.reduceEq, Int.reduceAdd, Int.reduceSub, Int.reduceNeg, reduceIte, Nat.reduceEqDiff, c1])
      (by have := hw.few; simp [axD]; omega)]
    congr 1
    simp only [List.nil_append, iD, axD, List.map_map]
    rfl
  have r1 : ∀ (rs : List Int) (x0 x1 x2 x4 x5 x6 x7 x8 : Sl), rs.length ≤ 1000 → lc_ends_of_1 A [x0, x1, x2, .sh (.lst (iD rs)), x4, x5, x6, x7, x8] s = .ok (iD (rs.filter fun r => decide (r < 0))) s := by
    intro rs x0 x1 x2 x4 x5 x6 x7 x8 hl
    simp only [lc_ends_of_1, mLc, wipeE, EE, eEqS, seqS, toS, R.lift, asSeq, asList, asTup, List.replicate, Nat.reduceAdd, Nat.reduceSub, Nat.reduceLeDiff, Nat.reduceLT, Nat.reduceMul, Int.reduceToNat, Int.reduceEq, Int.reduceAdd, Int.reduceSub, Int.reduceNeg, reduceIte, Nat.reduceEqDiff]
    rw [lcL_filter (O := O A) (fun d => match d with | .int r => decide (r < 0) | _ => false) (fun d => d) (iD rs) []
      (by
        intro y hy
        rw [List.mem_map] at hy
        obtain ⟨r, hr, rfl⟩ := hy
        exact ⟨_, rfl, by simp only [EE, eEqS, seqS, toS, R.lift, asSeq, asList, asTup, List.replicate, Nat.reduceAdd, Nat.reduceSub, Nat.reduceLeDiff, Nat.reduceLT, Nat.reduceMul, Int.reduceToNat, Int.reduceEq, Int.reduceAdd, Int.reduceSub, Int.reduceNeg, reduceIte, Nat.reduceEqDiff], fun _ => by simp only [EE, eEqS, seqS, toS, R.lift, asSeq, asList, asTup, List.replicate, Nat.reduceAdd, Nat.reduceSub, Nat.reduceLeDiff, Nat.reduceLT, Nat.reduceMul, Int.reduceToNat, Int.reduceEq, Int.reduceAdd, Int.reduceSub, Int.reduceNeg, reduceIte, Nat.reduceEqDiff]⟩)
      (by simp; omega)]
    congr 1
    simp only [List.nil_append, iD, List.map_id', List.filter_map]
    rfl
  have r2 : ∀ (rs : List Int) (x0 x1 x2 x4 x5 x6 x7 x8 : Sl), rs.length ≤ 1000 → lc_ends_of_2 A [x0, x1, x2, .sh (.lst (iD rs)), x4, x5, x6, x7, x8] s = .ok (iD (rs.filter fun r => decide (0 < r))) s := by
    intro rs x0 x1 x2 x4 x5 x6 x7 x8 hl
    simp only [lc_ends_of_2, mLc, wipeE, EE, eEqS, seqS, toS, R.lift, asSeq, asList, asTup, List.replicate, Nat.reduceAdd, Nat.reduceSub, Nat.reduceLeDiff, Nat.reduceLT, Nat.reduceMul, Int.reduceToNat, Int.reduceEq, Int.reduceAdd, Int.reduceSub, Int.reduceNeg, reduceIte, Nat.reduceEqDiff]
    rw [lcL_filter (O := O A) (fun d => match d with | .int r => decide (0 < r) | _ => false) (fun d => d) (iD rs) []
      (by
        intro y hy
        rw [List.mem_map] at hy
        obtain ⟨r, hr, rfl⟩ := hy
        exact ⟨_, rfl, by simp only [EE, eEqS, seqS, toS, R.lift, asSeq, asList, asTup, List.replicate, Nat.reduceAdd, Nat.reduceSub, Nat.reduceLeDiff, Nat.reduceLT, Nat.reduceMul, Int.reduceToNat, Int.reduceEq, Int.reduceAdd, Int.reduceSub, Int.reduceNeg, reduceIte, Nat.reduceEqDiff], fun _ => by simp only [EE, eEqS, seqS, toS, R.lift, asSeq, asList, asTup, List.replicate, Nat.reduceAdd, Nat.reduceSub, Nat.reduceLeDiff, Nat.reduceLT, Nat.reduceMul, Int.reduceToNat, Int.reduceEq, Int.reduceAdd, Int.reduceSub, Int.reduceNeg, reduceIte, Nat.reduceEqDiff]⟩)
      (by simp; omega)]
    congr 1
    simp only [List.nil_append, iD, List.map_id', List.filter_map]
    rfl
  have l1 : (ax.map fun a => (a.1 - 1) * a.2).length ≤ 1000 := by have := hw.few; simp; omega
  have s1 : dSum [.lst (iD ((ax.map fun a => (a.1 - 1) * a.2).filter fun r => decide (r < 0)))] = some (.int (lowS ax)) := by
    simp only [dSum, toInts_iD, Option.map_some, sum_low]
  have s2 : dSum [.lst (iD ((ax.map fun a => (a.1 - 1) * a.2).filter fun r => decide (0 < r)))] = some (.int (highS ax)) := by
    simp only [dSum, toInts_iD, Option.map_some, sum_high]
  simp only [m_ends_of, mb_ends_of, EE, eEqS, seqS, toS, R.lift, asSeq, asList, asTup, List.replicate, Nat.reduceAdd, Nat.reduceSub, Nat.reduceLeDiff, Nat.reduceLT, Nat.reduceMul, Int.reduceToNat, Int.reduceEq, Int.reduceAdd, Int.reduceSub, Int.reduceNeg, reduceIte, Nat.reduceEqDiff, r0, r1 _ _ _ _ _ _ _ _ _ l1, r2 _ _ _ _ _ _ _ _ _ l1, s1, s2]
theorem product_loop (A : Ad) {x0 : Sl} {s : Dr} : ∀ (xs : List Int) (p : Int) (x2 : Sl), (∀ x ∈ xs, 1 ≤ x) → 1 ≤ p → p * prodL xs ≤ 10 ^ 190 → ∃ y2, forL (O A).S (fName 2) (bd_product_of_0 A) (iD xs) [x0, .sh (.int p), x2] s = .nx [x0, .sh (.int (p * prodL xs)), y2] s
  | [], p, x2, _, _, _ => ⟨x2, by simp [forL, iD, prodL]⟩
  | x :: xs, p, x2, h, hp, hb => by
    have p1 := prod_pos (xs := xs) fun y hy => h y (List.mem_cons_of_mem _ hy)
    have x1 := h x List.mem_cons_self
    have e1 : prodL (x :: xs) = x * prodL xs := rfl
    rw [e1, ← Int.mul_assoc] at hb ⊢
    have px : 1 ≤ p * x := by have := Int.mul_le_mul hp x1 (by decide) (by omega); simpa using this
    have pb : p * x ≤ 10 ^ 190 := by
      have := Int.mul_le_mul_of_nonneg_left p1 (show (0 : Int) ≤ p * x by omega)
      omega
    have pp : p ≤ 10 ^ 190 := by have := Int.mul_le_mul_of_nonneg_left x1 (show (0 : Int) ≤ p by omega); omega
    have xx : x ≤ 10 ^ 190 := by have := Int.mul_le_mul_of_nonneg_right hp (show (0 : Int) ≤ x by omega); omega
    obtain ⟨y2, e⟩ := product_loop A (x0 := x0) (s := s) xs (p * x) (.sh (.int x)) (fun y hy => h y (List.mem_cons_of_mem _ hy)) px hb
    have c1 : CMulG p x := mulG (by omega) (by omega) (by omega) (by omega)
    refine ⟨y2, ?_⟩
    show forL (O A).S _ _ (D.int x :: iD xs) _ s = _
    rw [forL_step rfl (by simp only [bd_product_of_0, mAug, EE, eEqS, seqS, toS, R.lift, asSeq, asList, asTup, List.replicate, Nat.reduceAdd, Nat.reduceSub, Nat.reduceLeDiff, Nat.reduceLT, Nat.reduceMul, Int.reduceToNat, Int.reduceEq, Int.reduceAdd, Int.reduceSub, Int.reduceNeg, reduceIte, Nat.reduceEqDiff, c1]; rfl), e]
theorem product_of_ok (A : Ad) {s : Dr} {xs : List Int} {d : D} (hd : isSq d xs) (h : ∀ x ∈ xs, 1 ≤ x) (hb : prodL xs ≤ 10 ^ 190) : m_product_of A [d] s = .ok (.int (prodL xs)) s := by
  obtain ⟨y2, e⟩ := product_loop A (x0 := .sh d) (s := s) xs 1 .no h (by decide) (by rw [Int.one_mul]; exact hb)
  have as := hd.as
  simp only [asSeq] at as
  rw [Int.one_mul] at e
  simp only [m_product_of, mb_product_of, EE, eEqS, seqS, toS, R.lift, asSeq, asList, asTup, List.replicate, Nat.reduceAdd, Nat.reduceSub, Nat.reduceLeDiff, Nat.reduceLT, Nat.reduceMul, Int.reduceToNat, Int.reduceEq, Int.reduceAdd, Int.reduceSub, Int.reduceNeg, reduceIte, Nat.reduceEqDiff, as, e]
end S
namespace S
open PySem PySem.Spec PyProof.Rows L2 RZ Mr
variable {qst : List Ob}
theorem toBools_map {α : Type} (f : α → Bool) : ∀ xs : List α, toBools (xs.map fun x => D.bl (f x)) = some (xs.map f)
  | [] => rfl
  | x :: xs => by simp only [List.map_cons, toBools, toBools_map f xs, Option.map_some]
theorem any_none {xs : List Int} (h : ∀ x ∈ xs, 1 ≤ x) : dAny [.lst (xs.map fun x => D.bl (decide (x < 1)))] = some (.bl false) := by
  simp only [dAny, toBools_map, Option.map_some]
  congr 2
  rw [List.any_map, List.any_eq_false]
  intro x hx
  have := h x hx
  simp
  omega
theorem sq2.one {d e : D} {xs ys : List Int} (h : sq2 d e xs ys) : isSq d xs ∧ isSq e ys := h
theorem lc_reason (A : Ad) {s : Dr} {xs : List Int} {d : D} (hd : isSq d xs) (hl : xs.length ≤ 1000) {x0 x2 x3 x4 x5 : Sl} : lc_view_reason_0 A [x0, .sh d, x2, x3, x4, x5] s = .ok (xs.map fun x => D.bl (decide (x < 1))) s := by
  have as := hd.as
  simp only [asSeq] at as
  simp only [lc_view_reason_0, mLc, wipeE, EE, eEqS, seqS, toS, R.lift, asSeq, asList, asTup, List.replicate, Nat.reduceAdd, Nat.reduceSub, Nat.reduceLeDiff, Nat.reduceLT, Nat.reduceMul, Int.reduceToNat, Int.reduceEq, Int.reduceAdd, Int.reduceSub, Int.reduceNeg, reduceIte, Nat.reduceEqDiff, as]
  rw [lcL_map (O := O A) (fun d => match d with | .int x => .bl (decide (x < 1)) | _ => .non) (iD xs) []
    (by
      intro y hy
      rw [List.mem_map] at hy
      obtain ⟨x, hx, rfl⟩ := hy
      exact ⟨_, rfl, rfl, by simp only [EE, eEqS, seqS, toS, R.lift, asSeq, asList, asTup, List.replicate, Nat.reduceAdd, Nat.reduceSub, Nat.reduceLeDiff, Nat.reduceLT, Nat.reduceMul, Int.reduceToNat, Int.reduceEq, Int.reduceAdd, Int.reduceSub, Int.reduceNeg, reduceIte, Nat.reduceEqDiff]⟩)
    (by simp; omega)]
  congr 1
  simp only [List.nil_append, iD, List.map_map]
  rfl
/-- parts of which a view is made; the stride of an axis of length 1 may be any -/
structure Vw0 (o : Int) (ax : Ax) : Prop where
  len : ax.length ≤ 4
  pos : ∀ a ∈ ax, 1 ≤ a.1
  prd : prodL (shp ax) ≤ 64
  low : 0 ≤ o + lowS ax
  high : o + highS ax ≤ 63
  str : ∀ a ∈ ax, -(10 ^ 60) < a.2 ∧ a.2 < 10 ^ 60
theorem Vw.v0 {c m o : Int} {ax : Ax} (h : Vw c m o ax) (hc : c ≤ 64) (hm : m ≤ 64) : Vw0 o ax := ⟨h.len, h.pos, by have := h.prd; omega, h.low, by have := h.high; omega, (h.bd hc).str⟩
theorem Vw0.bd {o : Int} {ax : Ax} (h : Vw0 o ax) : Bd ax := ⟨h.pos, h.str⟩
theorem Vw0.off {o : Int} {ax : Ax} (h : Vw0 o ax) : 0 ≤ o ∧ o < 64 := by
  have l := h.low
  have hh := h.high
  have := lowS_le ax
  have := highS_ge ax
  omega
theorem view_reason_ok (A : Ad) {s : Dr} {o : Int} {ax : Ax} {d e : D} (hd : sq2 d e (shp ax) (strd ax)) (hv : Vw0 o ax) : m_view_reason A [.int o, d, e] s = .ok .non s := by
  have l1 := hd.one.1.len
  have l2 := hd.one.2.len
  have el : (shp ax).length = ax.length := by simp [shp]
  have el2 : (strd ax).length = ax.length := by simp [strd]
  rw [el] at l1
  rw [el2] at l2
  have h4 : ¬ (4 : Int) < (ax.length : Int) := by have := hv.len; omega
  have lc := @lc_reason A s (shp ax) d hd.one.1 (by rw [el]; have := hv.len; omega)
  have pos : ∀ x ∈ shp ax, 1 ≤ x := hv.bd.shp
  have an := any_none pos
  have pr := product_of_ok A (s := s) hd.one.1 pos (by have := hv.prd; omega)
  have hp : ¬ (64 : Int) < prodL (shp ax) := by have := hv.prd; omega
  have ends := ends_of_ok A (s := s) (o := o) hd ⟨fun a ha => by
    have h1 := hv.pos a ha
    have : a.1 ≤ prodL (shp ax) := le_prod pos (List.mem_map_of_mem ha)
    have := hv.prd
    omega, hv.str, by have := hv.len; omega⟩
  have hlo : ¬ o + lowS ax < 0 := by have := hv.low; omega
  have hhi : ¬ (63 : Int) < o + highS ax := by have := hv.high; omega
  simp only [m_view_reason, mb_view_reason, f2_ok, k_AXES, k_ELEMENTS, k_LAST_CELL, dTruth, EE, eEqS, seqS, toS, R.lift, asSeq, asList, asTup, List.replicate, Nat.reduceAdd, Nat.reduceSub, Nat.reduceLeDiff, Nat.reduceLT, Nat.reduceMul, Int.reduceToNat, Int.reduceEq, Int.reduceAdd, Int.reduceSub, Int.reduceNeg, reduceIte, Nat.reduceEqDiff, l1, l2, h4, lc, an, pr, hp, ends, hlo, hhi]
where
  le_prod {xs : List Int} (h : ∀ x ∈ xs, 1 ≤ x) {y : Int} (hy : y ∈ xs) : y ≤ prodL xs := by
    induction xs with
    | nil => exact absurd hy List.not_mem_nil
    | cons x xs ih =>
      have p := prod_pos (xs := xs) fun z hz => h z (List.mem_cons_of_mem _ hz)
      have x1 := h x List.mem_cons_self
      unfold prodL
      rcases List.mem_cons.mp hy with rfl | hy
      · have := Int.mul_le_mul_of_nonneg_left p (show (0 : Int) ≤ y by omega)
        omega
      · have i := ih (fun z hz => h z (List.mem_cons_of_mem _ hz)) hy
        have := Int.mul_le_mul_of_nonneg_right x1 (show (0 : Int) ≤ prodL xs by omega)
        omega
theorem lowS_snoc (ax : Ax) (a : Int × Int) : lowS (ax ++ [a]) = lowS ax + neg0 ((a.1 - 1) * a.2) := by
  induction ax with
  | nil => simp [lowS]
  | cons b ax ih => simp only [List.cons_append, lowS, ih]; omega
theorem highS_snoc (ax : Ax) (a : Int × Int) : highS (ax ++ [a]) = highS ax + pos0 ((a.1 - 1) * a.2) := by
  induction ax with
  | nil => simp [highS]
  | cons b ax ih => simp only [List.cons_append, highS, ih]; omega
theorem prod_snoc (xs : List Int) (x : Int) : prodL (xs ++ [x]) = prodL xs * x := by
  induction xs with
  | nil => simp [prodL]
  | cons y xs ih => simp only [List.cons_append, prodL, ih, Int.mul_assoc]
/-- what the loop of _law_parts keeps -/
structure Pt (cells most : Int) (ax : Ax) (room left below : Int) : Prop where
  pos : ∀ a ∈ ax, 1 ≤ a.1
  one : ∀ a ∈ ax, a.1 = 1 → a.2 = 0
  rm : 1 ≤ room
  prd : prodL (shp ax) * room ≤ most
  lf : left = cells - 1 - (highS ax - lowS ax)
  lf0 : 0 ≤ left
  bl : below = -lowS ax
theorem Pt.step {cells most room left below l reach st : Int} {ax : Ax} (h : Pt cells most ax room left below) (l0 : 1 ≤ l) (l1 : l ≤ room) (hr : reach = if 1 < l then left.fdiv (l - 1) else 0) (s0 : -reach ≤ st) (s1 : st ≤ reach) :
    Pt cells most (ax ++ [(l, st)]) (room.fdiv l) (left - (if st < 0 then -st else st) * (l - 1)) (if st < 0 then below - st * (l - 1) else below) := by
  have fd : ∀ x y : Int, 0 < y → y * x.fdiv y ≤ x ∧ x < y * x.fdiv y + y := fun x y hy => by
    have e := Int.fmod_def x y
    have m0 := Int.fmod_nonneg_of_pos x hy
    have m1 := Int.fmod_lt_of_pos x hy
    omega
  have fr := fd room l (by omega)
  have r1 : 1 ≤ room.fdiv l := by
    by_cases z : 1 ≤ room.fdiv l
    · exact z
    · exfalso
      have : l * room.fdiv l ≤ 0 := by
        have := Int.mul_le_mul_of_nonneg_left (show room.fdiv l ≤ 0 by omega) (show (0 : Int) ≤ l by omega)
        simpa using this
      omega
  have pp := prod_pos (xs := shp ax) (by intro x hx; unfold shp at hx; rw [List.mem_map] at hx; obtain ⟨a, ha, rfl⟩ := hx; exact h.pos a ha)
  have key : (if st < 0 then -st else st) * (l - 1) ≤ left ∧ (l = 1 → st = 0) := by
    by_cases hl : 1 < l
    · rw [if_pos hl] at hr
      have f := fd left (l - 1) (by omega)
      rw [← hr] at f
      refine ⟨?_, fun z => by omega⟩
      have : (if st < 0 then -st else st) ≤ reach := by split <;> omega
      have := Int.mul_le_mul_of_nonneg_right this (show (0 : Int) ≤ l - 1 by omega)
      rw [Int.mul_comm reach] at this
      omega
    · rw [if_neg hl] at hr
      have : st = 0 := by omega
      subst this
      simp
      exact h.lf0
  have abs : (if st < 0 then -st else st) * (l - 1) = pos0 ((l - 1) * st) - neg0 ((l - 1) * st) := by
    unfold pos0 neg0
    by_cases hs : st < 0
    · rw [if_pos hs]
      have : (l - 1) * st ≤ 0 := by
        have := Int.mul_le_mul_of_nonneg_left (show st ≤ 0 by omega) (show (0 : Int) ≤ l - 1 by omega)
        simpa using this
      rw [Int.neg_mul, Int.mul_comm st]
      split <;> split <;> omega
    · rw [if_neg hs]
      have : 0 ≤ (l - 1) * st := Int.mul_nonneg (by omega) (by omega)
      rw [Int.mul_comm st]
      split <;> split <;> omega
  refine ⟨fun a ha => ?_, fun a ha => ?_, r1, ?_, ?_, by omega, ?_⟩
  · rcases List.mem_append.mp ha with q | q
    · exact h.pos a q
    · rw [List.mem_singleton] at q; subst q; exact l0
  · rcases List.mem_append.mp ha with q | q
    · exact h.one a q
    · rw [List.mem_singleton] at q; subst q; exact key.2
  · have e : shp (ax ++ [(l, st)]) = shp ax ++ [l] := by simp [shp]
    rw [e, prod_snoc, Int.mul_assoc]
    have := Int.mul_le_mul_of_nonneg_left fr.1 (show (0 : Int) ≤ prodL (shp ax) by omega)
    have := h.prd
    omega
  · rw [highS_snoc, lowS_snoc, abs]
    have := h.lf
    dsimp only
    omega
  · rw [lowS_snoc]
    have := h.bl
    dsimp only
    unfold neg0
    by_cases hs : st < 0
    · rw [if_pos hs]
      have : (l - 1) * st ≤ 0 := by
        have := Int.mul_le_mul_of_nonneg_left (show st ≤ 0 by omega) (show (0 : Int) ≤ l - 1 by omega)
        simpa using this
      rw [Int.mul_comm st]
      split <;> omega
    · rw [if_neg hs]
      have : 0 ≤ (l - 1) * st := Int.mul_nonneg (by omega) (by omega)
      rw [if_neg (by omega)]
      omega
theorem parts_step (A : Ad) {cells most room left below b : Int} {ax : Ax} {s : Dr} {x1 x2 x8 x9 x10 x11 : Sl} (h : Pt cells most ax room left below) (hl : ax.length ≤ 1000) (hm : most ≤ 64) (hc : cells ≤ 64) (ok : OkQ qst b s) (hb : b + 3 ≤ 1000000) :
    ∃ ax' room' left' below' y9 y10 y11 s', bd_law_parts_0 A [.sh (.ref A.d), x1, x2, .own (iD (shp ax)), .own (iD (strd ax)), .sh (.int room), .sh (.int left), .sh (.int below), x8, x9, x10, x11] s = .nx [.sh (.ref A.d), x1, x2, .own (iD (shp ax')), .own (iD (strd ax')), .sh (.int room'), .sh (.int left'), .sh (.int below'), x8, y9, y10, y11] s' ∧
      Pt cells most ax' room' left' below' ∧ ax'.length = ax.length + 1 ∧ OkQ qst (b + 3) s' := by
  have pp := prod_pos (xs := shp ax) (by intro x hx; unfold shp at hx; rw [List.mem_map] at hx; obtain ⟨a, ha, rfl⟩ := hx; exact h.pos a ha)
  have r64 : room ≤ 64 := by
    have := Int.mul_le_mul_of_nonneg_right pp (show (0 : Int) ≤ room by have := h.rm; omega)
    have := h.prd
    omega
  have lf : left ≤ 64 := by have := h.lf; have := lowS_le ax; have := highS_ge ax; omega
  have hroom := h.rm
  have hleft := h.lf0
  obtain ⟨t, s1, e1, t0, t1, k1⟩ := take_ok A (n := 4) ok (by omega) (by decide) (by decide)
  obtain ⟨y, ey, hy⟩ := atI_ok (xs := [D.int 2, .int 4, .int 8, .int 64]) (i := t) t0 (by simpa using t1)
  have hy2 : ∃ r : Int, y = .int r ∧ 2 ≤ r ∧ r ≤ 64 := by
    simp only [List.mem_cons, List.not_mem_nil, or_false] at hy
    rcases hy with rfl | rfl | rfl | rfl <;> exact ⟨_, rfl, by decide, by decide⟩
  obtain ⟨n, rfl, n0, n1⟩ := hy2
  have hmin : 1 ≤ (if n < room then n else room) ∧ (if n < room then n else room) ≤ room := by split <;> omega
  obtain ⟨u, s2, e2, u0, u1, k2⟩ := take_ok A (n := if n < room then n else room) k1 (by omega) hmin.1 (by omega)
  have lb : 1 ≤ 1 + u ∧ 1 + u ≤ room := by omega
  have dlen : (iD (shp ax)).length < 100000 := by simp [shp]; omega
  have dlen2 : (iD (strd ax)).length < 100000 := by simp [strd]; omega
  have d1 : CDivG room (1 + u) := divG (by omega) (by omega) (by omega)
  by_cases hl1 : 1 < 1 + u
  · have d2 : CDivG left (1 + u - 1) := divG (by omega) (by omega) (by omega)
    have rb : 0 ≤ left.fdiv (1 + u - 1) ∧ left.fdiv (1 + u - 1) ≤ 64 := by
      refine ⟨Int.fdiv_nonneg hleft (by omega), ?_⟩
      have e := Int.fmod_def left (1 + u - 1)
      have m0 := Int.fmod_nonneg_of_pos left (show (0 : Int) < 1 + u - 1 by omega)
      have z := Int.fdiv_nonneg hleft (show (0 : Int) ≤ 1 + u - 1 by omega)
      have := Int.mul_le_mul_of_nonneg_right (show (1 : Int) ≤ 1 + u - 1 by omega) z
      omega
    obtain ⟨v, s3, e3, v0, v1, k3⟩ := take_ok A (n := 2 * left.fdiv (1 + u - 1) + 1) k2 (by omega) (by omega) (by omega)
    have c1 : CMulG 2 (left.fdiv (1 + u - 1)) := mulG (by decide) (by decide) (by omega) (by omega)
    have st := h.step (l := 1 + u) (reach := left.fdiv (1 + u - 1)) (st := v - left.fdiv (1 + u - 1)) lb.1 lb.2 (by rw [if_pos hl1]) (by omega) (by omega)
    by_cases hs : v - left.fdiv (1 + u - 1) < 0
    · rw [if_pos hs, if_pos hs] at st
      have c2 : CMulG (-(v - left.fdiv (1 + u - 1))) (1 + u - 1) := mulG (by omega) (by omega) (by omega) (by omega)
      have c3 : CMulG (v - left.fdiv (1 + u - 1)) (1 + u - 1) := mulG (by omega) (by omega) (by omega) (by omega)
      refine ⟨_, _, _, _, .sh (.int (1 + u)), .sh (.int (left.fdiv (1 + u - 1))), .sh (.int (v - left.fdiv (1 + u - 1))), s3, ?_, st, by simp, k3.mono (by omega)⟩
      simp only [bd_law_parts_0, mAppend, dMin2, dI2, EE, eEqS, seqS, toS, R.lift, asSeq, asList, asTup, List.replicate, Nat.reduceAdd, Nat.reduceSub, Nat.reduceLeDiff, Nat.reduceLT, Nat.reduceMul, Int.reduceToNat, Int.reduceEq, Int.reduceAdd, Int.reduceSub, Int.reduceNeg, reduceIte, Nat.reduceEqDiff, e1, ey, e2, e3, hl1, d1, d2, c1, hs, c2, c3, dlen, dlen2]
      simp [shp, strd, iD]
    · rw [if_neg hs, if_neg hs] at st
      have c2 : CMulG (v - left.fdiv (1 + u - 1)) (1 + u - 1) := mulG (by omega) (by omega) (by omega) (by omega)
      refine ⟨_, _, _, _, .sh (.int (1 + u)), .sh (.int (left.fdiv (1 + u - 1))), .sh (.int (v - left.fdiv (1 + u - 1))), s3, ?_, st, by simp, k3.mono (by omega)⟩
      simp only [bd_law_parts_0, mAppend, dMin2, dI2, EE, eEqS, seqS, toS, R.lift, asSeq, asList, asTup, List.replicate, Nat.reduceAdd, Nat.reduceSub, Nat.reduceLeDiff, Nat.reduceLT, Nat.reduceMul, Int.reduceToNat, Int.reduceEq, Int.reduceAdd, Int.reduceSub, Int.reduceNeg, reduceIte, Nat.reduceEqDiff, e1, ey, e2, e3, hl1, d1, d2, c1, hs, c2, dlen, dlen2]
      simp [shp, strd, iD]
  · obtain ⟨v, s3, e3, v0, v1, k3⟩ := take_ok A (n := 2 * 0 + 1) k2 (by omega) (by decide) (by decide)
    have c1 : CMulG 2 0 := by decide
    have hv : v = 0 := by omega
    subst hv
    have st := h.step (l := 1 + u) (reach := 0) (st := 0 - 0) lb.1 lb.2 (by rw [if_neg hl1]) (by decide) (by decide)
    have hs : ¬ ((0 : Int) - 0 < 0) := by decide
    rw [if_neg hs, if_neg hs] at st
    have c2 : CMulG 0 (1 + u - 1) := mulG (by decide) (by decide) (by omega) (by omega)
    have hs2 : ¬ ((0 : Int) < 0) := by decide
    refine ⟨_, _, _, _, .sh (.int (1 + u)), .sh (.int 0), .sh (.int (0 - 0)), s3, ?_, st, by simp, k3.mono (by omega)⟩
    simp only [bd_law_parts_0, mAppend, dMin2, dI2, EE, eEqS, seqS, toS, R.lift, asSeq, asList, asTup, List.replicate, Nat.reduceAdd, Nat.reduceSub, Nat.reduceLeDiff, Nat.reduceLT, Nat.reduceMul, Int.reduceToNat, Int.reduceEq, Int.reduceAdd, Int.reduceSub, Int.reduceNeg, reduceIte, Nat.reduceEqDiff, e1, ey, e2, e3, hl1, d1, c1, hs2, c2, dlen, dlen2]
    simp [shp, strd, iD]
theorem law_parts_ok (A : Ad) {cells most b : Int} {s : Dr} (hc0 : 1 ≤ cells) (hc : cells ≤ 64) (hm0 : 1 ≤ most) (hm : most ≤ 64) (ok : OkQ qst b s) (hb : b + 14 ≤ 1000000) :
    ∃ o ax s', m_law_parts A [.ref A.d, .int cells, .int most] s = .ok (ptD o ax) s' ∧ Vw cells most o ax ∧ OkQ qst (b + 14) s' := by
  obtain ⟨t, s1, e1, t0, t1, k1⟩ := take_ok A (n := 5) ok (by omega) (by decide) (by decide)
  obtain ⟨ρ', s2, e2, ax, room, left, below, y8, y9, y10, y11, rfl, hp, hl, k2⟩ := forL_nx (O := O A) (f := fName 8) (mb := bd_law_parts_0 A) t.toNat
    (fun i ρ s => ∃ ax room left below y8 y9 y10 y11, ρ = [.sh (.ref A.d), .sh (.int cells), .sh (.int most), .own (iD (shp ax)), .own (iD (strd ax)), .sh (.int room), .sh (.int left), .sh (.int below), y8, y9, y10, y11] ∧ Pt cells most ax room left below ∧ ax.length = i ∧ OkQ qst (b + 1 + 3 * i) s)
    (by
      rintro i d ρ s hi ⟨ax, room, left, below, y8, y9, y10, y11, rfl, hp, hl, k⟩
      obtain ⟨ax', room', left', below', z9, z10, z11, s', e, hp', hl', k'⟩ := parts_step A (x1 := .sh (.int cells)) (x2 := .sh (.int most)) (x8 := .sh d) (x9 := y9) (x10 := y10) (x11 := y11) hp (by omega) hm hc k (by omega)
      exact ⟨_, rfl, nx_of e ⟨ax', room', left', below', _, z9, z10, z11, rfl, hp', by omega, k'.mono (by omega)⟩⟩)
    (iD (rng t)) (by simp [rng_len]) [.sh (.ref A.d), .sh (.int cells), .sh (.int most), .own [], .own [], .sh (.int most), .sh (.int (cells - 1)), .sh (.int 0), .no, .no, .no, .no] s1
    ⟨[], most, cells - 1, 0, .no, .no, .no, .no, rfl, ⟨by simp, by simp, hm0, by simp [prodL, shp], by simp [highS, lowS], by omega, by simp [lowS]⟩, rfl, k1.mono (by omega)⟩
  obtain ⟨u, s3, e3, u0, u1, k3⟩ := take_ok A (n := left + 1) k2 (by omega) (by have := hp.lf0; omega) (by have := hp.lf; have := lowS_le ax; have := highS_ge ax; omega)
  have e0 := rng1_ok (A := A) (ma := mCons (O A) (mCall (O A) 2 (m_law_take A) (mCons (O A) (mVar (O A) 0) (mCons (O A) (mC (O A) (.int 5)) (mNil (O A))))) (mNil (O A))) (ρ := [.sh (.ref A.d), .sh (.int cells), .sh (.int most), .own [], .own [], .sh (.int most), .sh (.int (cells - 1)), .sh (.int 0), .no, .no, .no, .no]) (s := s) (s' := s1) (l := t) (by simp only [EE, eEqS, seqS, toS, R.lift, asSeq, asList, asTup, List.replicate, Nat.reduceAdd, Nat.reduceSub, Nat.reduceLeDiff, Nat.reduceLT, Nat.reduceMul, Int.reduceToNat, Int.reduceEq, Int.reduceAdd, Int.reduceSub, Int.reduceNeg, reduceIte, Nat.reduceEqDiff, e1]) (by omega) (by omega)
  have to1 : dTupOf [.lst (iD (shp ax))] = some (.tup (iD (shp ax))) := rfl
  have to2 : dTupOf [.lst (iD (strd ax))] = some (.tup (iD (strd ax))) := rfl
  have pp := hp.prd
  have hr := hp.rm
  have pos := prod_pos (xs := shp ax) (by intro x hx; unfold shp at hx; rw [List.mem_map] at hx; obtain ⟨a, ha, rfl⟩ := hx; exact hp.pos a ha)
  have := Int.mul_le_mul_of_nonneg_left hr (show (0 : Int) ≤ prodL (shp ax) by omega)
  refine ⟨below + u, ax, s3, ?_, ⟨by omega, hp.pos, hp.one, by omega, by have := hp.bl; omega, by have := hp.bl; have := hp.lf; omega⟩, k3.mono (by omega)⟩
  simp only [m_law_parts, mb_law_parts, mOwn, mDisp, listMax, mFrz, EE, eEqS, seqS, toS, R.lift, asSeq, asList, asTup, List.replicate, Nat.reduceAdd, Nat.reduceSub, Nat.reduceLeDiff, Nat.reduceLT, Nat.reduceMul, Int.reduceToNat, Int.reduceEq, Int.reduceAdd, Int.reduceSub, Int.reduceNeg, reduceIte, Nat.reduceEqDiff, e0, e2, frzE, e3, to1, to2]
  rfl
end S
namespace S
open PySem PySem.Spec PyProof.Rows L2 RZ Mr
theorem lt_of_some {α : Type} {l : List α} {n : Nat} {x : α} (h : l[n]? = some x) : n < l.length := by
  rcases Nat.lt_or_ge n l.length with q | q
  · exact q
  · rw [List.getElem?_eq_none q] at h; cases h
section
variable {β : Type}
theorem valP_map (kvs : List (Key × β)) (k k' : Key) (v : β) : valP (kvs.map fun kv => if kv.1 = k then (kv.1, v) else kv) k' = if k' = k then (valP kvs k').map fun _ => v else valP kvs k' := by
  induction kvs with
  | nil => simp [valP]
  | cons p kvs ih =>
    obtain ⟨a, b⟩ := p
    unfold valP at ih ⊢
    rw [List.map_cons, List.find?_cons, List.find?_cons]
    by_cases h1 : a = k
    · subst h1
      by_cases h2 : a = k'
      · subst h2; simp
      · have : ¬ k' = a := fun z => h2 z.symm
        simp only [if_true, h2, decide_false, this, if_false] at ih ⊢
        exact ih
    · by_cases h2 : a = k'
      · subst h2; simp [h1]
      · simp only [h1, if_false, h2, decide_false] at ih ⊢
        exact ih
theorem any_val (kvs : List (Key × β)) (k : Key) : (kvs.any fun kv => decide (kv.1 = k)) = (valP kvs k).isSome := by
  unfold valP
  rw [Option.isSome_map]
  induction kvs with
  | nil => rfl
  | cons p kvs ih =>
    rw [List.any_cons, List.find?_cons]
    cases decide (p.1 = k) with
    | true => rfl
    | false => rw [Bool.false_or]; exact ih
theorem valP_app (kvs : List (Key × β)) (k k' : Key) (v : β) (h : valP kvs k = none) : valP (kvs ++ [(k, v)]) k' = if k' = k then some v else valP kvs k' := by
  unfold valP at h ⊢
  rw [List.find?_append]
  by_cases e : k' = k
  · subst e
    have h := Option.map_eq_none_iff.mp h
    rw [h]
    simp
  · have : ¬ k = k' := fun z => e z.symm
    simp [e, this]
theorem valP_put (kvs : List (Key × β)) (k k' : Key) (v : β) : valP (putP kvs k v) k' = if k' = k then some v else valP kvs k' := by
  unfold putP
  rw [any_val]
  cases h : valP kvs k with
  | some w =>
    rw [if_pos (show (some w).isSome = true from rfl), valP_map]
    by_cases e : k' = k
    · subst e; simp [h]
    · simp [e]
  | none =>
    rw [if_neg (by simp), valP_app _ _ _ _ h]
theorem putP_len' (kvs : List (Key × β)) (k : Key) (v : β) (h : (valP kvs k).isSome = true) : (putP kvs k v).length = kvs.length := by
  unfold putP
  rw [any_val, if_pos h, List.length_map]
theorem putP_keys (kvs : List (Key × β)) (k : Key) (v : β) : (putP kvs k v).map (·.1) = if (valP kvs k).isSome = true then kvs.map (·.1) else kvs.map (·.1) ++ [k] := by
  unfold putP
  rw [any_val]
  split
  · rw [List.map_map]
    refine List.map_congr_left fun p _ => ?_
    simp only [Function.comp]
    split <;> rfl
  · rw [List.map_append]; rfl
theorem valP_mem {kvs : List (Key × β)} {k : Key} : (valP kvs k).isSome = true ↔ k ∈ kvs.map (·.1) := by
  rw [← any_val, List.any_eq_true]
  constructor
  · rintro ⟨p, hp, e⟩
    exact List.mem_map.mpr ⟨p, hp, by simpa using e⟩
  · intro h
    obtain ⟨p, hp, e⟩ := List.mem_map.mp h
    exact ⟨p, hp, by simpa using e⟩
theorem valP_none {kvs : List (Key × β)} {k : Key} : valP kvs k = none ↔ k ∉ kvs.map (·.1) := by
  rw [← valP_mem]
  cases valP kvs k <;> simp
end
/-- kvs tells the function h -/
structure DI {α : Type} (t : α → D) (kvs : List (Key × D)) (h : Int → Option α) : Prop where
  ky : ∀ k ∈ kvs.map (·.1), ∃ c : Int, k = .inl c
  vl : ∀ c : Int, valP kvs (.inl c) = (h c).map t
  nd : (kvs.map (·.1)).Nodup
def fset {α : Type} (h : Int → Option α) (c : Int) (v : α) : Int → Option α := fun d => if d = c then some v else h d
section
variable {α : Type} {t : α → D} {kvs : List (Key × D)} {h : Int → Option α}
theorem DI.nil : DI t [] (fun _ => none) := ⟨fun k hk => absurd hk List.not_mem_nil, fun c => rfl, List.nodup_nil⟩
theorem nodup_snoc {β : Type} {l : List β} {x : β} (h : l.Nodup) (hx : x ∉ l) : (l ++ [x]).Nodup := by
  rw [List.nodup_append]
  refine ⟨h, by simp, ?_⟩
  intro a ha b hb
  rw [List.mem_singleton] at hb
  subst hb
  intro e
  exact hx (e ▸ ha)
theorem DI.put (H : DI t kvs h) (c : Int) (v : α) : DI t (putP kvs (.inl c) (t v)) (fset h c v) := by
  refine ⟨fun k hk => ?_, fun d => ?_, ?_⟩
  · rw [putP_keys] at hk
    split at hk
    · exact H.ky k hk
    · rcases List.mem_append.mp hk with hk | hk
      · exact H.ky k hk
      · rw [List.mem_singleton] at hk; exact ⟨c, hk⟩
  · rw [valP_put]
    unfold fset
    by_cases e : d = c
    · subst e; simp
    · have : ¬ (Sum.inl d : Key) = .inl c := fun z => e (by cases z; rfl)
      rw [if_neg this, if_neg e]
      exact H.vl d
  · rw [putP_keys]
    split
    · exact H.nd
    · rename_i z
      exact nodup_snoc H.nd (fun q => z (valP_mem.mpr q))
theorem DI.some_ (H : DI t kvs h) (c : Int) : (valP kvs (.inl c)).isSome = (h c).isSome := by rw [H.vl, Option.isSome_map]
theorem DI.mem (H : DI t kvs h) (c : Int) : (.inl c : Key) ∈ kvs.map (·.1) ↔ (h c).isSome = true := by rw [← valP_mem, H.some_]
theorem DI.len (H : DI t kvs h) {c : Int} {v : α} (e : (h c).isSome = true) : (putP kvs (.inl c) (t v)).length = kvs.length := putP_len' _ _ _ (by rw [H.some_]; exact e)
/-- its keys, as ints -/
theorem DI.keys (H : DI t kvs h) : ∃ ns : List Int, kvs.map (·.1) = ns.map Sum.inl ∧ keysI kvs = some ns ∧ ns.Nodup ∧ ns.length = kvs.length ∧ ∀ c, c ∈ ns ↔ (h c).isSome = true := by
  have key : ∀ kvs : List (Key × D), (∀ k ∈ kvs.map (·.1), ∃ c : Int, k = .inl c) → ∃ ns : List Int, kvs.map (·.1) = ns.map Sum.inl ∧ keysI kvs = some ns ∧ ns.length = kvs.length := by
    intro kvs
    induction kvs with
    | nil => exact fun _ => ⟨[], rfl, rfl, rfl⟩
    | cons p kvs ih =>
      intro hk
      obtain ⟨ns, e1, e2, e3⟩ := ih fun k q => hk k (by rw [List.map_cons]; exact List.mem_cons_of_mem _ q)
      obtain ⟨c, e⟩ := hk p.1 (by rw [List.map_cons]; exact List.mem_cons_self)
      obtain ⟨pk, pv⟩ := p
      dsimp only at e
      subst e
      exact ⟨c :: ns, by rw [List.map_cons, List.map_cons, e1], by simp only [keysI, e2, Option.map_some], by rw [List.length_cons, List.length_cons, e3]⟩
  obtain ⟨ns, e1, e2, e3⟩ := key kvs H.ky
  refine ⟨ns, e1, e2, ?_, e3, fun c => ?_⟩
  · have := H.nd
    rw [e1] at this
    exact List.Pairwise.of_map _ (fun a b hab z => hab (by rw [z])) this
  · rw [← H.mem, e1, List.mem_map]
    exact ⟨fun hc => ⟨c, hc, rfl⟩, fun ⟨d, hd, e⟩ => by cases e; exact hd⟩
end
end S
namespace S
open PySem PySem.Spec PyProof.Rows L2 RZ Mr
noncomputable section
end
end S
namespace S
open PySem PySem.Spec PyProof.Rows L2 RZ Mr
noncomputable section
def lc_law_same_2_0 (A : Ad) (mrec : List D → Dr → R Dr D) : MA (O A) :=
  (mLcS (O A) (mJZ (O A) (mCons (O A) (mVar (O A) 0) (mCons (O A) (mVar (O A) 1) (mNil (O A))))) (fTup 2 (fCons (fName 2) (fCons (fName 3) fNil))) (mYes (O A)) (mCall (O A) 2 mrec (mCons (O A) (mVar (O A) 2) (mCons (O A) (mVar (O A) 3) (mNil (O A))))) [2, 3])
def mb_law_same_2 (A : Ad) (mrec : List D → Dr → R Dr D) : MS (O A) :=
  (mSeq (O A) (mIfS (O A) (mTruthS (O A) (mIsTS (O A) (mVar (O A) 1) (mCons (O A) (mC (O A) (.ty "list")) (mCons (O A) (mC (O A) (.ty "tuple")) (mNil (O A))))))
  (mSeq (O A) (mIfS (O A) (mOr (O A) (mTest (O A) (mBinS (O A) (liftO dNe) (mClS (O A) dIsIS (mCons (O A) (mVar (O A) 0) (mCons (O A) (mC (O A) (.ty "list")) (mNil (O A))))) (mClS (O A) dIsIS (mCons (O A) (mVar (O A) 1) (mCons (O A) (mC (O A) (.ty "list")) (mNil (O A))))))) (mTest (O A) (mBinS (O A) (liftO dNe) (mClS (O A) dIsIS (mCons (O A) (mVar (O A) 0) (mCons (O A) (mC (O A) (.ty "tuple")) (mNil (O A))))) (mClS (O A) dIsIS (mCons (O A) (mVar (O A) 1) (mCons (O A) (mC (O A) (.ty "tuple")) (mNil (O A))))))))
  (mRet (O A) (mC (O A) (.bl false)))
  (mNext (O A)))
  (mRet (O A) (mAndV (O A) (mBinS (O A) (liftO dEq) (mClS (O A) dLenS (mCons (O A) (mVar (O A) 0) (mNil (O A)))) (mClS (O A) dLenS (mCons (O A) (mVar (O A) 1) (mNil (O A))))) (mCl (O A) dAll (mCons (O A) (mLst (O A) (lc_law_same_2_0 A mrec)) (mNil (O A)))))))
  (mNext (O A)))
  (mSeq (O A) (mIfS (O A) (mTruthS (O A) (mIsTS (O A) (mVar (O A) 1) (mCons (O A) (mC (O A) (.ty "bool")) (mCons (O A) (mC (O A) (.ty "int")) (mNil (O A))))))
  (mRet (O A) (mAndV (O A) (mClS (O A) dIsIS (mCons (O A) (mVar (O A) 0) (mCons (O A) (mC (O A) (.ty "int")) (mNil (O A))))) (mAndV (O A) (mBinS (O A) (liftO dEq) (mClS (O A) dIsIS (mCons (O A) (mVar (O A) 0) (mCons (O A) (mC (O A) (.ty "bool")) (mNil (O A))))) (mClS (O A) dIsIS (mCons (O A) (mVar (O A) 1) (mCons (O A) (mC (O A) (.ty "bool")) (mNil (O A)))))) (mBinS (O A) (liftO dEq) (mVar (O A) 0) (mVar (O A) 1)))))
  (mNext (O A)))
  (mRet (O A) (mAndV (O A) (mBin (O A) dIs (mClS (O A) dIsIS (mCons (O A) (mVar (O A) 0) (mCons (O A) (mC (O A) (.ty "bool")) (mNil (O A))))) (mC (O A) (.bl false))) (mBinS (O A) (liftO dEq) (mVar (O A) 0) (mVar (O A) 1))))))
def mN_law_same_2 (A : Ad) : Nat → List D → Dr → R Dr D
  | 0 => fun _ _ => .bad
  | n + 1 => runF (O A) 4 (mb_law_same_2 A (mN_law_same_2 A n))
def m_law_same_2 (A : Ad) : List D → Dr → R Dr D := mN_law_same_2 A 4
end
end S
namespace S
open PySem PySem.Spec PyProof.Rows L2 RZ Mr
section
variable {β γ : Type}
def mapv (t : β → γ) (l : List (Key × β)) : List (Key × γ) := l.map fun e => (e.1, t e.2)
end
abbrev Tb := Int × List Int
structure AM where
  tab : List (Key × Tb)
  nxt : Int
  cc : Int
  mc : Int
  hol : List (Key × Int)
  crt : Int
  cont : Int → List Int
  sav : List (List (Key × Tb) × Int)
def tabV (e : Tb) : D := .tup [.int e.1, .tup (iD e.2)]
inductive Ro where
  | mem | pgs | tab | sav | con | hol | pg (p : Int) | sn (k : Nat)
  deriving DecidableEq
/-- where a memory stands in the store -/
structure Ly where
  ix : Ro → Option Nat
  loc : List (Key × Nat)
def Ly.g (L : Ly) (r : Ro) : Nat := (L.ix r).getD 0
def obR (A : Ad) (M : AM) (L : Ly) : Ro → Ob
  | .mem => .ins (A.k .Memory) [("stored", .obj (L.g .pgs)), ("tables", .obj (L.g .tab)), ("following", .int M.nxt), ("saved", .obj (L.g .sav)), ("copy_count", .int M.cc), ("move_count", .int M.mc)]
  | .pgs => .ins (A.k .Pages) [("contents", .obj (L.g .con)), ("holders", .obj (L.g .hol)), ("created", .int M.crt)]
  | .tab => .dct (mapv tabV M.tab)
  | .con => .dct (mapv D.obj L.loc)
  | .hol => .dct (mapv D.int M.hol)
  | .sav => .lst ((List.range M.sav.length).map fun k => .tup [.obj (L.g (.sn k)), .int ((M.sav.map (·.2)).getD k 0)])
  | .pg p => .lst (iD (M.cont p))
  | .sn k => .dct (mapv tabV ((M.sav.map (·.1)).getD k []))
structure Lay (A : Ad) (l : List Ob) (M : AM) (L : Ly) : Prop where
  at_ : ∀ r j, L.ix r = some j → l[j]? = some (obR A M L r)
  inj : ∀ r r' j, L.ix r = some j → L.ix r' = some j → r = r'
  mem : (L.ix .mem).isSome = true
  pgs : (L.ix .pgs).isSome = true
  tab : (L.ix .tab).isSome = true
  sav : (L.ix .sav).isSome = true
  con : (L.ix .con).isSome = true
  hol : (L.ix .hol).isSome = true
  pgx : ∀ p, L.ix (.pg p) = valP L.loc (.inl p)
  snx : ∀ k, (L.ix (.sn k)).isSome = true ↔ k < M.sav.length
  ky : L.loc.map (·.1) = M.hol.map (·.1)
/-- the rest of the store stays; what the memory takes is its own or new -/
structure Fr (l : List Ob) (L : Ly) (l' : List Ob) (L' : Ly) : Prop where
  len : l.length ≤ l'.length
  off : ∀ i, i < l.length → (∀ r, L.ix r ≠ some i) → l'[i]? = l[i]?
  own : ∀ r i, L'.ix r = some i → (∃ r', L.ix r' = some i) ∨ l.length ≤ i
  mem : L'.ix .mem = L.ix .mem
  pgs : L'.ix .pgs = L.ix .pgs
theorem Fr.refl (l : List Ob) (L : Ly) : Fr l L l L := ⟨Nat.le_refl _, fun _ _ _ => rfl, fun r i h => .inl ⟨r, h⟩, rfl, rfl⟩
theorem Fr.trans {l l1 l2 : List Ob} {L L1 L2 : Ly} (a : Fr l L l1 L1) (b : Fr l1 L1 l2 L2) : Fr l L l2 L2 := by
  refine ⟨Nat.le_trans a.len b.len, fun i hi hn => ?_, fun r i h => ?_, b.mem.trans a.mem, b.pgs.trans a.pgs⟩
  · rw [b.off i (Nat.lt_of_lt_of_le hi a.len) fun r e => ?_, a.off i hi hn]
    rcases a.own r i e with ⟨r', e'⟩ | e'
    · exact hn r' e'
    · omega
  · rcases b.own r i h with ⟨r', e'⟩ | e'
    · exact a.own r' i e'
    · exact .inr (Nat.le_trans a.len e')
section
variable {A : Ad} {l : List Ob} {M : AM} {L : Ly}
theorem Lay.g (h : Lay A l M L) {r : Ro} (hr : (L.ix r).isSome = true) : L.ix r = some (L.g r) := by
  unfold Ly.g
  obtain ⟨j, e⟩ := Option.isSome_iff_exists.mp hr
  rw [e]
  rfl
theorem Lay.ne (h : Lay A l M L) {r r' : Ro} (hr : (L.ix r).isSome = true) (hr' : (L.ix r').isSome = true) (n : r ≠ r') : L.g r ≠ L.g r' := fun e => by
  have h1 := h.g hr
  have h2 := h.g hr'
  rw [← e] at h2
  exact n (h.inj _ _ _ h1 h2)
theorem Lay.lt (h : Lay A l M L) {r : Ro} {j : Nat} (hr : L.ix r = some j) : j < l.length := by
  have := h.at_ r j hr
  rcases Nat.lt_or_ge j l.length with q | q
  · exact q
  · rw [List.getElem?_eq_none q] at this; cases this
/-- the same memory in another store that agrees where it stands -/
theorem Lay.of (h : Lay A l M L) {l' : List Ob} (e : ∀ r j, L.ix r = some j → l'[j]? = l[j]?) : Lay A l' M L := ⟨fun r j hr => by rw [e r j hr]; exact h.at_ r j hr, h.inj, h.mem, h.pgs, h.tab, h.sav, h.con, h.hol, h.pgx, h.snx, h.ky⟩
theorem Lay.push (h : Lay A l M L) (o : Ob) : Lay A (l ++ [o]) M L := h.of fun r j hr => by rw [List.getElem?_append_left (h.lt hr)]
theorem Fr.push (l : List Ob) (L : Ly) (o : Ob) : Fr l L (l ++ [o]) L := ⟨by simp, fun i hi _ => by rw [List.getElem?_append_left hi], fun r i h => .inl ⟨r, h⟩, rfl, rfl⟩
end
def sto (s : Dr) (l : List Ob) : Dr := { s with st := l }
theorem sto_st (s : Dr) (l : List Ob) : (sto s l).st = l := rfl
theorem sto_sto (s : Dr) (l l' : List Ob) : sto (sto s l) l' = sto s l' := rfl
theorem _root_.Mr.OkQ.sto {q : List Ob} {b : Int} {s : Dr} (k : OkQ q b s) (l : List Ob) : OkQ l b (S.sto s l) := k.put l
section
variable {A : Ad} {l : List Ob} {M : AM} {L : Ly} {s : Dr} {ρ : Ev}
end
end S
namespace S
open PySem PySem.Spec PyProof.Rows L2 RZ Mr
def addP (M : AM) (xs : List Int) : AM := { M with hol := putP M.hol (.inl M.crt) 1, crt := M.crt + 1, cont := fun p => if p = M.crt then xs else M.cont p }
section
variable {A : Ad} {l : List Ob} {M : AM} {L : Ly} {s : Dr} {ρ : Ev}
end
end S
namespace S
open PySem PySem.Spec PyProof.Rows L2 RZ Mr
theorem indsF_snoc (l : Int) : ∀ (sh : List Int) (is : List (List Int)), indsF (sh ++ [l]) is = (indsF sh is).flatMap fun i => (rng l).map fun k => i ++ [k]
  | [], is => rfl
  | x :: sh, is => by
    show indsF (sh ++ [l]) _ = _
    rw [indsF_snoc l sh]
    rfl
theorem snoc_ind {P : List Int → Prop} (h0 : P []) (h1 : ∀ xs x, P xs → P (xs ++ [x])) : ∀ xs, P xs := by
  intro xs
  have : ∀ n (xs : List Int), xs.length = n → P xs := by
    intro n
    induction n with
    | zero => intro xs h; rw [List.length_eq_zero_iff.mp h]; exact h0
    | succ n ih =>
      intro xs h
      have hne : xs ≠ [] := by intro e; rw [e] at h; cases h
      rw [← List.dropLast_concat_getLast hne]
      exact h1 _ _ (ih _ (by rw [List.length_dropLast]; omega))
  exact this _ xs rfl
theorem inds_len : ∀ sh : List Int, (∀ l ∈ sh, 1 ≤ l) → ((indsL sh).length : Int) = prodL sh := by
  refine snoc_ind (by intro _; rfl) ?_
  intro sh l ih h
  have := ih fun x hx => h x (List.mem_append_left _ hx)
  have l1 := h l (by simp)
  unfold indsL at this ⊢
  rw [indsF_snoc, flat_len _ _ l.toNat (fun i _ => by rw [List.length_map, rng_len]), prod_snoc, Int.natCast_mul, this, Int.toNat_of_nonneg (by omega)]
theorem valP_snoc {β : Type} (kvs : List (Key × β)) (k k' : Key) (v : β) : valP (kvs ++ [(k, v)]) k' = (valP kvs k').or (if k = k' then some v else none) := by
  unfold valP
  rw [List.find?_append]
  cases h : List.find? (fun kv => decide (kv.1 = k')) kvs with
  | some z => rfl
  | none =>
    simp only [Option.none_or, Option.map_none, List.find?_cons, List.find?_nil]
    split
    · rename_i hk
      rw [if_pos (by simpa using hk)]
      rfl
    · rename_i hk
      rw [if_neg (by simpa using hk)]
      rfl
theorem valP_any {β : Type} {kvs : List (Key × β)} {k : Key} (h : valP kvs k = none) : (kvs.any fun kv => decide (kv.1 = k)) = false := by
  unfold valP at h
  rw [Option.map_eq_none_iff, List.find?_eq_none] at h
  rw [List.any_eq_false]
  exact h
/-- the dict of the first places of cells -/
def Fst (kds : List (Key × D)) (cs : List Int) : Prop := (∀ c : Int, valP kds (.inl c) = (cs.findIdx? fun x => decide (x = c)).map fun (j : Nat) => D.int (j : Int)) ∧ kds.length ≤ cs.length
theorem Fst.step {kds : List (Key × D)} {cs : List Int} (h : Fst kds cs) (c : Int) : Fst (if (valP kds (.inl c)).isSome = true then kds else putP kds (.inl c) (.int (cs.length : Int))) (cs ++ [c]) := by
  by_cases hs : (valP kds (.inl c)).isSome = true
  · rw [if_pos hs]
    refine ⟨fun c' => ?_, by rw [List.length_append]; have := h.2; omega⟩
    rw [h.1 c', List.findIdx?_append]
    cases e : cs.findIdx? fun x => decide (x = c') with
    | some j => rfl
    | none =>
      by_cases hc : c = c'
      · subst hc
        rw [h.1 c, e] at hs
        cases hs
      · simp [hc]
  · rw [if_neg hs]
    have hn : valP kds (.inl c) = none := by simpa using hs
    have hp : putP kds (.inl c) (.int (cs.length : Int)) = kds ++ [(.inl c, .int (cs.length : Int))] := by
      unfold putP
      rw [valP_any hn]
      rfl
    rw [hp]
    refine ⟨fun c' => ?_, by rw [List.length_append, List.length_append]; have := h.2; simp; omega⟩
    rw [valP_snoc, h.1 c', List.findIdx?_append]
    cases e : cs.findIdx? fun x => decide (x = c') with
    | some j => rfl
    | none =>
      by_cases hc : c = c'
      · subst hc
        simp
      · simp [hc]
end S
namespace S
open PySem PySem.Spec PyProof.Rows L2 RZ Mr
theorem Vw.mono {c m c' m' o : Int} {ax : Ax} (h : Vw c m o ax) (hc : c ≤ c') (hm : m ≤ m') : Vw c' m' o ax := ⟨h.len, h.pos, h.one, Int.le_trans h.prd hm, h.low, by have := h.high; omega⟩
theorem Vw.shp {c m o : Int} {ax : Ax} (h : Vw c m o ax) (hm : m ≤ 64) : ∀ l ∈ shp ax, 1 ≤ l ∧ l ≤ 64 := by
  have pos : ∀ x ∈ S.shp ax, 1 ≤ x := by
    intro x hx
    unfold S.shp at hx
    rw [List.mem_map] at hx
    obtain ⟨a, ha, rfl⟩ := hx
    exact h.pos a ha
  intro l hl
  have := view_reason_ok.le_prod pos hl
  have := h.prd
  exact ⟨pos l hl, by omega⟩
theorem Vw.shl {c m o : Int} {ax : Ax} (h : Vw c m o ax) : (S.shp ax).length ≤ 100 := by have := h.len; simp [S.shp]; omega
/-- the first place of a cell -/
def fstAt (cs : List Int) (c : Int) : Nat := (cs.findIdx? fun x => decide (x = c)).getD 0
theorem fst_some {cs : List Int} {c : Int} (h : c ∈ cs) : (cs.findIdx? fun x => decide (x = c)) = some (fstAt cs c) ∧ fstAt cs c < cs.length := by
  unfold fstAt
  cases e : cs.findIdx? fun x => decide (x = c) with
  | none =>
    rw [List.findIdx?_eq_none_iff] at e
    have := e c h
    simp at this
  | some j =>
    obtain ⟨hl, _⟩ := List.findIdx?_eq_some_iff_getElem.mp e
    exact ⟨rfl, hl⟩
theorem fst_none {cs : List Int} {c : Int} (h : ¬ c ∈ cs) : (cs.findIdx? fun x => decide (x = c)) = none := by
  rw [List.findIdx?_eq_none_iff]
  intro x hx
  simp
  intro e
  exact h (e ▸ hx)
theorem Fst.has {kds : List (Key × D)} {cs : List Int} (h : Fst kds cs) (c : Int) : dInK (.int c) (.dct kds) = some (.bl (decide (c ∈ cs))) ∧ dNotInK (.int c) (.dct kds) = some (.bl (!decide (c ∈ cs))) := by
  have e : (valP kds (.inl c)).isSome = decide (c ∈ cs) := by
    rw [h.1 c]
    by_cases hc : c ∈ cs
    · rw [(fst_some hc).1]; simp [hc]
    · rw [fst_none hc]; simp [hc]
  simp only [dInK, dNotInK, toKey, e, and_self]
theorem Fst.get {kds : List (Key × D)} {cs : List Int} (h : Fst kds cs) {c : Int} (hc : c ∈ cs) : dGetK (.dct kds) (.int c) = some (.int (fstAt cs c : Int)) := by
  simp only [dGetK, toKey, h.1 c, (fst_some hc).1]
  rfl
end S
namespace S
open PySem PySem.Spec PyProof.Rows L2 RZ Mr
end S
namespace S
open PySem PySem.Spec PyProof.Rows L2 RZ Mr
section
variable {A : Ad} {l : List Ob} {M : AM} {L : Ly} {s : Dr} {ρ : Ev}
end
end S
namespace S
open PySem PySem.Spec PyProof.Rows L2 RZ Mr
section
variable {A : Ad} {l : List Ob} {M : AM} {L : Ly} {s : Dr} {ρ : Ev}
def hAt (M : AM) (p : Int) : Int := (valP M.hol (.inl p)).getD 0
def tabOf (M : AM) (b : Int) : Option Tb := valP M.tab (.inl b)
def rowOf (M : AM) (ps : List Int) : List Int := ps.flatMap M.cont
end
end S
namespace S
open PySem PySem.Spec PyProof.Rows L2 RZ Mr
def npg (n : Nat) : Nat := (n + 7) / 8
theorem cut_mid (xs : List D) (a b : Nat) : cutD xs (some (a : Int)) (some (b : Int)) = (xs.drop a).take (b - a) := by
  unfold Mr.cutD
  rw [HT.sIx_nat, HT.sIx_nat]
  by_cases h : a ≤ xs.length
  · rw [Nat.min_eq_left h]
    by_cases h2 : b ≤ xs.length
    · rw [Nat.min_eq_left h2]
    · rw [Nat.min_eq_right (by omega), List.take_of_length_le (by simp), List.take_of_length_le (by simp; omega)]
  · rw [Nat.min_eq_right (show xs.length ≤ a by omega)]
    rw [List.drop_of_length_le (Nat.le_refl _), List.drop_of_length_le (show xs.length ≤ a by omega), List.take_nil, List.take_nil]
section
variable {A : Ad} {l : List Ob} {M : AM} {L : Ly} {s : Dr} {ρ : Ev}
/-- the pages known are below the next one -/
def Below (M : AM) : Prop := ∀ k ∈ M.hol.map (·.1), ∃ p : Int, k = .inl p ∧ 0 ≤ p ∧ p < M.crt
theorem Below.fresh (b : Below M) (h : Lay A l M L) : valP L.loc (.inl M.crt) = none := by
  rw [valP_none, h.ky]
  intro hm
  obtain ⟨p, e, _, h2⟩ := b _ hm
  cases e
  omega
theorem Below.add (b : Below M) (h0 : 0 ≤ M.crt) (xs : List Int) : Below (addP M xs) := by
  intro k hk
  show ∃ p : Int, k = .inl p ∧ 0 ≤ p ∧ p < M.crt + 1
  have hk : k ∈ (putP M.hol (.inl M.crt) 1).map (·.1) := hk
  rw [putP_keys] at hk
  split at hk
  · obtain ⟨p, e, h1, h2⟩ := b k hk
    exact ⟨p, e, h1, by omega⟩
  · rcases List.mem_append.mp hk with hk | hk
    · obtain ⟨p, e, h1, h2⟩ := b k hk
      exact ⟨p, e, h1, by omega⟩
    · rw [List.mem_singleton] at hk
      exact ⟨M.crt, hk, h0, by omega⟩
theorem addP_len (M : AM) (xs : List Int) : (addP M xs).hol.length ≤ M.hol.length + 1 := putP_len _ _ _
end
end S
namespace S
open PySem PySem.Spec PyProof.Rows L2 RZ Mr
section
variable {A : Ad} {l : List Ob} {M : AM} {L : Ly} {s : Dr} {ρ : Ev}
end
end S
namespace S
open PySem PySem.Spec PyProof.Rows L2 RZ Mr
section
variable {A : Ad} {l : List Ob} {M : AM} {L : Ly} {s : Dr} {ρ : Ev}
def pcl (at_ n : Nat) : List Int := (List.range (min n (8 * at_ + 8) - 8 * at_)).map fun (k : Nat) => ((8 * at_ + k : Nat) : Int)
theorem pcl_len (at_ n : Nat) : (pcl at_ n).length = min n (8 * at_ + 8) - 8 * at_ := by simp [pcl]
/-- what stands in a page after its changed cells have been written -/
def wrP (ch : List (Key × Int)) (xs : List Int) (cs : List Int) : List Int := cs.foldl (fun xs c => xs.set (c.fmod 8).toNat ((valP ch (.inl c)).getD 0)) xs
end
end S
namespace S
open PySem PySem.Spec PyProof.Rows L2 RZ Mr
section
variable {A : Ad} {l : List Ob} {M : AM} {L : Ly} {s : Dr} {ρ : Ev}
def chgd (ch : List (Key × Int)) (at_ n : Nat) : List Int := (pcl at_ n).filter fun c => (valP ch (.inl c)).isSome
/-- the slots of a buffer of n cells -/
structure SlOk (M : AM) (n : Nat) (ps : List Int) : Prop where
  len : ps.length = npg n
  n64 : n ≤ 64
  held : ∀ p ∈ ps, (valP M.hol (.inl p)).isSome = true
  cl : ∀ (i : Nat) (p : Int), ps[i]? = some p → (M.cont p).length = (pcl i n).length
end
end S
namespace S
open PySem PySem.Spec PyProof.Rows L2 RZ Mr
section
variable {A : Ad} {l : List Ob} {M : AM} {L : Ly} {s : Dr} {ρ : Ev}
end
end S
namespace S
open PySem PySem.Spec PyProof.Rows L2 RZ Mr
def slotsT (t : List (Key × Tb)) : List Int := t.flatMap fun e => e.2.2
def savS (M : AM) : List Int := M.sav.flatMap fun e => slotsT e.1
def slots (M : AM) : List Int := slotsT M.tab ++ savS M
def savB (M : AM) : List Tb := M.sav.flatMap fun e => e.1.map (·.2)
def bufs (M : AM) : List Tb := M.tab.map (·.2) ++ savB M
def BufOk (M : AM) (e : Tb) : Prop := ∃ m : Nat, e.1 = (m : Int) ∧ 1 ≤ m ∧ m ≤ 64 ∧ e.2.length = npg m ∧ ∀ (i : Nat) (p : Int), e.2[i]? = some p → (M.cont p).length = (pcl i m).length
structure Wf (M : AM) : Prop where
  nd : (M.tab.map (·.1)).Nodup
  tk : ∀ k ∈ M.tab.map (·.1), ∃ b : Int, k = .inl b ∧ 0 ≤ b ∧ b < M.nxt
  nx : 0 ≤ M.nxt
  hc : ∀ p, hAt M p = ((slots M).count p : Nat)
  hs : ∀ p, (valP M.hol (.inl p)).isSome = true ↔ 0 < (slots M).count p
  be : Below M
  c0 : 0 ≤ M.crt
  ok : ∀ e ∈ bufs M, BufOk M e
theorem mem_slotsT {t : List (Key × Tb)} {e : Key × Tb} (h : e ∈ t) {p : Int} (hp : p ∈ e.2.2) : p ∈ slotsT t := List.mem_flatMap.mpr ⟨e, h, hp⟩
theorem count_mem {ps : List Int} {p : Int} (h : p ∈ ps) : 1 ≤ ps.count p := List.count_pos_iff.mpr h
theorem pcl_len8 (i m : Nat) : (pcl i m).length = min m (8 * i + 8) - 8 * i := pcl_len i m
theorem flatG : ∀ (xs : List (List Int)) (m : Nat), xs.length = npg m → (∀ i x, xs[i]? = some x → x.length = min m (8 * i + 8) - 8 * i) → xs.flatten.length = m ∧ ∀ c, c < m → xs.flatten[c]? = (xs.getD (c / 8) [])[c % 8]?
  | [], m, hl, _ => by
    have : m = 0 := by simp [npg] at hl; omega
    subst this
    exact ⟨rfl, fun c hc => absurd hc (Nat.not_lt_zero _)⟩
  | x :: xs, m, hl, h => by
    have hx := h 0 x rfl
    rw [List.length_cons] at hl
    unfold npg at hl
    by_cases q : m ≤ 8
    · have e : xs = [] := List.eq_nil_of_length_eq_zero (by omega)
      subst e
      refine ⟨by simp; omega, fun c hc => ?_⟩
      have e1 : c / 8 = 0 := by omega
      have e2 : c % 8 = c := by omega
      rw [e1, e2]
      simp
    · have hx : x.length = 8 := by omega
      obtain ⟨h1, h2⟩ := flatG xs (m - 8) (by unfold npg; omega) (fun i y hy => by
        have := h (i + 1) y (by simpa using hy)
        omega)
      refine ⟨by rw [List.flatten_cons, List.length_append, h1]; omega, fun c hc => ?_⟩
      rw [List.flatten_cons]
      by_cases q2 : c < 8
      · rw [List.getElem?_append_left (by omega), show c / 8 = 0 by omega, show c % 8 = c by omega]
        rfl
      · rw [List.getElem?_append_right (by omega), hx, h2 (c - 8) (by omega), show c / 8 = (c - 8) / 8 + 1 by omega, show c % 8 = (c - 8) % 8 by omega]
        rfl
theorem rowOf_flat (M : AM) (ps : List Int) : rowOf M ps = (ps.map M.cont).flatten := by
  unfold rowOf
  rw [List.flatMap_def]
theorem row_get {M : AM} {m : Nat} {ps : List Int} (hl : ps.length = npg m) (h : ∀ (i : Nat) (p : Int), ps[i]? = some p → (M.cont p).length = (pcl i m).length) : (rowOf M ps).length = m ∧ ∀ c, c < m → (rowOf M ps)[c]? = (M.cont (ps.getD (c / 8) 0))[c % 8]? := by
  obtain ⟨h1, h2⟩ := flatG (ps.map M.cont) m (by rw [List.length_map, hl]) (fun i x hx => by
    rw [List.getElem?_map, Option.map_eq_some_iff] at hx
    obtain ⟨p, e, rfl⟩ := hx
    rw [h i p e, pcl_len8])
  rw [rowOf_flat]
  refine ⟨h1, fun c hc => ?_⟩
  rw [h2 c hc]
  have hlt : c / 8 < ps.length := by rw [hl]; unfold npg; omega
  rw [List.getD_eq_getElem?_getD, List.getElem?_map, List.getD_eq_getElem?_getD, List.getElem?_eq_getElem hlt]
  rfl
def oth (t1 t2 : List (Key × Tb)) (M : AM) : List Int := slotsT t1 ++ slotsT t2 ++ savS M
theorem hAt_isSome {M : AM} {p : Int} {v : Int} (h : valP M.hol (.inl p) = some v) : hAt M p = v := by unfold hAt; rw [h]; rfl
/-- what one turn has done -/
structure Turned (t1 t2 : List (Key × Tb)) (ch : List (Key × Int)) (n at_ : Nat) (w w' : AM × List Int) : Prop where
  tab : w'.1.tab = w.1.tab
  sav : w'.1.sav = w.1.sav
  nxt : w'.1.nxt = w.1.nxt
  len : w'.2.length = w.2.length
  me : w'.1.cont (w'.2.getD at_ 0) = wrP ch (w.1.cont (w.2.getD at_ 0)) (chgd ch at_ n)
  no : ∀ i, i ≠ at_ → i < w.2.length → w'.1.cont (w'.2.getD i 0) = w.1.cont (w.2.getD i 0)
  ot : ∀ p ∈ oth t1 t2 w.1, w'.1.cont p = w.1.cont p
  hl : w'.1.hol.length ≤ w.1.hol.length + 1
end S
namespace S
open PySem PySem.Spec PyProof.Rows L2 RZ Mr
theorem tab_mem {M : AM} {b : Int} {e : Tb} (h : tabOf M b = some e) : ((.inl b : Key), e) ∈ M.tab := by
  unfold tabOf valP at h
  rw [Option.map_eq_some_iff] at h
  obtain ⟨x, h1, rfl⟩ := h
  have h2 := List.find?_some h1
  have h3 : x.1 = .inl b := by simpa using h2
  rw [← h3]
  exact List.mem_of_find?_eq_some h1
theorem Wf.buf {M : AM} (w : Wf M) {b : Int} {e : Tb} (h : tabOf M b = some e) : BufOk M e := w.ok e (List.mem_append_left _ (List.mem_map.mpr ⟨_, tab_mem h, rfl⟩))
theorem Wf.held {M : AM} (w : Wf M) {b : Int} {e : Tb} (h : tabOf M b = some e) : ∀ p ∈ e.2, (valP M.hol (.inl p)).isSome = true := fun p hp => (w.hs p).mpr (count_mem (List.mem_append_left _ (mem_slotsT (tab_mem h) hp)))
theorem Wf.sl {M : AM} (w : Wf M) {b : Int} {n : Nat} {ps : List Int} (h : tabOf M b = some ((n : Int), ps)) : SlOk M n ps := by
  obtain ⟨m, em, m1, m2, m3, m4⟩ := w.buf h
  have em : n = m := by
    have : (n : Int) = (m : Int) := em
    omega
  subst em
  exact ⟨m3, m2, w.held h, m4⟩
theorem Wf.row {M : AM} (w : Wf M) {b : Int} {n : Nat} {ps : List Int} (h : tabOf M b = some ((n : Int), ps)) : (rowOf M ps).length = n := (row_get (w.sl h).len (w.sl h).cl).1
theorem row_congr {M M' : AM} {ps : List Int} (h : ∀ p ∈ ps, M'.cont p = M.cont p) : rowOf M' ps = rowOf M ps := by
  rw [rowOf_flat, rowOf_flat]
  congr 1
  exact List.map_congr_left h
end S
namespace S
open PySem PySem.Spec PyProof.Rows L2 RZ Mr
def av (v : Int) : Int := if v < 0 then -v else v
end S
namespace S
open PySem PySem.Spec PyProof.Rows L2 RZ Mr
variable {qst : List Ob}
theorem lq_ii (l : List Ob) (a b : Int) : liftO dEq l (.int a) (.int b) = some (.bl (decide (a = b))) := by
  obtain ⟨r, e, _, q⟩ := liftEq_pq (l := l) (n := 1) (m := 1) (a := .int a) (b := .int b) rfl rfl (by decide) (by decide)
  rw [e]
  congr 2
  have : (D.int a = D.int b) ↔ a = b := ⟨fun h => by cases h; rfl, fun h => by rw [h]⟩
  rw [this] at q
  cases r <;> simp_all
theorem lq_bb (l : List Ob) (a : Bool) : liftO dEq l (.bl a) (.bl a) = some (.bl true) ∧ liftO dNe l (.bl a) (.bl a) = some (.bl false) := by
  constructor
  · have e : dEq (.bl a) (.bl a) = some (.bl (decide (a = a))) := rfl
    cases a <;> simp [liftO, thaw, thawN, e, scalS]
  · cases a <;> simp [liftO, thaw, thawN, eNeB, scalS]
theorem it_i (l : List Ob) (a : Int) : dIsTS l (.int a) [.ty "list", .ty "tuple"] = some (.bl false) ∧ dIsTS l (.int a) [.ty "bool", .ty "int"] = some (.bl true) ∧ dIsIS l [.int a, .ty "int"] = some (.bl true) ∧ dIsIS l [.int a, .ty "bool"] = some (.bl false) := ⟨rfl, rfl, rfl, rfl⟩
theorem it_l (l : List Ob) (xs : List D) : dIsTS l (.lst xs) [.ty "list", .ty "tuple"] = some (.bl true) ∧ dIsIS l [.lst xs, .ty "list"] = some (.bl true) ∧ dIsIS l [.lst xs, .ty "tuple"] = some (.bl false) := ⟨rfl, rfl, rfl⟩
theorem it_o {l : List Ob} {j : Nat} {xs : List D} (h : l[j]? = some (.lst xs)) : dIsIS l [.obj j, .ty "list"] = some (.bl true) ∧ dIsIS l [.obj j, .ty "tuple"] = some (.bl false) := by
  have : tyS l (.obj j) = some "list" := by simp only [tyS, h]
  constructor
  · simp only [dIsIS, this]; rfl
  · simp only [dIsIS, this]; rfl
theorem sameI (A : Ad) (n : Nat) (a : Int) (s : Dr) : mN_law_same_2 A (n + 1) [.int a, .int a] s = .ok (.bl true) s := by
  have hst : ∀ s : Dr, (O A).st s = s.st := fun _ => rfl
  obtain ⟨h1, h2, h3, h4⟩ := it_i s.st a
  have h5 := lq_ii s.st a a
  rw [decide_eq_true rfl] at h5
  have h6 := (lq_bb s.st false).1
  have t0 : dTruthS s.st (.bl false) = some false := rfl
  have t1 : dTruthS s.st (.bl true) = some true := rfl
  simp only [mN_law_same_2, mb_law_same_2, mTruthS, mIsTS, mClS, mBinS, EE, eEqS, seqS, toS, R.lift, asSeq, asList, asTup, List.replicate, Nat.reduceAdd, Nat.reduceSub, Nat.reduceLeDiff, Nat.reduceLT, Nat.reduceMul, Int.reduceToNat, Int.reduceEq, Int.reduceAdd, Int.reduceSub, Int.reduceNeg, reduceIte, Nat.reduceEqDiff, hst, h1, h2, h3, h4, h5, h6, t0, t1]
end S
namespace S
open PySem PySem.Spec PyProof.Rows L2 RZ Mr
structure MeX (A : Ad) (q : List Ob) (m : Nat) (nx : Int) (Rw : Int → Option (List Int)) (k : Nat) (own : List (Nat × Ob)) (M : AM) (L : Ly) : Prop where
  lay : Lay A q M L
  wf : Wf M
  mem : L.g .mem = m
  nx : M.nxt = nx
  row : ∀ b r, Rw b = some r → 1 ≤ r.length ∧ r.length ≤ 64 ∧ ∃ ps, tabOf M b = some ((r.length : Int), ps) ∧ rowOf M ps = r
  no : ∀ b, Rw b = none → tabOf M b = none
  hz : M.hol.length ≤ 9 * k
  tz : M.tab.length ≤ k
  ow : ∀ p ∈ own, q[p.1]? = some p.2 ∧ ∀ r, L.ix r ≠ some p.1
def Me (A : Ad) (q : List Ob) (m : Nat) (nx : Int) (Rw : Int → Option (List Int)) (k : Nat) (own : List (Nat × Ob)) : Prop := ∃ M L, MeX A q m nx Rw k own M L
section
variable {A : Ad} {q : List Ob} {m : Nat} {nx : Int} {Rw : Int → Option (List Int)} {k : Nat} {own : List (Nat × Ob)} {b : Int} {s : Dr} {ρ : Ev}
theorem Me.push (h : Me A q m nx Rw k own) (o : Ob) : Me A (q ++ [o]) m nx Rw k ((q.length, o) :: own) := by
  obtain ⟨M, L, x⟩ := h
  refine ⟨M, L, x.lay.push o, x.wf, x.mem, x.nx, x.row, x.no, x.hz, x.tz, fun p hp => ?_⟩
  rcases List.mem_cons.mp hp with rfl | hp
  · refine ⟨by simp, fun r e => ?_⟩
    have := x.lay.lt e
    exact absurd this (Nat.lt_irrefl _)
  · obtain ⟨h1, h2⟩ := x.ow p hp
    refine ⟨?_, h2⟩
    rw [List.getElem?_append_left (lt_of_some h1)]
    exact h1
theorem Me.put (h : Me A q m nx Rw k own) {j : Nat} {o : Ob} (hj : (j, o) ∈ own) (o' : Ob) : Me A (q.set j o') m nx Rw k [(j, o')] := by
  obtain ⟨M, L, x⟩ := h
  obtain ⟨h1, h2⟩ := x.ow _ hj
  refine ⟨M, L, x.lay.of fun r i e => ?_, x.wf, x.mem, x.nx, x.row, x.no, x.hz, x.tz, fun p hp => ?_⟩
  · rw [List.getElem?_set_ne]
    intro z
    exact h2 r (by rw [e, ← z])
  · rw [List.mem_singleton] at hp
    subst hp
    exact ⟨List.getElem?_set_self (lt_of_some h1), h2⟩
theorem Me.more (h : Me A q m nx Rw k own) {k' : Nat} (hk : k ≤ k') : Me A q m nx Rw k' own := by
  obtain ⟨M, L, x⟩ := h
  exact ⟨M, L, x.lay, x.wf, x.mem, x.nx, x.row, x.no, by have := x.hz; omega, by have := x.tz; omega, x.ow⟩
end
end S
namespace S
open PySem PySem.Spec PyProof.Rows L2 RZ Mr
noncomputable section
end
end S
namespace S
open PySem PySem.Spec PyProof.Rows L2 RZ Mr
section
variable {A : Ad} {l : List Ob} {M : AM} {L : Ly} {s : Dr} {ρ : Ev}
def holdM (M : AM) (p h : Int) : AM := { M with hol := putP M.hol (.inl p) (h + 1) }
def cpS (n : Nat) (ps : List Int) (M : AM) (cells : List Int) : AM × Int :=
  if cells = pcl ((cells.headD 0).toNat / 8) n then (holdM M (ps.getD ((cells.headD 0).toNat / 8) 0) (hAt M (ps.getD ((cells.headD 0).toNat / 8) 0)), ps.getD ((cells.headD 0).toNat / 8) 0)
  else (addP M (cells.map fun c => (rowOf M ps).getD c.toNat 0), M.crt)
end
end S
namespace S
open PySem PySem.Spec PyProof.Rows L2 RZ Mr
structure WfH (M : AM) (hs : List Int) : Prop where
  nd : (M.tab.map (·.1)).Nodup
  tk : ∀ k ∈ M.tab.map (·.1), ∃ b : Int, k = .inl b ∧ 0 ≤ b ∧ b < M.nxt
  nx : 0 ≤ M.nxt
  hc : ∀ p, hAt M p = (((slots M).count p + hs.count p : Nat) : Int)
  hs : ∀ p, (valP M.hol (.inl p)).isSome = true ↔ 0 < (slots M).count p + hs.count p
  be : Below M
  c0 : 0 ≤ M.crt
  ok : ∀ e ∈ bufs M, BufOk M e
theorem bufs_slots {M : AM} {e : Tb} (he : e ∈ bufs M) {q : Int} (hq : q ∈ e.2) : q ∈ slots M := by
  unfold bufs at he
  unfold slots
  rcases List.mem_append.mp he with he | he
  · obtain ⟨x, hx, rfl⟩ := List.mem_map.mp he
    exact List.mem_append_left _ (mem_slotsT hx hq)
  · obtain ⟨x, hx, hx2⟩ := List.mem_flatMap.mp he
    obtain ⟨y, hy, rfl⟩ := List.mem_map.mp hx2
    exact List.mem_append_right _ (List.mem_flatMap.mpr ⟨x, hx, mem_slotsT hy hq⟩)
theorem bufOk_congr {M M' : AM} {e : Tb} (h : ∀ q ∈ e.2, M'.cont q = M.cont q) (b : BufOk M e) : BufOk M' e := by
  obtain ⟨m', a1, a2, a3, a4, a5⟩ := b
  exact ⟨m', a1, a2, a3, a4, fun i q hq => by rw [h q (List.mem_of_getElem? hq)]; exact a5 i q hq⟩
theorem WfH.lt {M : AM} {hs : List Int} (w : WfH M hs) {q : Int} (hq : 0 < (slots M).count q + hs.count q) : q < M.crt := by
  obtain ⟨r, e, _, h2⟩ := w.be (.inl q) (valP_mem.mp ((w.hs q).mpr hq))
  cases e
  exact h2
theorem WfH.buf {M : AM} {hs : List Int} (w : WfH M hs) {b : Int} {e : Tb} (h : tabOf M b = some e) : BufOk M e := w.ok e (List.mem_append_left _ (List.mem_map.mpr ⟨_, tab_mem h, rfl⟩))
theorem tab_slots {M : AM} {b : Int} {e : Tb} (h : tabOf M b = some e) {p : Int} (hp : p ∈ e.2) : p ∈ slots M := List.mem_append_left _ (mem_slotsT (tab_mem h) hp)
theorem WfH.sl {M : AM} {hs : List Int} (w : WfH M hs) {b : Int} {n : Nat} {ps : List Int} (h : tabOf M b = some ((n : Int), ps)) : SlOk M n ps := by
  obtain ⟨m, em, m1, m2, m3, m4⟩ := w.buf h
  have em : n = m := by
    have : (n : Int) = (m : Int) := em
    omega
  subst em
  exact ⟨m3, m2, fun p hp => (w.hs p).mpr (by have := count_mem (tab_slots h hp); omega), m4⟩
theorem slots_tab {M M' : AM} (h1 : M'.tab = M.tab) (h2 : M'.sav = M.sav) : slots M' = slots M ∧ bufs M' = bufs M := by
  unfold slots bufs savS savB
  rw [h1, h2]
  exact ⟨rfl, rfl⟩
theorem count_snoc (hs : List Int) (p q : Int) : (hs ++ [p]).count q = hs.count q + (if q = p then 1 else 0) := by
  rw [List.count_append, List.count_singleton]
  congr 1
  by_cases h : q = p
  · subst h; simp
  · have : (p == q) = false := by simpa using Ne.symm h
    rw [this, if_neg h]; rfl
theorem hold_sem {M : AM} {hs : List Int} (w : WfH M hs) {p hh : Int} (hp : valP M.hol (.inl p) = some hh) : WfH (holdM M p hh) (hs ++ [p]) := by
  obtain ⟨e1, e2⟩ := slots_tab (M := M) (M' := holdM M p hh) rfl rfl
  have ha := hAt_isSome hp
  have v : ∀ q, valP (holdM M p hh).hol (.inl q) = if q = p then some (hh + 1) else valP M.hol (.inl q) := fun q => by
    show valP (putP M.hol _ _) _ = _
    rw [valP_put]
    by_cases e : q = p
    · rw [if_pos (by rw [e]), if_pos e]
    · rw [if_neg (by simp [e]), if_neg e]
  refine ⟨w.nd, w.tk, w.nx, fun q => ?_, fun q => ?_, fun k hk => ?_, w.c0, w.ok⟩
  · rw [e1, count_snoc]
    have h := w.hc q
    unfold hAt at h ha ⊢
    rw [v]
    by_cases e : q = p
    · subst e
      rw [if_pos rfl, if_pos rfl]
      rw [ha] at h
      simp only [Option.getD_some]
      omega
    · rw [if_neg e, if_neg e, h]; rfl
  · rw [e1, count_snoc, v]
    have h := w.hs q
    by_cases e : q = p
    · subst e
      rw [if_pos rfl, if_pos rfl]
      simp only [Option.isSome_some, true_iff]
      omega
    · rw [if_neg e, if_neg e, h]; rfl
  · have hk : k ∈ (putP M.hol (.inl p) (hh + 1)).map (·.1) := hk
    rw [putP_keys, hp] at hk
    exact w.be k (by simpa using hk)
theorem add_sem {M : AM} {hs : List Int} (w : WfH M hs) (xs : List Int) : WfH (addP M xs) (hs ++ [M.crt]) ∧ (∀ q, q ∈ slots M ∨ q ∈ hs → (addP M xs).cont q = M.cont q) := by
  obtain ⟨e1, e2⟩ := slots_tab (M := M) (M' := addP M xs) rfl rfl
  have c0 := w.c0
  have z : (slots M).count M.crt + hs.count M.crt = 0 := by
    rcases Nat.eq_zero_or_pos ((slots M).count M.crt + hs.count M.crt) with q | q
    · exact q
    · have := w.lt q; omega
  have v : ∀ q, valP (addP M xs).hol (.inl q) = if q = M.crt then some 1 else valP M.hol (.inl q) := fun q => by
    show valP (putP M.hol _ _) _ = _
    rw [valP_put]
    by_cases e : q = M.crt
    · rw [if_pos (by rw [e]), if_pos e]
    · rw [if_neg (by simp [e]), if_neg e]
  have old : ∀ q, q ∈ slots M ∨ q ∈ hs → (addP M xs).cont q = M.cont q := fun q hq => by
    show (if q = M.crt then xs else M.cont q) = _
    rw [if_neg]
    have : 0 < (slots M).count q + hs.count q := by
      rcases hq with hq | hq
      · have := count_mem hq; omega
      · have := count_mem hq; omega
    have := w.lt this
    omega
  refine ⟨⟨w.nd, w.tk, w.nx, fun q => ?_, fun q => ?_, w.be.add c0 xs, by show 0 ≤ M.crt + 1; omega, fun e he => ?_⟩, old⟩
  · rw [e1, count_snoc]
    have h := w.hc q
    unfold hAt at h ⊢
    rw [v]
    by_cases e : q = M.crt
    · subst e
      rw [if_pos rfl, if_pos rfl]
      simp only [Option.getD_some]
      omega
    · rw [if_neg e, if_neg e, h]; rfl
  · rw [e1, count_snoc, v]
    have h := w.hs q
    by_cases e : q = M.crt
    · subst e
      rw [if_pos rfl, if_pos rfl]
      simp only [Option.isSome_some, true_iff]
      omega
    · rw [if_neg e, if_neg e, h]; rfl
  · rw [e2] at he
    exact bufOk_congr (fun q hq => old q (.inl (bufs_slots he hq))) (w.ok e he)
theorem pcl_row {M : AM} {n : Nat} {ps : List Int} (so : SlOk M n ps) {j : Nat} {p : Int} (hp : ps[j]? = some p) : M.cont p = (pcl j n).map fun c => (rowOf M ps).getD c.toNat 0 := by
  obtain ⟨r1, r2⟩ := row_get so.len so.cl
  have hl := so.cl j p hp
  refine List.ext_getElem? fun i => ?_
  rw [List.getElem?_map]
  by_cases h : i < (pcl j n).length
  · have hi : i < min n (8 * j + 8) - 8 * j := by rw [pcl_len] at h; exact h
    have e : (pcl j n)[i]? = some ((8 * j + i : Nat) : Int) := by
      unfold pcl
      rw [List.getElem?_map, List.getElem?_range hi]
      rfl
    rw [e, Option.map_some, List.getD_eq_getElem?_getD]
    have t : (((8 * j + i : Nat) : Int)).toNat = 8 * j + i := by omega
    rw [t, r2 (8 * j + i) (by omega), show (8 * j + i) / 8 = j by omega, show (8 * j + i) % 8 = i by omega, List.getD_eq_getElem?_getD, hp, Option.getD_some]
    rw [List.getElem?_eq_getElem (by omega)]
    rfl
  · rw [List.getElem?_eq_none (by omega), List.getElem?_eq_none (by omega)]
    rfl
structure Cp1 (M M' : AM) (hs : List Int) : Prop where
  tab : M'.tab = M.tab
  sav : M'.sav = M.sav
  nxt : M'.nxt = M.nxt
  old : ∀ q, q ∈ slots M ∨ q ∈ hs → M'.cont q = M.cont q
  hl : M'.hol.length ≤ M.hol.length + 1
theorem cpS_sem {M : AM} {hs : List Int} (w : WfH M hs) {b : Int} {n : Nat} {ps : List Int} (hb : tabOf M b = some ((n : Int), ps)) {cells : List Int} (hc : ∀ c ∈ cells, 0 ≤ c ∧ c < n) (hne : cells ≠ []) :
    WfH (cpS n ps M cells).1 (hs ++ [(cpS n ps M cells).2]) ∧ Cp1 M (cpS n ps M cells).1 hs ∧ (cpS n ps M cells).1.cont (cpS n ps M cells).2 = cells.map fun c => (rowOf M ps).getD c.toNat 0 := by
  have so := w.sl hb
  have hh : 0 ≤ cells.headD 0 ∧ cells.headD 0 < n := by
    cases cells with
    | nil => exact absurd rfl hne
    | cons c cs => exact hc c List.mem_cons_self
  unfold cpS
  by_cases q : cells = pcl ((cells.headD 0).toNat / 8) n
  · rw [if_pos q]
    have pl : (cells.headD 0).toNat / 8 < ps.length := by rw [so.len]; unfold npg; omega
    generalize (cells.headD 0).toNat / 8 = j at q pl ⊢
    obtain ⟨p, hp⟩ : ∃ p, ps[j]? = some p := ⟨ps[j], List.getElem?_eq_getElem pl⟩
    have gp : ps.getD j 0 = p := by rw [List.getD_eq_getElem?_getD, hp]; rfl
    have hs' := so.held p (List.mem_of_getElem? hp)
    obtain ⟨hv, hhv⟩ := Option.isSome_iff_exists.mp hs'
    have ha : hAt M p = hv := hAt_isSome hhv
    rw [gp, ha]
    refine ⟨hold_sem w hhv, ⟨rfl, rfl, rfl, fun _ _ => rfl, ?_⟩, ?_⟩
    · show (putP M.hol _ _).length ≤ _
      have := putP_len M.hol (.inl p) (hv + 1)
      omega
    · show M.cont p = _
      rw [q]
      exact pcl_row so hp
  · rw [if_neg q]
    obtain ⟨w', old⟩ := add_sem w (cells.map fun c => (rowOf M ps).getD c.toNat 0)
    exact ⟨w', ⟨rfl, rfl, rfl, old, addP_len _ _⟩, if_pos rfl⟩
def copyF (n : Nat) (ps : List Int) (w : AM × List Int) (c : List Int) : AM × List Int := ((cpS n ps w.1 c).1, w.2 ++ [(cpS n ps w.1 c).2])
structure CpOk (n : Nat) (ps : List Int) (M : AM) (cs : List (List Int)) (w : AM × List Int) : Prop where
  wf : WfH w.1 w.2
  tab : w.1.tab = M.tab
  sav : w.1.sav = M.sav
  nxt : w.1.nxt = M.nxt
  len : w.2.length = cs.length
  old : ∀ q, q ∈ slots M → w.1.cont q = M.cont q
  new : ∀ (j : Nat) (c : List Int), cs[j]? = some c → w.1.cont (w.2.getD j 0) = c.map fun x => (rowOf M ps).getD x.toNat 0
  hl : w.1.hol.length ≤ M.hol.length + cs.length
theorem CpOk.step {n : Nat} {ps : List Int} {M : AM} {cs : List (List Int)} {w : AM × List Int} (h : CpOk n ps M cs w) {b : Int} (hb : tabOf M b = some ((n : Int), ps)) {c : List Int} (hc : ∀ x ∈ c, 0 ≤ x ∧ x < n) (hne : c ≠ []) : CpOk n ps M (cs ++ [c]) (copyF n ps w c) := by
  have hb' : tabOf w.1 b = some ((n : Int), ps) := by unfold tabOf at hb ⊢; rw [h.tab]; exact hb
  obtain ⟨w1, c1, e1⟩ := cpS_sem h.wf hb' hc hne
  obtain ⟨sl, _⟩ := slots_tab h.tab h.sav
  have re : rowOf w.1 ps = rowOf M ps := row_congr fun p hp => h.old p (tab_slots hb hp)
  rw [re] at e1
  refine ⟨w1, c1.tab.trans h.tab, c1.sav.trans h.sav, c1.nxt.trans h.nxt, by show (w.2 ++ [_]).length = _; simp [h.len], fun q hq => ?_, fun j d hd => ?_, ?_⟩
  · rw [← h.old q hq]
    exact c1.old q (.inl (by rw [sl]; exact hq))
  · show (cpS n ps w.1 c).1.cont ((w.2 ++ [(cpS n ps w.1 c).2]).getD j 0) = _
    by_cases hj : j < cs.length
    · rw [List.getElem?_append_left hj] at hd
      have : (w.2 ++ [(cpS n ps w.1 c).2]).getD j 0 = w.2.getD j 0 := by
        rw [List.getD_eq_getElem?_getD, List.getElem?_append_left (by rw [h.len]; exact hj), ← List.getD_eq_getElem?_getD]
      rw [this, ← h.new j d hd]
      refine c1.old _ (.inr ?_)
      rw [List.getD_eq_getElem?_getD, List.getElem?_eq_getElem (by rw [h.len]; exact hj)]
      exact List.getElem_mem _
    · have ej : j = cs.length := by
        have := lt_of_some hd
        simp at this
        omega
      subst ej
      rw [List.getElem?_append_right (Nat.le_refl _), Nat.sub_self] at hd
      have hd : c = d := by simpa using hd
      subst hd
      have : (w.2 ++ [(cpS n ps w.1 c).2]).getD cs.length 0 = (cpS n ps w.1 c).2 := by
        rw [List.getD_eq_getElem?_getD, List.getElem?_append_right (by rw [h.len]; exact Nat.le_refl _), h.len, Nat.sub_self]
        rfl
      rw [this]
      exact e1
  · have z1 := c1.hl
    have z2 := h.hl
    show (cpS n ps w.1 c).1.hol.length ≤ _
    rw [List.length_append]
    simp only [List.length_cons, List.length_nil]
    omega
end S
namespace S
open PySem PySem.Spec PyProof.Rows L2 RZ Mr
section
variable {A : Ad} {l : List Ob} {M : AM} {L : Ly} {s : Dr} {ρ : Ev}
end
end S
namespace S
open PySem PySem.Spec PyProof.Rows L2 RZ Mr
variable {qst : List Ob}
end S
namespace S
open PySem PySem.Spec PyProof.Rows L2 RZ Mr
noncomputable section
end
end S
namespace S
open PySem PySem.Spec PyProof.Rows L2 RZ Mr
theorem WfH.nil {M : AM} (w : WfH M []) : Wf M := ⟨w.nd, w.tk, w.nx, fun p => by rw [w.hc p]; rfl, fun p => by rw [w.hs p]; rfl, w.be, w.c0, w.ok⟩
section
variable {A : Ad} {l : List Ob} {M : AM} {L : Ly} {s : Dr} {ρ : Ev}
end
end S
namespace S
open PySem PySem.Spec PyProof.Rows L2 RZ Mr
theorem sameLn (A : Ad) {s : Dr} {n : Nat} {d : D} {xs : List Int} (sq : sqS s.st d = some (true, iD xs)) (h4 : dIsIS s.st [d, .ty "list"] = some (.bl true)) (h5 : dIsIS s.st [d, .ty "tuple"] = some (.bl false)) (hl : xs.length ≤ 1000) : mN_law_same_2 A (n + 2) [d, .lst (iD xs)] s = .ok (.bl true) s := by
  have hst : ∀ s : Dr, (O A).st s = s.st := fun _ => rfl
  obtain ⟨h1, h2, h3⟩ := it_l s.st (iD xs)
  have n1 := (lq_bb s.st true).2
  have n2 := (lq_bb s.st false).2
  have t0 : dTruthS s.st (.bl false) = some false := rfl
  have t1 : dTruthS s.st (.bl true) = some true := rfl
  have l1 : dLenS s.st [d] = some (.int (xs.length : Int)) := by simp [dLenS, sq]
  have l2 : dLenS s.st [.lst (iD xs)] = some (.int (xs.length : Int)) := by simp [dLenS, sqS]
  have h6 := lq_ii s.st (xs.length : Int) (xs.length : Int)
  rw [decide_eq_true rfl] at h6
  have sq2 : sqS s.st (.lst (iD xs)) = some (true, iD xs) := rfl
  have zd : zipD (iD xs) (iD xs) = xs.map fun x => .tup [.int x, .int x] := by
    clear h1 h2 h3 h4 h5 l1 l2 h6 sq sq2 hl
    induction xs with
    | nil => rfl
    | cons x xs ih => simp only [zipD, iD, List.map_cons] at ih ⊢; simpa using ih
  have lc : lc_law_same_2_0 A (mN_law_same_2 A (n + 1)) [.sh d, .sh (.lst (iD xs)), .no, .no] s = .ok (xs.map fun _ => .bl true) s := by
    unfold lc_law_same_2_0
    refine mLcS_map (c := fun l => sqS l d = some (true, iD xs) ∧ sqS l (.lst (iD xs)) = some (true, iD xs)) (fun x => .tup [.int x, .int x]) (fun _ => .bl true) xs ?_ ⟨sq, sq2⟩ (fun x _ => ⟨[.sh d, .sh (.lst (iD xs)), .sh (.int x), .sh (.int x)], rfl, ?_⟩) (by omega)
    · simp only [mJZ, EE, eEqS, seqS, toS, R.lift, asSeq, asList, asTup, List.replicate, Nat.reduceAdd, Nat.reduceSub, Nat.reduceLeDiff, Nat.reduceLT, Nat.reduceMul, Int.reduceToNat, Int.reduceEq, Int.reduceAdd, Int.reduceSub, Int.reduceNeg, reduceIte, Nat.reduceEqDiff, hst, sq, sq2, zd]
    · have := sameI A n x s
      simp only [EE, eEqS, seqS, toS, R.lift, asSeq, asList, asTup, List.replicate, Nat.reduceAdd, Nat.reduceSub, Nat.reduceLeDiff, Nat.reduceLT, Nat.reduceMul, Int.reduceToNat, Int.reduceEq, Int.reduceAdd, Int.reduceSub, Int.reduceNeg, reduceIte, Nat.reduceEqDiff, this]
  have al : dAll [.lst (xs.map fun _ => .bl true)] = some (.bl true) := by
    have := dAll_map xs (fun _ => true)
    rw [this]
    congr 2
    simp
  show runF (O A) 4 (mb_law_same_2 A (mN_law_same_2 A (n + 1))) [d, .lst (iD xs)] s = _
  simp only [mb_law_same_2, mTruthS, mIsTS, mClS, mBinS, EE, eEqS, seqS, toS, R.lift, asSeq, asList, asTup, List.replicate, Nat.reduceAdd, Nat.reduceSub, Nat.reduceLeDiff, Nat.reduceLT, Nat.reduceMul, Int.reduceToNat, Int.reduceEq, Int.reduceAdd, Int.reduceSub, Int.reduceNeg, reduceIte, Nat.reduceEqDiff, hst, h1, h2, h3, h4, h5, n1, n2, t0, t1, l1, l2, h6, lc, al]
def lens (M : AM) : List (Key × Int) := M.tab.map fun e => (e.1, e.2.1)
structure MkX (A : Ad) (q : List Ob) (m : Nat) (nx : Int) (kvs : List (Key × Int)) (k : Nat) (own : List (Nat × Ob)) (M : AM) (L : Ly) : Prop where
  lay : Lay A q M L
  wf : Wf M
  mem : L.g .mem = m
  nx : M.nxt = nx
  ls : lens M = kvs
  hz : M.hol.length ≤ 9 * k
  tz : M.tab.length ≤ k
  ow : ∀ p ∈ own, q[p.1]? = some p.2 ∧ ∀ r, L.ix r ≠ some p.1
def Mk (A : Ad) (q : List Ob) (m : Nat) (nx : Int) (kvs : List (Key × Int)) (k : Nat) (own : List (Nat × Ob)) : Prop := ∃ M L, MkX A q m nx kvs k own M L
theorem Wf.fresh {M : AM} (w : Wf M) : valP M.tab (.inl M.nxt) = none := by
  rw [valP_none]
  intro hm
  obtain ⟨b, e, _, h2⟩ := w.tk _ hm
  cases e
  omega
section
variable {A : Ad} {q : List Ob} {m : Nat} {nx : Int} {kvs : List (Key × Int)} {k : Nat} {own : List (Nat × Ob)} {b : Int} {s : Dr} {ρ : Ev}
theorem Mk.push (h : Mk A q m nx kvs k own) (o : Ob) : Mk A (q ++ [o]) m nx kvs k ((q.length, o) :: own) := by
  obtain ⟨M, L, x⟩ := h
  refine ⟨M, L, x.lay.push o, x.wf, x.mem, x.nx, x.ls, x.hz, x.tz, fun p hp => ?_⟩
  rcases List.mem_cons.mp hp with rfl | hp
  · refine ⟨by simp, fun r e => ?_⟩
    have := x.lay.lt e
    exact absurd this (Nat.lt_irrefl _)
  · obtain ⟨h1, h2⟩ := x.ow p hp
    refine ⟨?_, h2⟩
    rw [List.getElem?_append_left (lt_of_some h1)]
    exact h1
theorem Mk.put (h : Mk A q m nx kvs k own) {j : Nat} {o : Ob} (hj : (j, o) ∈ own) (o' : Ob) {own' : List (Nat × Ob)} (ho : ∀ p ∈ own', p ∈ own ∧ p.1 ≠ j) : Mk A (q.set j o') m nx kvs k ((j, o') :: own') := by
  obtain ⟨M, L, x⟩ := h
  obtain ⟨h1, h2⟩ := x.ow _ hj
  refine ⟨M, L, x.lay.of fun r i e => ?_, x.wf, x.mem, x.nx, x.ls, x.hz, x.tz, fun p hp => ?_⟩
  · rw [List.getElem?_set_ne]
    intro z
    exact h2 r (by rw [e, ← z])
  · rcases List.mem_cons.mp hp with rfl | hp
    · exact ⟨List.getElem?_set_self (lt_of_some h1), h2⟩
    · obtain ⟨a1, a2⟩ := ho p hp
      obtain ⟨b1, b2⟩ := x.ow p a1
      exact ⟨by rw [List.getElem?_set_ne (Ne.symm a2)]; exact b1, b2⟩
end
end S
namespace S
open PySem PySem.Spec PyProof.Rows L2 RZ Mr
def dv (v : Int) : D := if 10 ^ 60 ≤ av v then .str "overflow" else .int v
/-- the outcome of an operator: its number, or the text of its fault -/
inductive Out | num (v : Int) | flt (x : Str)
def Out.d : Out → D
  | .num v => .int v
  | .flt x => .str x
def Out.r (A : Ad) (s : Dr) : Out → R Dr D
  | .num v => .ok (.int v) s
  | .flt x => .err (A.c .FaultError) [("reason", .str x)] s
end S
namespace S
open PySem PySem.Spec PyProof.Rows L2 RZ Mr
noncomputable section
def bd_product_0 (A : Ad) : MS (O A) :=
  (mAug (O A) 1 dMul (mVar (O A) 2))
def mb_product (A : Ad) : MS (O A) :=
  (mSeq (O A) (mAsg (O A) (mC (O A) (.int 1)) (fName 1))
  (mSeq (O A) (mForS (O A) (mJS (O A) (mVar (O A) 0)) (fName 2)
  (bd_product_0 A))
  (mRet (O A) (mVar (O A) 1))))
def m_product (A : Ad) : List D → Dr → R Dr D := runF (O A) 3 (mb_product A)
def mb_around (A : Ad) : MS (O A) :=
  (mSeq (O A) (mIfS (O A) (mNot (O A) (mTest (O A) (mChain (O A) dLe dLt (mC (O A) (.int 0)) (mVar (O A) 1) (mClS (O A) dLenS (mCons (O A) (mVar (O A) 0) (mNil (O A)))))))
  (mRaise (O A) (A.c .AxisError) ["axis"] (mCons (O A) (mVar (O A) 1) (mNil (O A))))
  (mNext (O A)))
  (mRet (O A) (mCl (O A) dTup (mCons (O A) (mCall (O A) 1 (m_product A) (mCons (O A) (mSliceS (O A) (mVar (O A) 0) (mNoPart (O A)) (mPart (O A) (mVar (O A) 1))) (mNil (O A)))) (mCons (O A) (mIdxS (O A) (mVar (O A) 0) (mVar (O A) 1)) (mCons (O A) (mCall (O A) 1 (m_product A) (mCons (O A) (mSliceS (O A) (mVar (O A) 0) (mPart (O A) (mBin (O A) dAdd (mVar (O A) 1) (mC (O A) (.int 1)))) (mNoPart (O A))) (mNil (O A)))) (mNil (O A))))))))
def m_around (A : Ad) : List D → Dr → R Dr D := runF (O A) 2 (mb_around A)
def mb_law_shape (A : Ad) : MS (O A) :=
  (mSeq (O A) (mAsg (O A) (mBin (O A) dIdx (mCall (O A) 3 (m_law_parts A) (mCons (O A) (mVar (O A) 0) (mCons (O A) (mC (O A) (.int 64)) (mCons (O A) (mC (O A) (.int 64)) (mNil (O A)))))) (mC (O A) (.int 1))) (fName 1))
  (mSeq (O A) (mIfS (O A) (mTest (O A) (mBin (O A) dEq (mCl (O A) dLen (mCons (O A) (mVar (O A) 1) (mNil (O A)))) (mC (O A) (.int 0))))
  (mRet (O A) (mCl (O A) dTup (mCons (O A) (mBin (O A) dAdd (mC (O A) (.int 1)) (mCall (O A) 2 (m_law_take A) (mCons (O A) (mVar (O A) 0) (mCons (O A) (mC (O A) (.int 8)) (mNil (O A)))))) (mNil (O A)))))
  (mNext (O A)))
  (mRet (O A) (mVar (O A) 1))))
def m_law_shape (A : Ad) : List D → Dr → R Dr D := runF (O A) 2 (mb_law_shape A)
def bd_law_block_0 (A : Ad) : MS (O A) :=
  (mSetIT (O A) (mVar (O A) 2) (mVar (O A) 3) (mVar (O A) 4))
def mb_law_block (A : Ad) : MS (O A) :=
  (mSeq (O A) (mAsg (O A) (mNewT (O A)) (fName 2))
  (mSeq (O A) (mForS (O A) (mJZ (O A) (mCons (O A) (mCall (O A) 1 (m_law_indices A) (mCons (O A) (mVar (O A) 0) (mNil (O A)))) (mCons (O A) (mVar (O A) 1) (mNil (O A))))) (fTup 2 (fCons (fName 3) (fCons (fName 4) fNil)))
  (bd_law_block_0 A))
  (mRet (O A) (mVar (O A) 2))))
def m_law_block (A : Ad) : List D → Dr → R Dr D := runF (O A) 5 (mb_law_block A)
def bd_gather_axis_0 (A : Ad) : MS (O A) :=
  (mIfS (O A) (mNot (O A) (mTest (O A) (mChain (O A) dLe dLt (mC (O A) (.int 0)) (mVar (O A) 7) (mVar (O A) 5))))
  (mRaise (O A) (A.c .FaultError) ["reason"] (mCons (O A) (mC (O A) (.str "index")) (mNil (O A))))
  (mNext (O A)))
def bd_gather_axis_1 (A : Ad) : MS (O A) :=
  (mSeq (O A) (mAsg (O A) (mBin (O A) dMul (mBin (O A) dAdd (mBin (O A) dMul (mVar (O A) 9) (mVar (O A) 5)) (mVar (O A) 7)) (mVar (O A) 6)) (fName 10))
  (mDrop (O A) (mExtSV (O A) (mVar (O A) 8) (mSliceS (O A) (mVar (O A) 1) (mPart (O A) (mVar (O A) 10)) (mPart (O A) (mBin (O A) dAdd (mVar (O A) 10) (mVar (O A) 6)))))))
def bd_gather_axis_2 (A : Ad) : MS (O A) :=
  (mForS (O A) (mJS (O A) (mVar (O A) 3)) (fName 7)
  (bd_gather_axis_1 A))
def mb_gather_axis (A : Ad) : MS (O A) :=
  (mSeq (O A) (mAsg (O A) (mCall (O A) 2 (m_around A) (mCons (O A) (mVar (O A) 0) (mCons (O A) (mVar (O A) 2) (mNil (O A))))) (fTup 3 (fCons (fName 4) (fCons (fName 5) (fCons (fName 6) fNil)))))
  (mSeq (O A) (mForS (O A) (mJS (O A) (mVar (O A) 3)) (fName 7)
  (bd_gather_axis_0 A))
  (mSeq (O A) (mAsg (O A) (mObjL (O A) (mDisp (O A) (mNil (O A)))) (fName 8))
  (mSeq (O A) (mForS (O A) (mJI (O A) (mRng1 (O A) (mCons (O A) (mVar (O A) 4) (mNil (O A))))) (fName 9)
  (bd_gather_axis_2 A))
  (mRet (O A) (mVar (O A) 8))))))
def m_gather_axis (A : Ad) : List D → Dr → R Dr D := runF (O A) 11 (mb_gather_axis A)
def lc_sort_axis_0 (A : Ad) : MA (O A) :=
  (mLcS (O A) (mJI (O A) (mRng1 (O A) (mCons (O A) (mVar (O A) 4) (mNil (O A))))) (fName 7) (mYes (O A)) (mCl (O A) dTup (mCons (O A) (mIdxS (O A) (mVar (O A) 1) (mBin (O A) dMul (mVar (O A) 7) (mVar (O A) 5))) (mCons (O A) (mVar (O A) 7) (mNil (O A))))) [7])
def lc_sort_axis_1 (A : Ad) : MA (O A) :=
  (mLcS (O A) (mJS (O A) (mVar (O A) 6)) (fTup 2 (fCons (fName 8) (fCons (fName 7) fNil))) (mYes (O A)) (mVar (O A) 7) [8, 7])
def mb_sort_axis (A : Ad) : MS (O A) :=
  (mSeq (O A) (mAsg (O A) (mCall (O A) 2 (m_around A) (mCons (O A) (mVar (O A) 0) (mCons (O A) (mVar (O A) 2) (mNil (O A))))) (fTup 3 (fCons (fName 3) (fCons (fName 4) (fCons (fName 5) fNil)))))
  (mSeq (O A) (mAsg (O A) (mLst (O A) (mSortQ (O A) (mCons (O A) (mLst (O A) (lc_sort_axis_0 A)) (mNil (O A))))) (fName 6))
  (mRet (O A) (mCall (O A) 4 (m_gather_axis A) (mCons (O A) (mVar (O A) 0) (mCons (O A) (mVar (O A) 1) (mCons (O A) (mVar (O A) 2) (mCons (O A) (mLst (O A) (lc_sort_axis_1 A)) (mNil (O A))))))))))
def m_sort_axis (A : Ad) : List D → Dr → R Dr D := runF (O A) 9 (mb_sort_axis A)
end
end S
namespace K46
open PySem PySem.Spec PyProof.Rows L2 RZ Mr S
noncomputable section
def topS (i : Nat) : Stmt := PySem.Challenge.pw_latecopy_k46_sorted_axes.main.body.getD i (.Pass ⟨0, 0, 0, 0⟩)
abbrev s_law_draws : Stmt := topS 10
theorem sc_law_draws : FnScope ["_law_script", "_law_cell"] ["_law_script"] (defScope s_law_draws) := ⟨rfl, rfl, rfl, by decide +kernel, rfl, by decide +kernel, by decide +kernel⟩
abbrev s_law_mixed : Stmt := topS 11
theorem sc_law_mixed : FnScope ["_law_seed", "_law_k", "_law_first"] ["_law_seed", "_law_k"] (defScope s_law_mixed) := ⟨rfl, rfl, rfl, by decide +kernel, rfl, by decide +kernel, by decide +kernel⟩
abbrev s_law_take : Stmt := topS 12
theorem sc_law_take : FnScope ["_law_draws_here", "_law_size", "_law_found", "_law_seed", "_law_reach"] ["_law_draws_here", "_law_size"] (defScope s_law_take) := ⟨rfl, rfl, rfl, by decide +kernel, rfl, by decide +kernel, by decide +kernel⟩
abbrev s_law_parts : Stmt := topS 14
theorem sc_law_parts : FnScope ["_law_draws_here", "_law_cells", "_law_most", "_law_shape_here", "_law_strides", "_law_room", "_law_left", "_law_below", "_law_k", "_law_length", "_law_reach", "_law_stride"] ["_law_draws_here", "_law_cells", "_law_most"] (defScope s_law_parts) := ⟨rfl, rfl, rfl, by decide +kernel, rfl, by decide +kernel, by decide +kernel⟩
abbrev s_law_shape : Stmt := topS 17
theorem sc_law_shape : FnScope ["_law_draws_here", "_law_shape_here"] ["_law_draws_here"] (defScope s_law_shape) := ⟨rfl, rfl, rfl, by decide +kernel, rfl, by decide +kernel, by decide +kernel⟩
abbrev s_law_indices : Stmt := topS 15
theorem sc_law_indices : FnScope ["_law_shape_here", "_law_found", "_law_length", "_law_longer", "_law_index", "_law_k"] ["_law_shape_here"] (defScope s_law_indices) := ⟨rfl, rfl, rfl, by decide +kernel, rfl, by decide +kernel, by decide +kernel⟩
abbrev s_law_number : Stmt := topS 13
theorem sc_law_number : FnScope ["_law_draws_here", "_law_way", "_law_great"] ["_law_draws_here"] (defScope s_law_number) := ⟨rfl, rfl, rfl, by decide +kernel, rfl, by decide +kernel, by decide +kernel⟩
abbrev s_law_block : Stmt := topS 18
theorem sc_law_block : FnScope ["_law_shape_here", "_law_numbers", "_law_found", "_law_index", "_law_number_here"] ["_law_shape_here", "_law_numbers"] (defScope s_law_block) := ⟨rfl, rfl, rfl, by decide +kernel, rfl, by decide +kernel, by decide +kernel⟩
abbrev s_law_sorted : Stmt := topS 19
theorem sc_law_sorted : FnScope ["_law_shape_here", "_law_numbers", "_law_axis", "_law_block_here", "_law_zeros", "_law_keys", "_law_order", "_law_position", "_law_key", "_law_index"] ["_law_shape_here", "_law_numbers", "_law_axis"] (defScope s_law_sorted) := ⟨rfl, rfl, rfl, by decide +kernel, rfl, by decide +kernel, by decide +kernel⟩
abbrev s_product : Stmt := topS 5
theorem sc_product : FnScope ["lengths", "result", "length"] ["lengths"] (defScope s_product) := ⟨rfl, rfl, rfl, by decide +kernel, rfl, by decide +kernel, by decide +kernel⟩
abbrev s_around : Stmt := topS 6
theorem sc_around : FnScope ["shape", "axis"] ["shape", "axis"] (defScope s_around) := ⟨rfl, rfl, rfl, by decide +kernel, rfl, by decide +kernel, by decide +kernel⟩
abbrev s_gather_axis : Stmt := topS 7
theorem sc_gather_axis : FnScope ["shape", "numbers", "axis", "positions", "outer", "length", "inner", "position", "results", "high", "start"] ["shape", "numbers", "axis", "positions"] (defScope s_gather_axis) := ⟨rfl, rfl, rfl, by decide +kernel, rfl, by decide +kernel, by decide +kernel⟩
abbrev s_sort_axis : Stmt := topS 8
theorem sc_sort_axis : FnScope ["shape", "numbers", "axis", "outer", "length", "inner", "keys", "position", "first"] ["shape", "numbers", "axis"] (defScope s_sort_axis) := ⟨rfl, rfl, rfl, by decide +kernel, rfl, by decide +kernel, by decide +kernel⟩
abbrev s_law_same : Stmt := topS 16
theorem sc_law_same : FnScope ["_law_found", "_law_due", "_law_one", "_law_two"] ["_law_found", "_law_due"] (defScope s_law_same) := ⟨rfl, rfl, rfl, by decide +kernel, rfl, by decide +kernel, by decide +kernel⟩
abbrev s_law : Stmt := topS 20
theorem sc_law : FnScope ["_law_script", "_law_draws_here", "_law_turn", "_law_shape_here", "_law_numbers", "_law_again", "_law_axis", "_law_due", "_law_kept", "_law_found", "_law_index"] ["_law_script"] (defScope s_law) := ⟨rfl, rfl, rfl, by decide +kernel, rfl, by decide +kernel, by decide +kernel⟩
abbrev s_iAxisError : Stmt := inClass (topS 2) 0
theorem sc_iAxisError : FnScope ["self", "axis"] ["self", "axis"] (defScope s_iAxisError) := ⟨rfl, rfl, rfl, by decide +kernel, rfl, by decide +kernel, by decide +kernel⟩
abbrev s_iFaultError : Stmt := inClass (topS 3) 0
theorem sc_iFaultError : FnScope ["self", "reason"] ["self", "reason"] (defScope s_iFaultError) := ⟨rfl, rfl, rfl, by decide +kernel, rfl, by decide +kernel, by decide +kernel⟩
def lc_law_sorted_0 (A : Ad) : MA (O A) :=
  (mLcS (O A) (mJI (O A) (mRng1 (O A) (mCons (O A) (mIdxS (O A) (mVar (O A) 0) (mVar (O A) 2)) (mNil (O A))))) (fName 7) (mYes (O A)) (mCl (O A) dTup (mCons (O A) (mIdxT (O A) (mVar (O A) 3) (mBin (O A) dAdd (mBin (O A) dAdd (mSliceS (O A) (mVar (O A) 4) (mNoPart (O A)) (mPart (O A) (mVar (O A) 2))) (mCl (O A) dTup (mCons (O A) (mVar (O A) 7) (mNil (O A))))) (mSliceS (O A) (mVar (O A) 4) (mPart (O A) (mBin (O A) dAdd (mVar (O A) 2) (mC (O A) (.int 1)))) (mNoPart (O A))))) (mCons (O A) (mVar (O A) 7) (mNil (O A))))) [7])
def lc_law_sorted_1 (A : Ad) : MA (O A) :=
  (mLcS (O A) (mJS (O A) (mLst (O A) (mSortQ (O A) (mCons (O A) (mVar (O A) 5) (mNil (O A)))))) (fTup 2 (fCons (fName 8) (fCons (fName 7) fNil))) (mYes (O A)) (mVar (O A) 7) [8, 7])
def lc_law_sorted_2 (A : Ad) : MA (O A) :=
  (mLcS (O A) (mJS (O A) (mCall (O A) 1 (m_law_indices A) (mCons (O A) (mVar (O A) 0) (mNil (O A))))) (fName 9) (mYes (O A)) (mIdxT (O A) (mVar (O A) 3) (mBin (O A) dAdd (mBin (O A) dAdd (mSliceS (O A) (mVar (O A) 9) (mNoPart (O A)) (mPart (O A) (mVar (O A) 2))) (mCl (O A) dTup (mCons (O A) (mIdxS (O A) (mVar (O A) 6) (mIdxS (O A) (mVar (O A) 9) (mVar (O A) 2))) (mNil (O A))))) (mSliceS (O A) (mVar (O A) 9) (mPart (O A) (mBin (O A) dAdd (mVar (O A) 2) (mC (O A) (.int 1)))) (mNoPart (O A))))) [9])
def mb_law_sorted (A : Ad) : MS (O A) :=
  (mSeq (O A) (mAsg (O A) (mCall (O A) 2 (m_law_block A) (mCons (O A) (mVar (O A) 0) (mCons (O A) (mVar (O A) 1) (mNil (O A))))) (fName 3))
  (mSeq (O A) (mAsg (O A) (mBin (O A) dMulT (mCl (O A) dTup (mCons (O A) (mC (O A) (.int 0)) (mNil (O A)))) (mClS (O A) dLenS (mCons (O A) (mVar (O A) 0) (mNil (O A))))) (fName 4))
  (mSeq (O A) (mAsg (O A) (mLst (O A) (lc_law_sorted_0 A)) (fName 5))
  (mSeq (O A) (mAsg (O A) (mLst (O A) (lc_law_sorted_1 A)) (fName 6))
  (mRet (O A) (mLst (O A) (lc_law_sorted_2 A)))))))
def m_law_sorted (A : Ad) : List D → Dr → R Dr D := runF (O A) 10 (mb_law_sorted A)
def lc_law_0 (A : Ad) : MA (O A) :=
  (mLcS (O A) (mJS (O A) (mCall (O A) 1 (m_law_indices A) (mCons (O A) (mVar (O A) 3) (mNil (O A))))) (fName 10) (mYes (O A)) (mCall (O A) 2 (m_law_take A) (mCons (O A) (mVar (O A) 1) (mCons (O A) (mC (O A) (.int 3)) (mNil (O A))))) [10])
def lc_law_1 (A : Ad) : MA (O A) :=
  (mLcS (O A) (mJS (O A) (mCall (O A) 1 (m_law_indices A) (mCons (O A) (mVar (O A) 3) (mNil (O A))))) (fName 10) (mYes (O A)) (mCall (O A) 1 (m_law_number A) (mCons (O A) (mVar (O A) 1) (mNil (O A)))) [10])
def bd_law_2 (A : Ad) : MS (O A) :=
  (mSeq (O A) (mAsg (O A) (mCall (O A) 2 (m_law_take A) (mCons (O A) (mVar (O A) 1) (mCons (O A) (mClS (O A) dLenS (mCons (O A) (mVar (O A) 3) (mNil (O A)))) (mNil (O A))))) (fName 6))
  (mSeq (O A) (mAsg (O A) (mCall (O A) 3 (m_law_sorted A) (mCons (O A) (mVar (O A) 3) (mCons (O A) (mVar (O A) 4) (mCons (O A) (mVar (O A) 6) (mNil (O A)))))) (fName 7))
  (mSeq (O A) (mAsg (O A) (mLst (O A) (mListNS (O A) (mCons (O A) (mVar (O A) 4) (mNil (O A))))) (fName 8))
  (mSeq (O A) (mAsg (O A) (mCall (O A) 3 (m_sort_axis A) (mCons (O A) (mVar (O A) 3) (mCons (O A) (mVar (O A) 4) (mCons (O A) (mVar (O A) 6) (mNil (O A)))))) (fName 9))
  (mSeq (O A) (mIfS (O A) (mNot (O A) (mTruthS (O A) (mCall (O A) 2 (m_law_same_2 A) (mCons (O A) (mVar (O A) 9) (mCons (O A) (mVar (O A) 7) (mNil (O A)))))))
  (mRet (O A) (mC (O A) (.bl false)))
  (mNext (O A)))
  (mSeq (O A) (mDrop (O A) (mMutL (O A) lApp (mVar (O A) 9) (mCons (O A) (mC (O A) (.int 0)) (mNil (O A)))))
  (mSeq (O A) (mIfS (O A) (mTest (O A) (mBinS (O A) (liftO dNe) (mVar (O A) 4) (mVar (O A) 8)))
  (mRet (O A) (mC (O A) (.bl false)))
  (mNext (O A)))
  (mSeq (O A) (mIfS (O A) (mNot (O A) (mTruthS (O A) (mCall (O A) 2 (m_law_same_2 A) (mCons (O A) (mCall (O A) 3 (m_sort_axis A) (mCons (O A) (mLst (O A) (mListNS (O A) (mCons (O A) (mVar (O A) 3) (mNil (O A))))) (mCons (O A) (mClS (O A) dTupOfS (mCons (O A) (mVar (O A) 4) (mNil (O A)))) (mCons (O A) (mVar (O A) 6) (mNil (O A)))))) (mCons (O A) (mVar (O A) 7) (mNil (O A)))))))
  (mRet (O A) (mC (O A) (.bl false)))
  (mNext (O A)))
  (mAsg (O A) (mVar (O A) 7) (fName 4))))))))))
def bd_law_3 (A : Ad) : MS (O A) :=
  (mSeq (O A) (mAsg (O A) (mCall (O A) 1 (m_law_shape A) (mCons (O A) (mVar (O A) 1) (mNil (O A)))) (fName 3))
  (mSeq (O A) (mAsg (O A) (mLst (O A) (lc_law_0 A)) (fName 4))
  (mSeq (O A) (mIfS (O A) (mTest (O A) (mBin (O A) dEq (mCall (O A) 2 (m_law_take A) (mCons (O A) (mVar (O A) 1) (mCons (O A) (mC (O A) (.int 2)) (mNil (O A))))) (mC (O A) (.int 0))))
  (mAsg (O A) (mLst (O A) (lc_law_1 A)) (fName 4))
  (mNext (O A)))
  (mForS (O A) (mJI (O A) (mRng1 (O A) (mCons (O A) (mC (O A) (.int 2)) (mNil (O A))))) (fName 5)
  (bd_law_2 A)))))
def mb_law (A : Ad) : MS (O A) :=
  (mSeq (O A) (mForS (O A) (mJI (O A) (mRng1 (O A) (mCons (O A) (mC (O A) (.int 4)) (mNil (O A))))) (fName 2)
  (bd_law_3 A))
  (mRet (O A) (mC (O A) (.bl true))))
structure Txt (P : Program) (w : World) (K : PySem.W.Frag) (mg : Str → Option Value) (base : Heap) (A : Ca) : Prop where
  f_law_draws : ∃ f fd, Fun K "_law_draws" "_law_draws" s_law_draws f fd ∧ mg "_law_draws" = some (.ref f)
  f_law_mixed : ∃ f fd, Fun K "_law_mixed" "_law_mixed" s_law_mixed f fd ∧ mg "_law_mixed" = some (.ref f)
  f_law_take : ∃ f fd, Fun K "_law_take" "_law_take" s_law_take f fd ∧ mg "_law_take" = some (.ref f)
  f_law_parts : ∃ f fd, Fun K "_law_parts" "_law_parts" s_law_parts f fd ∧ mg "_law_parts" = some (.ref f)
  f_law_shape : ∃ f fd, Fun K "_law_shape" "_law_shape" s_law_shape f fd ∧ mg "_law_shape" = some (.ref f)
  f_law_indices : ∃ f fd, Fun K "_law_indices" "_law_indices" s_law_indices f fd ∧ mg "_law_indices" = some (.ref f)
  f_law_number : ∃ f fd, Fun K "_law_number" "_law_number" s_law_number f fd ∧ mg "_law_number" = some (.ref f)
  f_law_block : ∃ f fd, Fun K "_law_block" "_law_block" s_law_block f fd ∧ mg "_law_block" = some (.ref f)
  f_law_sorted : ∃ f fd, Fun K "_law_sorted" "_law_sorted" s_law_sorted f fd ∧ mg "_law_sorted" = some (.ref f)
  f_product : ∃ f fd, Fun K "product" "product" s_product f fd ∧ mg "product" = some (.ref f)
  f_around : ∃ f fd, Fun K "around" "around" s_around f fd ∧ mg "around" = some (.ref f)
  f_gather_axis : ∃ f fd, Fun K "gather_axis" "gather_axis" s_gather_axis f fd ∧ mg "gather_axis" = some (.ref f)
  f_sort_axis : ∃ f fd, Fun K "sort_axis" "sort_axis" s_sort_axis f fd ∧ mg "sort_axis" = some (.ref f)
  f_law_same : ∃ f fd, Fun K "_law_same" "_law_same" s_law_same f fd ∧ mg "_law_same" = some (.ref f)
  f_law : ∃ f fd, Fun K "law" "law" s_law f fd ∧ mg "law" = some (.ref f)
  b_abs : mg "abs" = none
  b_all : mg "all" = none
  b_bool : mg "bool" = none
  b_int : mg "int" = none
  b_isinstance : mg "isinstance" = none
  b_len : mg "len" = none
  b_list : mg "list" = none
  b_min : mg "min" = none
  b_range : mg "range" = none
  b_sorted : mg "sorted" = none
  b_tuple : mg "tuple" = none
  b_zip : mg "zip" = none
  e_AxisError : ErT P w K mg base "AxisError" (A.c .AxisError) ["axis"]
  e_FaultError : ErT P w K mg base "FaultError" (A.c .FaultError) ["reason"]
  es : A.es = [.AxisError, .FaultError]
  inj : A.Inj
section
variable {P : Program} {w : World} {K : PySem.W.Frag} {mg : Str → Option Value} {base : Heap} {A : Ad}
theorem fo_law_mixed (T : Txt P w K mg base A.toCa) : Fo P w K mg base (O A) 1 "_law_mixed" 2 (m_law_mixed A) := by
  obtain ⟨f, fd, F, hg⟩ := T.f_law_mixed
  refine fo_mk (N := ["_law_seed", "_law_k", "_law_first"]) F sc_law_mixed hg (F.binds (ps := ["_law_seed", "_law_k"]) fun _ _ _ _ _ _ us hl => match us, hl with | [_, _], _ => rfl) (fun cdv Ar outer s H E hr c => ?_)
  exact ⟨_, ((db_cons (ds_set 2 c.nd (de_mod (de_pow (de_add (de_add (de_mod (de_var 0 c.cn) (de_int c.cn)) (de_mul (de_int c.cn) (de_var 1 c.cn))) (de_int c.cn)) (de_int c.cn)) (de_int c.cn)))
  (db_one (ds_ret (de_mod (de_pow (de_add (de_add (de_mul (de_var 2 c.cn) (de_int c.cn)) (de_mul (de_mul (de_int c.cn) (de_var 1 c.cn)) (de_var 1 c.cn))) (de_int c.cn)) (de_int c.cn)) (de_int c.cn))))))⟩
theorem fo_law_take (T : Txt P w K mg base A.toCa) : Fo P w K mg base (O A) 2 "_law_take" 2 (m_law_take A) := by
  have F_law_mixed := fo_law_mixed (A := A) T
  obtain ⟨f, fd, F, hg⟩ := T.f_law_take
  refine fo_mk (N := ["_law_draws_here", "_law_size", "_law_found", "_law_seed", "_law_reach"]) F sc_law_take hg (F.binds (ps := ["_law_draws_here", "_law_size"]) fun _ _ _ _ _ _ us hl => match us, hl with | [_, _], _ => rfl) (fun cdv Ar outer s H E hr c => ?_)
  exact ⟨_, (db_cons (ds_drSet 0 (de_add (de_drI 0 c.cn) (de_int c.cn)))
  (db_cons (ds_if (DW.dt (dw_and (dt_eq hr (de_drI 0 c.cn) (de_int c.cn)) (dw_and1 (dt_drNe 0 c.cn hr)))) (db_one (ds_drPop 0 c.cn)) db_nil)
  (db_cons (ds_if (dt_gt (de_drI 0 c.cn) (de_int c.cn))
    (db_cons (ds_set 2 c.nd (de_mod (de_drI 0 c.cn) (de_var 1 c.cn)))
    (db_cons (ds_drSet 0 (de_div (de_drI 0 c.cn) (de_var 1 c.cn))) (db_one (ds_ret (de_var 2 c.cn))))) db_nil)
  (db_cons (ds_set 3 c.nd (de_int c.cn))
  (db_cons (ds_if (dt_drNe 0 c.cn hr) (db_one (ds_set 3 c.nd (de_drIx 0 (de_mod (de_drI 0 c.cn) (de_drLen 0 c.cn T.b_len)) take_hw))) db_nil)
  (db_cons (ds_set 2 c.nd (de_int c.cn))
  (db_cons (ds_set 4 c.nd (de_int c.cn))
  (db_cons (ds_while (fun _ _ => 100) c (dt_lt (de_var 4 c.cn) (de_var 1 c.cn))
    (db_cons (ds_set 2 c.nd (de_add (de_mul (de_var 2 c.cn) (de_int c.cn)) (de_call F_law_mixed hr (by decide) (da_cons (de_var 3 c.cn) (da_cons (de_add (de_drI 0 c.cn) (de_mul (de_int c.cn) (de_mod (de_var 2 c.cn) (de_int c.cn)))) (da_nil c.cn))))))
    (db_one (ds_set 4 c.nd (de_mul (de_var 4 c.cn) (de_int c.cn))))))
  (db_one (ds_ret (de_mod (de_var 2 c.cn) (de_var 1 c.cn))))))))))))⟩
theorem fo_law_parts (T : Txt P w K mg base A.toCa) : Fo P w K mg base (O A) 3 "_law_parts" 3 (m_law_parts A) := by
  have F_law_take := fo_law_take (A := A) T
  obtain ⟨f, fd, F, hg⟩ := T.f_law_parts
  refine fo_mk (N := ["_law_draws_here", "_law_cells", "_law_most", "_law_shape_here", "_law_strides", "_law_room", "_law_left", "_law_below", "_law_k", "_law_length", "_law_reach", "_law_stride"]) F sc_law_parts hg (F.binds (ps := ["_law_draws_here", "_law_cells", "_law_most"]) fun _ _ _ _ _ _ us hl => match us, hl with | [_, _, _], _ => rfl) (fun cdv Ar outer s H E hr c => ?_)
  exact ⟨_, ((db_cons (ds_own 3 c.nd (dn_list (da_nil c.cn)))
  (db_cons (ds_own 4 c.nd (dn_list (da_nil c.cn)))
  (db_cons (ds_set 5 c.nd (de_var 2 c.cn))
  (db_cons (ds_set 6 c.nd (de_sub (de_var 1 c.cn) (de_int c.cn)))
  (db_cons (ds_set 7 c.nd (de_int c.cn))
  (db_cons (ds_for c (di_range1 T.b_range (da_cons (de_call F_law_take hr (by decide) (da_cons (de_var 0 c.cn) (da_cons (de_int c.cn) (da_nil c.cn)))) (da_nil c.cn))) (dg_name 8 c.nd)
  (db_cons (ds_set 9 c.nd (de_add (de_int c.cn) (de_call F_law_take hr (by decide) (da_cons (de_var 0 c.cn) (da_cons (de_callB (f := dMin2) (call_min2 c.hc) vcl_i2 T.b_min (by decide +kernel) (da_cons (de_var 5 c.cn) (da_cons (de_idx (de_list (da_cons (de_int c.cn) (da_cons (de_int c.cn) (da_cons (de_int c.cn) (da_cons (de_int c.cn) (da_nil c.cn)))))) (de_call F_law_take hr (by decide) (da_cons (de_var 0 c.cn) (da_cons (de_int c.cn) (da_nil c.cn))))) (da_nil c.cn)))) (da_nil c.cn))))))
  (db_cons (ds_set 10 c.nd (de_int c.cn))
  (db_cons (ds_if (dt_gt (de_var 9 c.cn) (de_int c.cn))
  (db_one (ds_set 10 c.nd (de_div (de_var 6 c.cn) (de_sub (de_var 9 c.cn) (de_int c.cn)))))
  db_nil)
  (db_cons (ds_set 11 c.nd (de_sub (de_call F_law_take hr (by decide) (da_cons (de_var 0 c.cn) (da_cons (de_add (de_mul (de_int c.cn) (de_var 10 c.cn)) (de_int c.cn)) (da_nil c.cn)))) (de_var 10 c.cn)))
  (db_cons (ds_set 5 c.nd (de_div (de_var 5 c.cn) (de_var 9 c.cn)))
  (db_cons (ds_set 6 c.nd (de_sub (de_var 6 c.cn) (de_mul (de_callB (f := dAbs) (call_abs) vcl_abs T.b_abs (by decide +kernel) (da_cons (de_var 11 c.cn) (da_nil c.cn))) (de_sub (de_var 9 c.cn) (de_int c.cn)))))
  (db_cons (ds_if (dt_lt (de_var 11 c.cn) (de_int c.cn))
  (db_one (ds_set 7 c.nd (de_sub (de_var 7 c.cn) (de_mul (de_var 11 c.cn) (de_sub (de_var 9 c.cn) (de_int c.cn))))))
  db_nil)
  (db_cons (ds_append 3 (de_var 9 c.cn))
  (db_one (ds_append 4 (de_var 11 c.cn))))))))))))
  (db_frz 4 (db_frz 3 (db_one (ds_ret (de_tup (da_cons (de_add (de_var 7 c.cn) (de_call F_law_take hr (by decide) (da_cons (de_var 0 c.cn) (da_cons (de_add (de_var 6 c.cn) (de_int c.cn)) (da_nil c.cn))))) (da_cons (de_callT (f := dTupOf) (call_tupG c.cn.hK) vcl_tupOf T.b_tuple (by decide +kernel) (da_cons (de_var 3 c.cn) (da_nil c.cn))) (da_cons (de_callT (f := dTupOf) (call_tupG c.cn.hK) vcl_tupOf T.b_tuple (by decide +kernel) (da_cons (de_var 4 c.cn) (da_nil c.cn))) (da_nil c.cn))))))))))))))))⟩
theorem fo_law_shape (T : Txt P w K mg base A.toCa) : Fo P w K mg base (O A) 4 "_law_shape" 1 (m_law_shape A) := by
  have F_law_parts := fo_law_parts (A := A) T
  have F_law_take := fo_law_take (A := A) T
  obtain ⟨f, fd, F, hg⟩ := T.f_law_shape
  refine fo_mk (N := ["_law_draws_here", "_law_shape_here"]) F sc_law_shape hg (F.binds (ps := ["_law_draws_here"]) fun _ _ _ _ _ _ us hl => match us, hl with | [_], _ => rfl) (fun cdv Ar outer s H E hr c => ?_)
  exact ⟨_, ((db_cons (ds_set 1 c.nd (de_idx (de_call F_law_parts hr (by decide) (da_cons (de_var 0 c.cn) (da_cons (de_int c.cn) (da_cons (de_int c.cn) (da_nil c.cn))))) (de_int c.cn)))
  (db_cons (ds_if (dt_eq hr (de_callB (f := dLen) (call_lenG c.cn.hK) vcl_len T.b_len (by decide +kernel) (da_cons (de_var 1 c.cn) (da_nil c.cn))) (de_int c.cn))
  (db_one (ds_ret (de_tup (da_cons (de_add (de_int c.cn) (de_call F_law_take hr (by decide) (da_cons (de_var 0 c.cn) (da_cons (de_int c.cn) (da_nil c.cn))))) (da_nil c.cn)))))
  db_nil)
  (db_one (ds_ret (de_var 1 c.cn))))))⟩
theorem fo_law_indices (T : Txt P w K mg base A.toCa) : Fo P w K mg base (O A) 1 "_law_indices" 1 (m_law_indices A) := by
  obtain ⟨f, fd, F, hg⟩ := T.f_law_indices
  refine fo_mk (N := ["_law_shape_here", "_law_found", "_law_length", "_law_longer", "_law_index", "_law_k"]) F sc_law_indices hg (F.binds (ps := ["_law_shape_here"]) fun _ _ _ _ _ _ us hl => match us, hl with | [_], _ => rfl) (fun cdv Ar outer s H E hr c => ?_)
  exact ⟨_, ((db_cons (ds_set 1 c.nd (de_list (da_cons (de_tup (da_nil c.cn)) (da_nil c.cn))))
  (db_cons (ds_for c (di_seq (de_var 0 c.cn)) (dg_name 2 c.nd)
  (db_cons (ds_own 3 c.nd (dn_list (da_nil c.cn)))
  (db_cons (ds_for c (di_seq (de_var 1 c.cn)) (dg_name 4 c.nd)
  (db_one (ds_extend 3 (dlc (own := [("_law_k", 5)]) c (di_range1 T.b_range (da_cons (de_var 2 c.cn) (da_nil c.cn))) (blkOk_by (N := ["_law_shape_here", "_law_found", "_law_length", "_law_longer", "_law_index", "_law_k"]) (sc := defScope s_law_indices) (by decide +kernel)) (fun _ _ _ _ _ => (dg_name 5 c.nd)) (fun _ _ _ _ _ cn => dts_nil) (fun _ _ _ _ _ cn => (de_add (de_var 4 cn) (de_tup (da_cons (de_var 5 cn) (da_nil cn)))))).dn)))
  (db_frz 3 (db_one (ds_set 1 c.nd (de_var 3 c.cn)))))))
  (db_one (ds_ret (de_var 1 c.cn))))))⟩
theorem fo_law_number (T : Txt P w K mg base A.toCa) : Fo P w K mg base (O A) 3 "_law_number" 1 (m_law_number A) := by
  have F_law_take := fo_law_take (A := A) T
  obtain ⟨f, fd, F, hg⟩ := T.f_law_number
  refine fo_mk (N := ["_law_draws_here", "_law_way", "_law_great"]) F sc_law_number hg (F.binds (ps := ["_law_draws_here"]) fun _ _ _ _ _ _ us hl => match us, hl with | [_], _ => rfl) (fun cdv Ar outer s H E hr c => ?_)
  exact ⟨_, ((db_cons (ds_set 1 c.nd (de_call F_law_take hr (by decide) (da_cons (de_var 0 c.cn) (da_cons (de_int c.cn) (da_nil c.cn)))))
  (db_cons (ds_if (dt_lt (de_var 1 c.cn) (de_int c.cn))
  (db_one (ds_ret (de_sub (de_call F_law_take hr (by decide) (da_cons (de_var 0 c.cn) (da_cons (de_int c.cn) (da_nil c.cn)))) (de_int c.cn))))
  db_nil)
  (db_cons (ds_set 2 c.nd (de_call F_law_take hr (by decide) (da_cons (de_var 0 c.cn) (da_cons (de_idx (de_list (da_cons (de_pow (de_int c.cn) (de_int c.cn)) (da_cons (de_pow (de_int c.cn) (de_int c.cn)) (da_nil c.cn)))) (de_sub (de_var 1 c.cn) (de_int c.cn))) (da_nil c.cn)))))
  (db_one (ds_ret (de_idx (de_list (da_cons (de_var 2 c.cn) (da_cons (de_sub (de_int c.cn) (de_var 2 c.cn)) (da_nil c.cn)))) (de_call F_law_take hr (by decide) (da_cons (de_var 0 c.cn) (da_cons (de_int c.cn) (da_nil c.cn)))))))))))⟩
theorem fo_law_block (T : Txt P w K mg base A.toCa) : Fo P w K mg base (O A) 2 "_law_block" 2 (m_law_block A) := by
  have F_law_indices := fo_law_indices (A := A) T
  obtain ⟨f, fd, F, hg⟩ := T.f_law_block
  refine fo_mk (N := ["_law_shape_here", "_law_numbers", "_law_found", "_law_index", "_law_number_here"]) F sc_law_block hg (F.binds (ps := ["_law_shape_here", "_law_numbers"]) fun _ _ _ _ _ _ us hl => match us, hl with | [_, _], _ => rfl) (fun cdv Ar outer s H E hr c => ?_)
  exact ⟨_, ((db_cons (ds_set 2 c.nd (de_newT c.cn))
  (db_cons (ds_forS c (dj_zip T.b_zip (da_cons (de_call F_law_indices hr (by decide) (da_cons (de_var 0 c.cn) (da_nil c.cn))) (da_cons (de_var 1 c.cn) (da_nil c.cn)))) (dg_tup (n := 2) c.cn.hK c.hc (dgs_cons (dg_name 3 c.nd) (dgs_cons (dg_name 4 c.nd) dgs_nil)))
  (db_one (ds_setIT hr (de_var 2 c.cn) (de_var 3 c.cn) (de_var 4 c.cn))))
  (db_one (ds_ret (de_var 2 c.cn))))))⟩
theorem fo_law_sorted (T : Txt P w K mg base A.toCa) : Fo P w K mg base (O A) 3 "_law_sorted" 3 (m_law_sorted A) := by
  have F_law_block := fo_law_block (A := A) T
  have F_law_indices := fo_law_indices (A := A) T
  obtain ⟨f, fd, F, hg⟩ := T.f_law_sorted
  refine fo_mk (N := ["_law_shape_here", "_law_numbers", "_law_axis", "_law_block_here", "_law_zeros", "_law_keys", "_law_order", "_law_position", "_law_key", "_law_index"]) F sc_law_sorted hg (F.binds (ps := ["_law_shape_here", "_law_numbers", "_law_axis"]) fun _ _ _ _ _ _ us hl => match us, hl with | [_, _, _], _ => rfl) (fun cdv Ar outer s H E hr c => ?_)
  exact ⟨_, ((db_cons (ds_set 3 c.nd (de_call F_law_block hr (by decide) (da_cons (de_var 0 c.cn) (da_cons (de_var 1 c.cn) (da_nil c.cn)))))
  (db_cons (ds_set 4 c.nd (de_mulT (de_tup (da_cons (de_int c.cn) (da_nil c.cn))) (de_callBS (f := dLenS) (call_lenSG c.cn.hK) vcl_lenS T.b_len (by decide +kernel) (da_cons (de_var 0 c.cn) (da_nil c.cn)))))
  (db_cons (ds_setLc 5 c.nd (dlcS (own := [("_law_position", 7)]) c (DI.j (di_range1 T.b_range (da_cons (de_idxS hr (de_var 0 c.cn) (de_var 2 c.cn)) (da_nil c.cn)))) (blkOk_by (N := ["_law_shape_here", "_law_numbers", "_law_axis", "_law_block_here", "_law_zeros", "_law_keys", "_law_order", "_law_position", "_law_key", "_law_index"]) (sc := defScope s_law_sorted) (by decide +kernel)) (fun _ _ _ _ _ => (dg_name 7 c.nd)) (fun _ _ _ _ _ cn => dts_nil) (fun _ _ _ _ _ cn => (de_tup (da_cons (de_idxT hr (de_var 3 cn) (de_add (de_add (de_sliceS (de_var 4 cn) (do_none cn) (do_some (de_var 2 cn))) (de_tup (da_cons (de_var 7 cn) (da_nil cn)))) (de_sliceS (de_var 4 cn) (do_some (de_add (de_var 2 cn) (de_int cn))) (do_none cn)))) (da_cons (de_var 7 cn) (da_nil cn)))))))
  (db_cons (ds_set 6 c.nd (dlcS (own := [("_law_key", 8), ("_law_position", 7)]) c (dj_seq (dn_sortedQ T.b_sorted (da_cons (de_var 5 c.cn) (da_nil c.cn))).de) (blkOk_by (N := ["_law_shape_here", "_law_numbers", "_law_axis", "_law_block_here", "_law_zeros", "_law_keys", "_law_order", "_law_position", "_law_key", "_law_index"]) (sc := defScope s_law_sorted) (by decide +kernel)) (fun _ _ _ _ _ => (dg_tup (n := 2) c.cn.hK c.hc (dgs_cons (dg_name 8 c.nd) (dgs_cons (dg_name 7 c.nd) dgs_nil)))) (fun _ _ _ _ _ cn => dts_nil) (fun _ _ _ _ _ cn => (de_var 7 cn))).dn.de)
  (db_one (ds_ret (dlcS (own := [("_law_index", 9)]) c (dj_seq (de_call F_law_indices hr (by decide) (da_cons (de_var 0 c.cn) (da_nil c.cn)))) (blkOk_by (N := ["_law_shape_here", "_law_numbers", "_law_axis", "_law_block_here", "_law_zeros", "_law_keys", "_law_order", "_law_position", "_law_key", "_law_index"]) (sc := defScope s_law_sorted) (by decide +kernel)) (fun _ _ _ _ _ => (dg_name 9 c.nd)) (fun _ _ _ _ _ cn => dts_nil) (fun _ _ _ _ _ cn => (de_idxT hr (de_var 3 cn) (de_add (de_add (de_sliceS (de_var 9 cn) (do_none cn) (do_some (de_var 2 cn))) (de_tup (da_cons (de_idxS hr (de_var 6 cn) (de_idxS hr (de_var 9 cn) (de_var 2 cn))) (da_nil cn)))) (de_sliceS (de_var 9 cn) (do_some (de_add (de_var 2 cn) (de_int cn))) (do_none cn)))))).dn.de)))))))⟩
theorem fo_product (T : Txt P w K mg base A.toCa) : Fo P w K mg base (O A) 1 "product" 1 (m_product A) := by
  obtain ⟨f, fd, F, hg⟩ := T.f_product
  refine fo_mk (N := ["lengths", "result", "length"]) F sc_product hg (F.binds (ps := ["lengths"]) fun _ _ _ _ _ _ us hl => match us, hl with | [_], _ => rfl) (fun cdv Ar outer s H E hr c => ?_)
  exact ⟨_, ((db_cons (ds_set 1 c.nd (de_int c.cn))
  (db_cons (ds_forS c (dj_seq (de_var 0 c.cn)) (dg_name 2 c.nd)
  (db_one (ds_aug 1 (f := dMul) c.nd iop_mulG vop_mul (de_var 2 c.cn))))
  (db_one (ds_ret (de_var 1 c.cn))))))⟩
theorem fo_around (T : Txt P w K mg base A.toCa) : Fo P w K mg base (O A) 3 "around" 2 (m_around A) := by
  have F_product := fo_product (A := A) T
  obtain ⟨f, fd, F, hg⟩ := T.f_around
  refine fo_mk (N := ["shape", "axis"]) F sc_around hg (F.binds (ps := ["shape", "axis"]) fun _ _ _ _ _ _ us hl => match us, hl with | [_, _], _ => rfl) (fun cdv Ar outer s H E hr c => ?_)
  exact ⟨_, ((db_cons (ds_if (dt_not (dt_chain (f := dLe) (g := dLt) op_le op_lt vop_intB vop_intB (de_int c.cn) (de_var 1 c.cn) (de_callBS (f := dLenS) (call_lenSG c.cn.hK) vcl_lenS T.b_len (by decide +kernel) (da_cons (de_var 0 c.cn) (da_nil c.cn)))))
  (db_one (ds_raise c T.e_AxisError hr (by decide) (da_cons (de_var 1 c.cn) (da_nil c.cn))))
  db_nil)
  (db_one (ds_ret (de_tup (da_cons (de_call F_product hr (by decide) (da_cons (de_sliceS (de_var 0 c.cn) (do_none c.cn) (do_some (de_var 1 c.cn))) (da_nil c.cn))) (da_cons (de_idxS hr (de_var 0 c.cn) (de_var 1 c.cn)) (da_cons (de_call F_product hr (by decide) (da_cons (de_sliceS (de_var 0 c.cn) (do_some (de_add (de_var 1 c.cn) (de_int c.cn))) (do_none c.cn)) (da_nil c.cn))) (da_nil c.cn)))))))))⟩
theorem fo_gather_axis (T : Txt P w K mg base A.toCa) : Fo P w K mg base (O A) 4 "gather_axis" 4 (m_gather_axis A) := by
  have F_around := fo_around (A := A) T
  obtain ⟨f, fd, F, hg⟩ := T.f_gather_axis
  refine fo_mk (N := ["shape", "numbers", "axis", "positions", "outer", "length", "inner", "position", "results", "high", "start"]) F sc_gather_axis hg (F.binds (ps := ["shape", "numbers", "axis", "positions"]) fun _ _ _ _ _ _ us hl => match us, hl with | [_, _, _, _], _ => rfl) (fun cdv Ar outer s H E hr c => ?_)
  exact ⟨_, ((db_cons (ds_asg (de_call F_around hr (by decide) (da_cons (de_var 0 c.cn) (da_cons (de_var 2 c.cn) (da_nil c.cn)))) (dg_tup (n := 3) c.cn.hK c.hc (dgs_cons (dg_name 4 c.nd) (dgs_cons (dg_name 5 c.nd) (dgs_cons (dg_name 6 c.nd) dgs_nil)))))
  (db_cons (ds_forS c (dj_seq (de_var 3 c.cn)) (dg_name 7 c.nd)
  (db_one (ds_if (dt_not (dt_chain (f := dLe) (g := dLt) op_le op_lt vop_intB vop_intB (de_int c.cn) (de_var 7 c.cn) (de_var 5 c.cn)))
  (db_one (ds_raise c T.e_FaultError hr (by decide) (da_cons (de_str c.cn) (da_nil c.cn))))
  db_nil)))
  (db_cons (ds_set 8 c.nd (DN.obj (dn_list (da_nil c.cn))))
  (db_cons (ds_forS c (DI.j (di_range1 T.b_range (da_cons (de_var 4 c.cn) (da_nil c.cn)))) (dg_name 9 c.nd)
  (db_one (ds_forS c (dj_seq (de_var 3 c.cn)) (dg_name 7 c.nd)
  (db_cons (ds_set 10 c.nd (de_mul (de_add (de_mul (de_var 9 c.cn) (de_var 5 c.cn)) (de_var 7 c.cn)) (de_var 6 c.cn)))
  (db_one (ds_expr (de_extSV (de_var 8 c.cn) (de_sliceS (de_var 1 c.cn) (do_some (de_var 10 c.cn)) (do_some (de_add (de_var 10 c.cn) (de_var 6 c.cn)))))))))))
  (db_one (ds_ret (de_var 8 c.cn))))))))⟩
theorem fo_sort_axis (T : Txt P w K mg base A.toCa) : Fo P w K mg base (O A) 5 "sort_axis" 3 (m_sort_axis A) := by
  have F_around := fo_around (A := A) T
  have F_gather_axis := fo_gather_axis (A := A) T
  obtain ⟨f, fd, F, hg⟩ := T.f_sort_axis
  refine fo_mk (N := ["shape", "numbers", "axis", "outer", "length", "inner", "keys", "position", "first"]) F sc_sort_axis hg (F.binds (ps := ["shape", "numbers", "axis"]) fun _ _ _ _ _ _ us hl => match us, hl with | [_, _, _], _ => rfl) (fun cdv Ar outer s H E hr c => ?_)
  exact ⟨_, ((db_cons (ds_asg (de_call F_around hr (by decide) (da_cons (de_var 0 c.cn) (da_cons (de_var 2 c.cn) (da_nil c.cn)))) (dg_tup (n := 3) c.cn.hK c.hc (dgs_cons (dg_name 3 c.nd) (dgs_cons (dg_name 4 c.nd) (dgs_cons (dg_name 5 c.nd) dgs_nil)))))
  (db_cons (ds_set 6 c.nd (dn_sortedQ T.b_sorted (da_cons (dlcS (own := [("position", 7)]) c (DI.j (di_range1 T.b_range (da_cons (de_var 4 c.cn) (da_nil c.cn)))) (blkOk_by (N := ["shape", "numbers", "axis", "outer", "length", "inner", "keys", "position", "first"]) (sc := defScope s_sort_axis) (by decide +kernel)) (fun _ _ _ _ _ => (dg_name 7 c.nd)) (fun _ _ _ _ _ cn => dts_nil) (fun _ _ _ _ _ cn => (de_tup (da_cons (de_idxS hr (de_var 1 cn) (de_mul (de_var 7 cn) (de_var 5 cn))) (da_cons (de_var 7 cn) (da_nil cn)))))).dn.de (da_nil c.cn))).de)
  (db_one (ds_ret (de_call F_gather_axis hr (by decide) (da_cons (de_var 0 c.cn) (da_cons (de_var 1 c.cn) (da_cons (de_var 2 c.cn) (da_cons (dlcS (own := [("first", 8), ("position", 7)]) c (dj_seq (de_var 6 c.cn)) (blkOk_by (N := ["shape", "numbers", "axis", "outer", "length", "inner", "keys", "position", "first"]) (sc := defScope s_sort_axis) (by decide +kernel)) (fun _ _ _ _ _ => (dg_tup (n := 2) c.cn.hK c.hc (dgs_cons (dg_name 8 c.nd) (dgs_cons (dg_name 7 c.nd) dgs_nil)))) (fun _ _ _ _ _ cn => dts_nil) (fun _ _ _ _ _ cn => (de_var 7 cn))).dn.de (da_nil c.cn)))))))))))⟩
theorem foN_law_same (T : Txt P w K mg base A.toCa) : ∀ n, Fo P w K mg base (O A) (1 + n) "_law_same" 2 (mN_law_same_2 A n)
  | 0 => by
    obtain ⟨f, fd, F, hg⟩ := T.f_law_same
    exact Fo.never hg F.kp (F.binds (ps := ["_law_found", "_law_due"]) fun _ _ _ _ _ _ us hl => match us, hl with | [_, _], _ => rfl) rfl
  | n + 1 => by
    have F_rec := foN_law_same T n
    obtain ⟨f, fd, F, hg⟩ := T.f_law_same
    refine fo_mk (N := ["_law_found", "_law_due", "_law_one", "_law_two"]) F sc_law_same hg (F.binds (ps := ["_law_found", "_law_due"]) fun _ _ _ _ _ _ us hl => match us, hl with | [_, _], _ => rfl) (fun cdv Ar outer s H E hr c => ?_)
    exact ⟨_, ((db_cons (ds_if (dt_truthS (de_isTS T.b_isinstance (de_var 1 c.cn) (da_cons (de_bltn (v := .ty "list") c.cn T.b_list (by decide +kernel) rfl (fun _ => .ty "list")) (da_cons (de_bltn (v := .ty "tuple") c.cn T.b_tuple (by decide +kernel) rfl (fun _ => .ty "tuple")) (da_nil c.cn)))))
  (db_cons (ds_if (DW.dt (dw_or (dt_neS hr (de_callBS (f := dIsIS) (call_isiG c.cn.hK) vcl_isIS T.b_isinstance (by decide +kernel) (da_cons (de_var 0 c.cn) (da_cons (de_bltn (v := .ty "list") c.cn T.b_list (by decide +kernel) rfl (fun _ => .ty "list")) (da_nil c.cn)))) (de_callBS (f := dIsIS) (call_isiG c.cn.hK) vcl_isIS T.b_isinstance (by decide +kernel) (da_cons (de_var 1 c.cn) (da_cons (de_bltn (v := .ty "list") c.cn T.b_list (by decide +kernel) rfl (fun _ => .ty "list")) (da_nil c.cn))))) (dw_or1 (dt_neS hr (de_callBS (f := dIsIS) (call_isiG c.cn.hK) vcl_isIS T.b_isinstance (by decide +kernel) (da_cons (de_var 0 c.cn) (da_cons (de_bltn (v := .ty "tuple") c.cn T.b_tuple (by decide +kernel) rfl (fun _ => .ty "tuple")) (da_nil c.cn)))) (de_callBS (f := dIsIS) (call_isiG c.cn.hK) vcl_isIS T.b_isinstance (by decide +kernel) (da_cons (de_var 1 c.cn) (da_cons (de_bltn (v := .ty "tuple") c.cn T.b_tuple (by decide +kernel) rfl (fun _ => .ty "tuple")) (da_nil c.cn))))))))
  (db_one (ds_ret (de_bl c.cn)))
  db_nil)
  (db_one (ds_ret (de_and (de_eqS hr (de_callBS (f := dLenS) (call_lenSG c.cn.hK) vcl_lenS T.b_len (by decide +kernel) (da_cons (de_var 0 c.cn) (da_nil c.cn))) (de_callBS (f := dLenS) (call_lenSG c.cn.hK) vcl_lenS T.b_len (by decide +kernel) (da_cons (de_var 1 c.cn) (da_nil c.cn)))) (de_one (de_callB (f := dAll) (call_allG c.cn.hK c.hc) vcl_all T.b_all (by decide +kernel) (da_cons (dlcS (own := [("_law_one", 2), ("_law_two", 3)]) c (dj_zip T.b_zip (da_cons (de_var 0 c.cn) (da_cons (de_var 1 c.cn) (da_nil c.cn)))) (blkOk_by (N := ["_law_found", "_law_due", "_law_one", "_law_two"]) (sc := defScope s_law_same) (by decide +kernel)) (fun _ _ _ _ _ => (dg_tup (n := 2) c.cn.hK c.hc (dgs_cons (dg_name 2 c.nd) (dgs_cons (dg_name 3 c.nd) dgs_nil)))) (fun _ _ _ _ _ cn => dts_nil) (fun _ _ _ _ _ cn => (de_call F_rec hr (Nat.le_refl _) (da_cons (de_var 2 cn) (da_cons (de_var 3 cn) (da_nil cn)))))).dn.de (da_nil c.cn))))))))
  db_nil)
  (db_cons (ds_if (dt_truthS (de_isTS T.b_isinstance (de_var 1 c.cn) (da_cons (de_bltn (v := .ty "bool") c.cn T.b_bool (by decide +kernel) rfl (fun _ => .ty "bool")) (da_cons (de_bltn (v := .ty "int") c.cn T.b_int (by decide +kernel) rfl (fun _ => .ty "int")) (da_nil c.cn)))))
  (db_one (ds_ret (de_and (de_callBS (f := dIsIS) (call_isiG c.cn.hK) vcl_isIS T.b_isinstance (by decide +kernel) (da_cons (de_var 0 c.cn) (da_cons (de_bltn (v := .ty "int") c.cn T.b_int (by decide +kernel) rfl (fun _ => .ty "int")) (da_nil c.cn)))) (de_and (de_eqS hr (de_callBS (f := dIsIS) (call_isiG c.cn.hK) vcl_isIS T.b_isinstance (by decide +kernel) (da_cons (de_var 0 c.cn) (da_cons (de_bltn (v := .ty "bool") c.cn T.b_bool (by decide +kernel) rfl (fun _ => .ty "bool")) (da_nil c.cn)))) (de_callBS (f := dIsIS) (call_isiG c.cn.hK) vcl_isIS T.b_isinstance (by decide +kernel) (da_cons (de_var 1 c.cn) (da_cons (de_bltn (v := .ty "bool") c.cn T.b_bool (by decide +kernel) rfl (fun _ => .ty "bool")) (da_nil c.cn))))) (de_one (de_eqS hr (de_var 0 c.cn) (de_var 1 c.cn)))))))
  db_nil)
  (db_one (ds_ret (de_and (de_is (de_callBS (f := dIsIS) (call_isiG c.cn.hK) vcl_isIS T.b_isinstance (by decide +kernel) (da_cons (de_var 0 c.cn) (da_cons (de_bltn (v := .ty "bool") c.cn T.b_bool (by decide +kernel) rfl (fun _ => .ty "bool")) (da_nil c.cn)))) (de_bl c.cn)) (de_one (de_eqS hr (de_var 0 c.cn) (de_var 1 c.cn)))))))))⟩
theorem fo_law_same (T : Txt P w K mg base A.toCa) : Fo P w K mg base (O A) 5 "_law_same" 2 (m_law_same_2 A) := foN_law_same T 4
def eD (i : Nat) : Expr := match defBody s_law_draws with
  | [.Return (some (.List es _)) _] => es.getD i (.Constant .none 0 ⟨0, 0, 0, 0⟩)
  | _ => .Constant .none 0 ⟨0, 0, 0, 0⟩
theorem ok_draws {f : Addr} {fd : FuncData} (F : Fun K "_law_draws" "_law_draws" s_law_draws f fd) : FnOk P w K mg base (L2.CX P w) 1 f fd ["_law_script"] (spDraws K) := by
  refine F.okX sc_law_draws (fun vs H Q E h => by obtain ⟨l, ns, rfl, _⟩ := h; rfl) (fun cdv Ar outer s H vs Q E hr h => ?_)
  obtain ⟨l, ns, rfl, hS, hl, q⟩ := h
  have tk : Takes (cxOf (L2.CX P w) P w K mg base ["_law_script", "_law_cell"] "_law_draws" (defScope s_law_draws) f cdv Ar outer s H E) (fun cls d _ H => E cls d H) := takes_of rfl rfl rfl rfl
  have c : Cs K (fun cls d _ H => E cls d H) (cxOf (L2.CX P w) P w K mg base ["_law_script", "_law_cell"] "_law_draws" (defScope s_law_draws) f cdv Ar outer s H E) := ⟨⟨rfl, tk⟩, passes_of rfl, rfl, sc_law_draws.nd⟩
  have d1 : ∃ t, DN K W0 (fun cls d _ H => E cls d H) (cxOf (L2.CX P w) P w K mg base ["_law_script", "_law_cell"] "_law_draws" (defScope s_law_draws) f cdv Ar outer s H E) (eD 0) t (mLc W0 (mItS W0 (mVar W0 0)) (fName 1) (mTest W0 (mBin W0 dGe (mVar W0 1) (mBin W0 dPow (mC W0 (.int 10)) (mC W0 (.int 18))))) (mVar W0 1) [1]) := ⟨_, (dlc (K := K) (O := W0) (own := [("_law_cell", 1)]) c (di_seq (de_var 0 c.cn)) (blkOk_by (N := ["_law_script", "_law_cell"]) (sc := defScope s_law_draws) (by decide +kernel)) (fun _ _ _ _ _ => (dg_name 1 c.nd)) (fun _ _ _ _ _ cn => (dts_one (dt_ge (de_var 1 cn) (de_pow (de_int cn) (de_int cn))))) (fun _ _ _ _ _ cn => (de_var 1 cn))).dn⟩
  obtain ⟨t1, d1⟩ := d1
  have d2 : ∃ t, DN K W0 (fun cls d _ H => E cls d H) (cxOf (L2.CX P w) P w K mg base ["_law_script", "_law_cell"] "_law_draws" (defScope s_law_draws) f cdv Ar outer s H E) (eD 2) t (mLc W0 (mItS W0 (mVar W0 0)) (fName 1) (mTest W0 (mBin W0 dLt (mVar W0 1) (mBin W0 dPow (mC W0 (.int 10)) (mC W0 (.int 18))))) (mVar W0 1) [1]) := ⟨_, (dlc (K := K) (O := W0) (own := [("_law_cell", 1)]) c (di_seq (de_var 0 c.cn)) (blkOk_by (N := ["_law_script", "_law_cell"]) (sc := defScope s_law_draws) (by decide +kernel)) (fun _ _ _ _ _ => (dg_name 1 c.nd)) (fun _ _ _ _ _ cn => (dts_one (dt_lt (de_var 1 cn) (de_pow (de_int cn) (de_int cn))))) (fun _ _ _ _ _ cn => (de_var 1 cn))).dn⟩
  obtain ⟨t2, d2⟩ := d2
  refine ⟨_, pss_one (ps_ret (pe_lst (pa_cons d1.pe (pa_cons pe_int (pa_cons d2.pe (pa_cons pe_int pa_nil)))))), ?_⟩
  exact draws_read (E := E) rfl d1.sn d2.sn rfl hS (draws_m1 hl) (draws_m2 hl) q
theorem ok_law {C : Ca} {f : Addr} {fd : FuncData} (T : Txt P w K mg base C) (F : Fun K "law" "law" s_law f fd)
    (hm : ∀ (A : Ad) (ns : List Int), A.es = [.AxisError, .FaultError] → A.toCa.Inj → ns.length ≤ 63 → ∃ s, mb_law A (.sh (.lst (ns.map D.int)) :: .sh (.ref A.d) :: List.replicate 9 .no) ⟨ns.filter (fun n => decide (10 ^ 18 ≤ n)), 0, ns.filter (fun n => decide (n < 10 ^ 18)), 0, []⟩ = .rt (.bl true) s) :
    FnOk P w K mg base (L2.CX P w) 6 f fd ["_law_script"] (spLaw K) := by
  obtain ⟨fD, fdD, FD, gD⟩ := T.f_law_draws
  have GD : FnOk P w K mg base (L2.CX P w) 1 fD fdD ["_law_script"] (spDraws K) := ok_draws FD
  have bD := FD.binds (ps := ["_law_script"]) fun _ _ _ _ _ _ us hl => match us, hl with | [_], _ => rfl
  refine F.okX (N := ["_law_script", "_law_draws_here", "_law_turn", "_law_shape_here", "_law_numbers", "_law_again", "_law_axis", "_law_due", "_law_kept", "_law_found", "_law_index"]) sc_law (fun vs H Q E h => by obtain ⟨l, ns, rfl, _⟩ := h; rfl) (fun cdv Ar outer s H vs Q E hr h => ?_)
  obtain ⟨l, ns, rfl, hS, hl, q⟩ := h
  have tk : Takes (cxOf (L2.CX P w) P w K mg base ["_law_script", "_law_draws_here", "_law_turn", "_law_shape_here", "_law_numbers", "_law_again", "_law_axis", "_law_due", "_law_kept", "_law_found", "_law_index"] "law" (defScope s_law) f cdv Ar outer s H E) (fun cls d _ H => E cls d H) := takes_of rfl rfl rfl rfl
  have c : Cs K (fun cls d _ H => E cls d H) (cxOf (L2.CX P w) P w K mg base ["_law_script", "_law_draws_here", "_law_turn", "_law_shape_here", "_law_numbers", "_law_again", "_law_axis", "_law_due", "_law_kept", "_law_found", "_law_index"] "law" (defScope s_law) f cdv Ar outer s H E) := ⟨⟨rfl, tk⟩, passes_of rfl, rfl, sc_law.nd⟩
  have D : ∀ o : Addr × Addr × Addr, ∃ t, DB K (O ⟨C, o.1, o.2.1, o.2.2⟩) (fun cls d _ H => E cls d H) (cxOf (L2.CX P w) P w K mg base ["_law_script", "_law_draws_here", "_law_turn", "_law_shape_here", "_law_numbers", "_law_again", "_law_axis", "_law_due", "_law_kept", "_law_found", "_law_index"] "law" (defScope s_law) f cdv Ar outer s H E) (defBody s_law).tail t (mb_law ⟨C, o.1, o.2.1, o.2.2⟩) := by
    intro o
    let A : Ad := ⟨C, o.1, o.2.1, o.2.2⟩
    have F_law_indices := fo_law_indices (A := A) T
    have F_law_number := fo_law_number (A := A) T
    have F_law_same := fo_law_same (A := A) T
    have F_law_shape := fo_law_shape (A := A) T
    have F_law_sorted := fo_law_sorted (A := A) T
    have F_law_take := fo_law_take (A := A) T
    have F_sort_axis := fo_sort_axis (A := A) T
    exact ⟨_, (db_cons (ds_forS c (DI.j (di_range1 T.b_range (da_cons (de_int c.cn) (da_nil c.cn)))) (dg_name 2 c.nd)
  (db_cons (ds_set 3 c.nd (de_call F_law_shape hr (by decide) (da_cons (de_var 1 c.cn) (da_nil c.cn))))
  (db_cons (ds_setLc 4 c.nd (dlcS (own := [("_law_index", 10)]) c (dj_seq (de_call F_law_indices hr (by decide) (da_cons (de_var 3 c.cn) (da_nil c.cn)))) (blkOk_by (N := ["_law_script", "_law_draws_here", "_law_turn", "_law_shape_here", "_law_numbers", "_law_again", "_law_axis", "_law_due", "_law_kept", "_law_found", "_law_index"]) (sc := defScope s_law) (by decide +kernel)) (fun _ _ _ _ _ => (dg_name 10 c.nd)) (fun _ _ _ _ _ cn => dts_nil) (fun _ _ _ _ _ cn => (de_call F_law_take hr (by decide) (da_cons (de_var 1 cn) (da_cons (de_int cn) (da_nil cn)))))))
  (db_cons (ds_if (dt_eq hr (de_call F_law_take hr (by decide) (da_cons (de_var 1 c.cn) (da_cons (de_int c.cn) (da_nil c.cn)))) (de_int c.cn))
  (db_one (ds_setLc 4 c.nd (dlcS (own := [("_law_index", 10)]) c (dj_seq (de_call F_law_indices hr (by decide) (da_cons (de_var 3 c.cn) (da_nil c.cn)))) (blkOk_by (N := ["_law_script", "_law_draws_here", "_law_turn", "_law_shape_here", "_law_numbers", "_law_again", "_law_axis", "_law_due", "_law_kept", "_law_found", "_law_index"]) (sc := defScope s_law) (by decide +kernel)) (fun _ _ _ _ _ => (dg_name 10 c.nd)) (fun _ _ _ _ _ cn => dts_nil) (fun _ _ _ _ _ cn => (de_call F_law_number hr (by decide) (da_cons (de_var 1 cn) (da_nil cn)))))))
  db_nil)
  (db_one (ds_forS c (DI.j (di_range1 T.b_range (da_cons (de_int c.cn) (da_nil c.cn)))) (dg_name 5 c.nd)
  (db_cons (ds_set 6 c.nd (de_call F_law_take hr (by decide) (da_cons (de_var 1 c.cn) (da_cons (de_callBS (f := dLenS) (call_lenSG c.cn.hK) vcl_lenS T.b_len (by decide +kernel) (da_cons (de_var 3 c.cn) (da_nil c.cn))) (da_nil c.cn)))))
  (db_cons (ds_set 7 c.nd (de_call F_law_sorted hr (by decide) (da_cons (de_var 3 c.cn) (da_cons (de_var 4 c.cn) (da_cons (de_var 6 c.cn) (da_nil c.cn))))))
  (db_cons (ds_set 8 c.nd (dn_listOfS T.b_list (da_cons (de_var 4 c.cn) (da_nil c.cn))).de)
  (db_cons (ds_set 9 c.nd (de_call F_sort_axis hr (by decide) (da_cons (de_var 3 c.cn) (da_cons (de_var 4 c.cn) (da_cons (de_var 6 c.cn) (da_nil c.cn))))))
  (db_cons (ds_if (dt_not (dt_truthS (de_call F_law_same hr (by decide) (da_cons (de_var 9 c.cn) (da_cons (de_var 7 c.cn) (da_nil c.cn))))))
  (db_one (ds_ret (de_bl c.cn)))
  db_nil)
  (db_cons (ds_expr (de_mutL own_app PySem.F.slot_list_append PySem.F.type_list_append mt_append (de_var 9 c.cn) (da_cons (de_int c.cn) (da_nil c.cn))))
  (db_cons (ds_if (dt_neS hr (de_var 4 c.cn) (de_var 8 c.cn))
  (db_one (ds_ret (de_bl c.cn)))
  db_nil)
  (db_cons (ds_if (dt_not (dt_truthS (de_call F_law_same hr (by decide) (da_cons (de_call F_sort_axis hr (by decide) (da_cons (dn_listOfS T.b_list (da_cons (de_var 3 c.cn) (da_nil c.cn))).de (da_cons (de_callTS (f := dTupOfS) (call_tupG c.cn.hK) vcl_tupOfS T.b_tuple (by decide +kernel) (da_cons (de_var 4 c.cn) (da_nil c.cn))) (da_cons (de_var 6 c.cn) (da_nil c.cn))))) (da_cons (de_var 7 c.cn) (da_nil c.cn))))))
  (db_one (ds_ret (de_bl c.cn)))
  db_nil)
  (db_one (ds_set 4 c.nd (de_var 7 c.cn)))))))))))))))))
  (db_one (ds_ret (de_bl c.cn))))⟩
  refine ⟨_, pss_cons (rest := (defBody s_law).tail) (ps_set (i := 1) sc_law.nd rfl (by first | exact Or.inl rfl | exact Or.inr rfl) (pe_callS GD (hr.mono (by decide)) (by rfl) gD FD.kp bD (fun σ => passAt tk σ) (pa_cons (pv 0) pa_nil))) (pss_ex fun o => (D o).choose_spec.pe), ?_⟩
  refine ⟨.ref l, rfl, l, ns, rfl, hS, by omega, fun H1 d a b sm nd na nb ok => ⟨(d, a, b), ?_⟩⟩
  obtain ⟨s1, e⟩ := hm ⟨C, d, a, b⟩ ns T.es T.inj hl
  refine (D (d, a, b)).choose_spec.sn (gf H) H1 _ _ (gf H) H1 _ _ (law_fm (n := 9) hS sm nd na nb ok rfl rfl rfl rfl) ?_
  rw [e]
  exact fun v G' H' _ _ _ r => by cases r; exact q H'
end
end
end K46
namespace S
open PySem PySem.Spec PyProof.Rows L2 RZ Mr
variable {qst : List Ob}
theorem bk_app (B : List Int) : ∀ (A : List Int) (is : List (List Int)), indsF (A ++ B) is = indsF B (indsF A is)
  | [], _ => rfl
  | _ :: A, _ => bk_app B A _
theorem bk_pre : ∀ (sh : List Int) (is : List (List Int)), indsF sh is = is.flatMap fun i => (indsL sh).map (i ++ ·)
  | [], is => by simp [indsF, indsL]
  | l :: sh, is => by
    have h0 : indsL (l :: sh) = (rng l).flatMap fun k => (indsL sh).map (k :: ·) := by
      show indsF sh _ = _
      rw [bk_pre sh]
      simp [List.flatMap_map]
    show indsF sh _ = _
    rw [bk_pre sh, h0, List.flatMap_assoc]
    congr 1
    funext i
    rw [List.flatMap_map, List.map_flatMap]
    congr 1
    funext k
    rw [List.map_map]
    congr 1
    funext j
    simp
theorem bk_cons (l : Int) (sh : List Int) : indsL (l :: sh) = (rng l).flatMap fun k => (indsL sh).map (k :: ·) := by
  show indsF sh _ = _
  rw [bk_pre sh]
  simp [List.flatMap_map]
theorem bk_split (A B : List Int) (n : Int) : indsL (A ++ n :: B) = (indsL A).flatMap fun hi => (rng n).flatMap fun k => (indsL B).map fun lo => hi ++ k :: lo := by
  show indsF (A ++ n :: B) [[]] = _
  rw [bk_app, bk_pre]
  show (indsL A).flatMap _ = _
  congr 1
  funext hi
  rw [bk_cons, List.map_flatMap]
  congr 1
  funext k
  rw [List.map_map]
  rfl
theorem fm_len {α β : Type} (f : α → List β) (m : Nat) : ∀ (xs : List α), (∀ x ∈ xs, (f x).length = m) → (xs.flatMap f).length = xs.length * m
  | [], _ => by simp
  | x :: xs, h => by
    rw [List.flatMap_cons, List.length_append, fm_len f m xs fun y hy => h y (List.mem_cons_of_mem _ hy), h x List.mem_cons_self, List.length_cons, Nat.succ_mul, Nat.add_comm]
theorem fm_get {α β : Type} (f : α → List β) (m : Nat) : ∀ (xs : List α) (h l : Nat) (a : α), (∀ x ∈ xs, (f x).length = m) → xs[h]? = some a → l < m → (xs.flatMap f)[h * m + l]? = (f a)[l]?
  | [], _, _, _, _, e, _ => by simp at e
  | x :: xs, 0, l, a, hm, e, hl => by
    have e : x = a := by simpa using e
    subst e
    rw [List.flatMap_cons, Nat.zero_mul, Nat.zero_add, List.getElem?_append_left (by rw [hm _ List.mem_cons_self]; exact hl)]
  | x :: xs, h + 1, l, a, hm, e, hl => by
    have e : xs[h]? = some a := by simpa using e
    have lx := hm x List.mem_cons_self
    rw [List.flatMap_cons, List.getElem?_append_right (by rw [lx, Nat.succ_mul]; omega), lx]
    rw [show (h + 1) * m + l - m = h * m + l by rw [Nat.succ_mul]; omega]
    exact fm_get f m xs h l a (fun y hy => hm y (List.mem_cons_of_mem _ hy)) e hl
theorem inds_lenN {sh : List Int} (h : ∀ l ∈ sh, 1 ≤ l) : (indsL sh).length = (prodL sh).toNat := by
  have := inds_len sh h
  omega
/-- the place of an index -/
theorem bk_rank {A B : List Int} {n p : Int} {h l : Nat} {hi lo : List Int} (hA : ∀ x ∈ A, 1 ≤ x) (hB : ∀ x ∈ B, 1 ≤ x) (p0 : 0 ≤ p) (p1 : p < n) (eh : (indsL A)[h]? = some hi) (el : (indsL B)[l]? = some lo) :
    (indsL (A ++ n :: B))[(h * n.toNat + p.toNat) * (indsL B).length + l]? = some (hi ++ p :: lo) := by
  have hl : l < (indsL B).length := (List.getElem?_eq_some_iff.mp el).1
  rw [bk_split]
  have i0 : ∀ (hi : List Int) (k : Int), ((indsL B).map fun lo => hi ++ k :: lo).length = (indsL B).length := fun _ _ => by rw [List.length_map]
  have i1 : ∀ hi : List Int, ((rng n).flatMap fun k => (indsL B).map fun lo => hi ++ k :: lo).length = n.toNat * (indsL B).length := fun hi => by
    rw [fm_len _ (indsL B).length _ fun k _ => i0 hi k, rng_len]
  have e0 : (h * n.toNat + p.toNat) * (indsL B).length + l = h * (n.toNat * (indsL B).length) + (p.toNat * (indsL B).length + l) := by
    rw [Nat.add_mul, Nat.mul_assoc]
    omega
  have pn : p.toNat < n.toNat := by omega
  have lt : p.toNat * (indsL B).length + l < n.toNat * (indsL B).length := by
    have := Nat.mul_le_mul_right (indsL B).length (show p.toNat + 1 ≤ n.toNat by omega)
    rw [Nat.add_mul] at this
    omega
  rw [e0, fm_get _ (n.toNat * (indsL B).length) _ h _ hi (fun x _ => i1 x) eh lt]
  have ep : (rng n)[p.toNat]? = some p := by
    unfold rng
    rw [List.getElem?_map, List.getElem?_range pn]
    simp
    omega
  rw [fm_get _ (indsL B).length _ p.toNat l p (fun k _ => i0 hi k) ep hl, List.getElem?_map, el]
  rfl
theorem idx_nodup {sh : List Int} (h : ∀ l ∈ sh, 1 ≤ l) : (indsL sh).Nodup := by
  induction sh with
  | nil => simp [indsL, indsF]
  | cons l sh ih =>
    have ih := ih fun x hx => h x (List.mem_cons_of_mem _ hx)
    rw [bk_cons]
    have rn : (rng l).Nodup := by
      unfold rng
      rw [List.Nodup, List.pairwise_map]
      exact (List.nodup_range (n := l.toNat)).imp fun h => by omega
    rw [List.Nodup, List.pairwise_flatMap]
    refine ⟨fun k _ => ?_, rn.imp fun {a b} hab x hx y hy e => ?_⟩
    · rw [List.pairwise_map]
      exact ih.imp fun {a b} hab e => hab (List.cons.inj e).2
    · rw [List.mem_map] at hx hy
      obtain ⟨i, _, rfl⟩ := hx
      obtain ⟨j, _, rfl⟩ := hy
      exact hab (List.cons.inj e).1
def kyL (i : List Int) : List Key := i.map Sum.inl
theorem toKeys_ints : ∀ i : List Int, toKeys (iD i) = some (kyL i)
  | [] => rfl
  | k :: i => by
    have := toKeys_ints i
    simp only [iD, List.map_cons, toKeys, toKey, Option.bind_some, kyL] at this ⊢
    rw [this]
    rfl
theorem kyL_inj {i j : List Int} (h : kyL i = kyL j) : i = j := by
  induction i generalizing j with
  | nil => cases j with
    | nil => rfl
    | cons b j => cases h
  | cons a i ih => cases j with
    | nil => cases h
    | cons b j =>
      have h1 := List.cons.inj h
      rw [Sum.inl.inj h1.1, ih h1.2]
def blkD (is : List (List Int)) (ns : List Int) : List (List Key × D) := (is.zip ns).map fun p => (kyL p.1, .int p.2)
theorem putT_new {kvs : List (List Key × D)} {k : List Key} {d : D} (h : ∀ p ∈ kvs, p.1 ≠ k) : putT kvs k d = kvs ++ [(k, d)] := by
  unfold putT
  rw [if_neg]
  rw [Bool.not_eq_true, List.any_eq_false]
  intro p hp
  simpa using h p hp
theorem blk_get : ∀ {is : List (List Int)} {ns : List Int} {n : Nat} {i : List Int} {v : Int}, is.Nodup → is[n]? = some i → ns[n]? = some v → valT (blkD is ns) (kyL i) = some (.int v)
  | [], _, _, _, _, _, e, _ => by simp at e
  | _ :: _, [], _, _, _, _, _, e => by simp at e
  | j :: is, m :: ns, 0, i, v, _, e1, e2 => by
    have e1 : j = i := by simpa using e1
    have e2 : m = v := by simpa using e2
    subst e1; subst e2
    simp [valT, blkD]
  | j :: is, m :: ns, n + 1, i, v, nd, e1, e2 => by
    have e1 : is[n]? = some i := by simpa using e1
    have e2 : ns[n]? = some v := by simpa using e2
    have ne : kyL j ≠ kyL i := fun z => by
      have := kyL_inj z
      subst this
      exact (List.nodup_cons.mp nd).1 (List.mem_of_getElem? e1)
    have ih := blk_get (List.nodup_cons.mp nd).2 e1 e2
    unfold valT blkD at ih ⊢
    rw [List.zip_cons_cons, List.map_cons, List.find?_cons]
    simp only [ne, decide_false]
    exact ih
end S
namespace S
open PySem PySem.Spec PyProof.Rows L2 RZ Mr
/-- the thing at an index with its place on the axis replaced -/
def gatL (len NB : Nat) (nums ps : List Int) (h k l : Nat) : Int := nums.getD ((h * len + (ps.getD k 0).toNat) * NB + l) 0
theorem bk_val {A B : List Int} {n p : Int} {nums : List Int} {h l : Nat} {hi lo : List Int} (hA : ∀ x ∈ A, 1 ≤ x) (hB : ∀ x ∈ B, 1 ≤ x) (hn : 1 ≤ n) (hl : nums.length = (indsL (A ++ n :: B)).length) (p0 : 0 ≤ p) (p1 : p < n) (eh : (indsL A)[h]? = some hi) (el : (indsL B)[l]? = some lo) :
    valT (blkD (indsL (A ++ n :: B)) nums) (kyL (hi ++ p :: lo)) = some (.int (nums.getD ((h * n.toNat + p.toNat) * (indsL B).length + l) 0)) := by
  have e := bk_rank hA hB p0 p1 eh el
  have lt := (List.getElem?_eq_some_iff.mp e).1
  have nd : (indsL (A ++ n :: B)).Nodup := idx_nodup fun x hx => by
    rcases List.mem_append.mp hx with q | q
    · exact hA x q
    · rcases List.mem_cons.mp q with rfl | q
      · exact hn
      · exact hB x q
  have e2 : nums[(h * n.toNat + p.toNat) * (indsL B).length + l]? = some (nums.getD ((h * n.toNat + p.toNat) * (indsL B).length + l) 0) := by
    rw [List.getD_eq_getElem?_getD, List.getElem?_eq_getElem (by omega)]
    rfl
  exact blk_get nd e e2
theorem mid_getD (nums : List Int) (st m : Nat) (h : st + m ≤ nums.length) : (nums.drop st).take m = (List.range m).map fun l => nums.getD (st + l) 0 := by
  refine List.ext_getElem? fun i => ?_
  by_cases hi : i < m
  · rw [List.getElem?_take_of_lt hi, List.getElem?_drop, List.getElem?_map, List.getElem?_range hi, Option.map_some, List.getD_eq_getElem?_getD, List.getElem?_eq_getElem (by omega)]
    rfl
  · rw [List.getElem?_eq_none (by simp; omega), List.getElem?_eq_none (by simp; omega)]
end S
namespace S
open PySem PySem.Spec PyProof.Rows L2 RZ Mr
variable {qst : List Ob}
def isSeq (d : D) (xs : List Int) : Prop := d = .lst (iD xs) ∨ d = .tup (iD xs)
theorem isSeq.sq {d : D} {xs : List Int} (h : isSeq d xs) : ∃ k, ∀ l, sqS l d = some (k, iD xs) := by
  rcases h with rfl | rfl
  · exact ⟨true, fun _ => rfl⟩
  · exact ⟨false, fun _ => rfl⟩
theorem cutN_drop (xs : List D) (n : Nat) : cutD xs (some (n : Int)) none = xs.drop n := by
  unfold Mr.cutD
  rw [HT.sIx_none, HT.sIx_nat]
  rw [List.take_of_length_le (by simp)]
  by_cases h : n ≤ xs.length
  · rw [Nat.min_eq_left h]
  · rw [Nat.min_eq_right (by omega), List.drop_length, List.drop_eq_nil_of_le (by omega)]
def mkS (k : Bool) (xs : List Int) : D := if k = true then .lst (iD xs) else .tup (iD xs)
theorem mkS_seq (k : Bool) (xs : List Int) : isSeq (mkS k xs) xs := by
  cases k
  · exact .inr rfl
  · exact .inl rfl
theorem product_ok (A : Ad) {s : Dr} {xs : List Int} {d : D} (hd : isSeq d xs) (h : ∀ x ∈ xs, 1 ≤ x) (hb : prodL xs ≤ 10 ^ 190) : m_product A [d] s = .ok (.int (prodL xs)) s := by
  have hst : ∀ s : Dr, (O A).st s = s.st := fun _ => rfl
  obtain ⟨k, q⟩ := hd.sq
  obtain ⟨y2, e⟩ := product_loop A (x0 := .sh d) (s := s) xs 1 .no h (by decide) (by rw [Int.one_mul]; exact hb)
  rw [Int.one_mul] at e
  have e' : forLS (O A).S (O A).st (fun _ => True) (fName 2) (bd_product_0 A) (iD xs) [.sh d, .sh (.int 1), .no] s = .nx [.sh d, .sh (.int (prodL xs)), y2] s := (forLS_eq (fun _ => trivial) _ _ _).trans e
  simp only [m_product, mb_product, mForS, mJS, EE, eEqS, seqS, toS, R.lift, asSeq, asList, asTup, List.replicate, Nat.reduceAdd, Nat.reduceSub, Nat.reduceLeDiff, Nat.reduceLT, Nat.reduceMul, Int.reduceToNat, Int.reduceEq, Int.reduceAdd, Int.reduceSub, Int.reduceNeg, reduceIte, Nat.reduceEqDiff, hst, q, e']
theorem slice_pre (A : Ad) {s : Dr} {d : D} {k : Bool} {P B : List Int} {n : Int} {ρ : Ev} {me : ME (O A)} {mi : ME (O A)} (q : ∀ l, sqS l d = some (k, iD (P ++ n :: B))) (e1 : me ρ s = .ok d s) (e2 : mi ρ s = .ok (.int (P.length : Int)) s) :
    mSliceS (O A) me (mNoPart (O A)) (mPart (O A) mi) ρ s = .ok (mkS k P) s := by
  have hst : ∀ s : Dr, (O A).st s = s.st := fun _ => rfl
  have ct : cutD (iD (P ++ n :: B)) none (some (P.length : Int)) = iD P := by
    rw [cut_take]
    simp [iD]
  simp only [mSliceS, mPart, mNoPart, EE, eEqS, seqS, toS, R.lift, asSeq, asList, asTup, List.replicate, Nat.reduceAdd, Nat.reduceSub, Nat.reduceLeDiff, Nat.reduceLT, Nat.reduceMul, Int.reduceToNat, Int.reduceEq, Int.reduceAdd, Int.reduceSub, Int.reduceNeg, reduceIte, Nat.reduceEqDiff, hst, e1, e2, q]
  cases k
  · show R.ok (D.tup _) s = _
    rw [ct]
    rfl
  · show R.ok (D.lst _) s = _
    rw [ct]
    rfl
theorem slice_post (A : Ad) {s : Dr} {d : D} {k : Bool} {P B : List Int} {n : Int} {ρ : Ev} {me : ME (O A)} {mi : ME (O A)} (q : ∀ l, sqS l d = some (k, iD (P ++ n :: B))) (e1 : me ρ s = .ok d s) (e2 : mi ρ s = .ok (.int ((P.length : Int) + 1)) s) :
    mSliceS (O A) me (mPart (O A) mi) (mNoPart (O A)) ρ s = .ok (mkS k B) s := by
  have hst : ∀ s : Dr, (O A).st s = s.st := fun _ => rfl
  have ct : cutD (iD (P ++ n :: B)) (some ((P.length : Int) + 1)) none = iD B := by
    have : ((P.length : Int) + 1) = ((P.length + 1 : Nat) : Int) := by omega
    rw [this]
    have e : iD (P ++ n :: B) = (iD P ++ [D.int n]) ++ iD B := by simp [iD]
    have l : P.length + 1 = (iD P ++ [D.int n]).length := by simp [iD]
    rw [cutN_drop, e, l, List.drop_left]
  simp only [mSliceS, mPart, mNoPart, EE, eEqS, seqS, toS, R.lift, asSeq, asList, asTup, List.replicate, Nat.reduceAdd, Nat.reduceSub, Nat.reduceLeDiff, Nat.reduceLT, Nat.reduceMul, Int.reduceToNat, Int.reduceEq, Int.reduceAdd, Int.reduceSub, Int.reduceNeg, reduceIte, Nat.reduceEqDiff, hst, e1, e2, q]
  cases k
  · show R.ok (D.tup _) s = _
    rw [ct]
    rfl
  · show R.ok (D.lst _) s = _
    rw [ct]
    rfl
theorem around_ok (A : Ad) {s : Dr} {d : D} {P B : List Int} {n : Int} (hd : isSeq d (P ++ n :: B)) (hP : ∀ x ∈ P, 1 ≤ x) (hB : ∀ x ∈ B, 1 ≤ x) (bP : prodL P ≤ 10 ^ 190) (bB : prodL B ≤ 10 ^ 190) :
    m_around A [d, .int (P.length : Int)] s = .ok (.tup [.int (prodL P), .int n, .int (prodL B)]) s := by
  have hst : ∀ s : Dr, (O A).st s = s.st := fun _ => rfl
  obtain ⟨k, q⟩ := hd.sq
  have ln : ∀ l, dLenS l [d] = some (.int ((P.length : Int) + (B.length + 1))) := fun l => by simp [dLenS, q, iD]
  have c0 : (0 : Int) ≤ (P.length : Int) := by omega
  have c1 : (P.length : Int) < (P.length : Int) + (B.length + 1) := by omega
  have a1 : mSliceS (O A) (mVar (O A) 0) (mNoPart (O A)) (mPart (O A) (mVar (O A) 1)) [.sh d, .sh (.int (P.length : Int))] s = .ok (mkS k P) s := slice_pre A q (by simp only [EE, eEqS, seqS, toS, R.lift, asSeq, asList, asTup, List.replicate, Nat.reduceAdd, Nat.reduceSub, Nat.reduceLeDiff, Nat.reduceLT, Nat.reduceMul, Int.reduceToNat, Int.reduceEq, Int.reduceAdd, Int.reduceSub, Int.reduceNeg, reduceIte, Nat.reduceEqDiff]) (by simp only [EE, eEqS, seqS, toS, R.lift, asSeq, asList, asTup, List.replicate, Nat.reduceAdd, Nat.reduceSub, Nat.reduceLeDiff, Nat.reduceLT, Nat.reduceMul, Int.reduceToNat, Int.reduceEq, Int.reduceAdd, Int.reduceSub, Int.reduceNeg, reduceIte, Nat.reduceEqDiff])
  have a2 : mSliceS (O A) (mVar (O A) 0) (mPart (O A) (mBin (O A) dAdd (mVar (O A) 1) (mC (O A) (.int 1)))) (mNoPart (O A)) [.sh d, .sh (.int (P.length : Int))] s = .ok (mkS k B) s := slice_post A q (by simp only [EE, eEqS, seqS, toS, R.lift, asSeq, asList, asTup, List.replicate, Nat.reduceAdd, Nat.reduceSub, Nat.reduceLeDiff, Nat.reduceLT, Nat.reduceMul, Int.reduceToNat, Int.reduceEq, Int.reduceAdd, Int.reduceSub, Int.reduceNeg, reduceIte, Nat.reduceEqDiff]) (by simp only [EE, eEqS, seqS, toS, R.lift, asSeq, asList, asTup, List.replicate, Nat.reduceAdd, Nat.reduceSub, Nat.reduceLeDiff, Nat.reduceLT, Nat.reduceMul, Int.reduceToNat, Int.reduceEq, Int.reduceAdd, Int.reduceSub, Int.reduceNeg, reduceIte, Nat.reduceEqDiff])
  have ix : ∀ l, dIdxS l d (.int (P.length : Int)) = some (.int n) := fun l => by
    have dc : dcS l d = none := by rcases hd with rfl | rfl <;> rfl
    have at_ : atI (iD (P ++ n :: B)) (P.length : Int) = some (.int n) := by
      simp [atI, ixN, iD]
      rw [if_pos c1, Option.bind_some, List.getElem?_append_right (by simp)]
      simp
    simp only [dIdxS, dc, q, at_]
  have p1 := product_ok A (s := s) (mkS_seq k P) hP bP
  have p2 := product_ok A (s := s) (mkS_seq k B) hB bB
  simp only [m_around, mb_around, mChain, mIdxS, mBinS, mClS, EE, eEqS, seqS, toS, R.lift, asSeq, asList, asTup, List.replicate, Nat.reduceAdd, Nat.reduceSub, Nat.reduceLeDiff, Nat.reduceLT, Nat.reduceMul, Int.reduceToNat, Int.reduceEq, Int.reduceAdd, Int.reduceSub, Int.reduceNeg, reduceIte, Nat.reduceEqDiff, hst, ln, c0, c1, a1, a2, ix, p1, p2]
end S
namespace S
open PySem PySem.Spec PyProof.Rows L2 RZ Mr
/-- gather_axis: its names -/
abbrev Gv (ds dn dp : D) (ax o n i : Int) (x7 x8 x9 x10 : Sl) : Ev := [.sh ds, .sh dn, .sh (.int ax), .sh dp, .sh (.int o), .sh (.int n), .sh (.int i), x7, x8, x9, x10]
section
variable {A : Ad} {ds dn dp : D} {ax o n i : Int} {x8 x9 x10 : Sl}
theorem chk_in (A : Ad) (s : Dr) : ∀ (ps : List Int) (x7 : Sl), (∀ p ∈ ps, 0 ≤ p ∧ p < n) → ∃ y7, forL (O A).S (fName 7) (bd_gather_axis_0 A) (iD ps) (Gv ds dn dp ax o n i x7 x8 x9 x10) s = .nx (Gv ds dn dp ax o n i y7 x8 x9 x10) s
  | [], x7, _ => ⟨x7, rfl⟩
  | p :: ps, x7, h => by
    obtain ⟨p0, p1⟩ := h p List.mem_cons_self
    obtain ⟨y7, e⟩ := chk_in A s ps (.sh (.int p)) fun q hq => h q (List.mem_cons_of_mem _ hq)
    refine ⟨y7, ?_⟩
    show forL _ _ _ (D.int p :: iD ps) _ s = _
    rw [forL_step rfl (by simp only [bd_gather_axis_0, mChain, EE, eEqS, seqS, toS, R.lift, asSeq, asList, asTup, List.replicate, Nat.reduceAdd, Nat.reduceSub, Nat.reduceLeDiff, Nat.reduceLT, Nat.reduceMul, Int.reduceToNat, Int.reduceEq, Int.reduceAdd, Int.reduceSub, Int.reduceNeg, reduceIte, Nat.reduceEqDiff, p0, p1] <;> rfl), e]
/-- the elements that one position gives -/
def sliceL (nums : List Int) (st m : Nat) : List Int := (nums.drop st).take m
theorem ext_step (A : Ad) {s : Dr} {q : List Ob} {nums acc : List Int} {h p st m : Nat} {x7 : Sl} (hn : isSeq dn nums) (hst : (st : Int) = ((h : Int) * n + p) * i) (hm : (m : Int) = i) (hq : s.st = q ++ [.lst (iD acc)]) (hl : acc.length + m ≤ 100000)
    (c1 : CMulG (h : Int) n) (c2 : CMulG ((h : Int) * n + p) i) :
    bd_gather_axis_1 A (Gv ds dn dp ax o n i (.sh (.int (p : Int))) (.sh (.obj q.length)) (.sh (.int (h : Int))) x10) s = .nx (Gv ds dn dp ax o n i (.sh (.int (p : Int))) (.sh (.obj q.length)) (.sh (.int (h : Int))) (.sh (.int (st : Int)))) (sto s (q ++ [.lst (iD (acc ++ sliceL nums st m))])) := by
  have hs0 : ∀ s : Dr, (O A).st s = s.st := fun _ => rfl
  obtain ⟨k, sq⟩ := hn.sq
  have at_ : s.st[q.length]? = some (.lst (iD acc)) := by rw [hq]; simp
  have ct : cutD (iD nums) (some (st : Int)) (some ((st : Int) + i)) = iD (sliceL nums st m) := by
    have : (st : Int) + i = ((st + m : Nat) : Int) := by omega
    rw [this, cut_mid, Nat.add_sub_cancel_left]
    simp [iD, sliceL]
  have ln : (iD acc).length + (iD (sliceL nums st m)).length ≤ 100000 := by
    simp [iD, sliceL]
    omega
  have fin : stPut (O A) s q.length (.lst (iD acc ++ iD (sliceL nums st m))) = sto s (q ++ [.lst (iD (acc ++ sliceL nums st m))]) := by
    show sto s (s.st.set _ _) = _
    rw [hq]
    simp [iD]
  have sl : mSliceS (O A) (mVar (O A) 1) (mPart (O A) (mVar (O A) 10)) (mPart (O A) (mBin (O A) dAdd (mVar (O A) 10) (mVar (O A) 6))) (Gv ds dn dp ax o n i (.sh (.int (p : Int))) (.sh (.obj q.length)) (.sh (.int (h : Int))) (.sh (.int (st : Int)))) s = .ok (mkS k (sliceL nums st m)) s := by
    simp only [mSliceS, mPart, EE, eEqS, seqS, toS, R.lift, asSeq, asList, asTup, List.replicate, Nat.reduceAdd, Nat.reduceSub, Nat.reduceLeDiff, Nat.reduceLT, Nat.reduceMul, Int.reduceToNat, Int.reduceEq, Int.reduceAdd, Int.reduceSub, Int.reduceNeg, reduceIte, Nat.reduceEqDiff, hs0, sq]
    cases k
    · show R.ok (D.tup _) s = _
      rw [ct]
      rfl
    · show R.ok (D.lst _) s = _
      rw [ct]
      rfl
  obtain ⟨k2, sq2⟩ := (mkS_seq k (sliceL nums st m)).sq
  simp only [bd_gather_axis_1, mDrop, mExtSV, EE, eEqS, seqS, toS, R.lift, asSeq, asList, asTup, List.replicate, Nat.reduceAdd, Nat.reduceSub, Nat.reduceLeDiff, Nat.reduceLT, Nat.reduceMul, Int.reduceToNat, Int.reduceEq, Int.reduceAdd, Int.reduceSub, Int.reduceNeg, reduceIte, Nat.reduceEqDiff, hs0, c1, c2, ← hst, sl, at_, sq2, ln, fin]
end
end S
namespace S
open PySem PySem.Spec PyProof.Rows L2 RZ Mr
section
variable {A : Ad} {ds dn dp : D} {ax o n i : Int} {x8 x9 x10 : Sl}
def posL (nums ps : List Int) (n m h : Nat) : List Int := ps.flatMap fun p => sliceL nums ((h * n + p.toNat) * m) m
def gathL (nums ps : List Int) (n m : Nat) (hs : List Nat) : List Int := hs.flatMap fun h => posL nums ps n m h
theorem slice_len (nums : List Int) (st m : Nat) : (sliceL nums st m).length ≤ m := by simp [sliceL]; omega
theorem posL_len (nums ps : List Int) (n m h : Nat) : (posL nums ps n m h).length ≤ ps.length * m := by
  induction ps with
  | nil => simp [posL]
  | cons p ps ih =>
    have := slice_len nums ((h * n + p.toNat) * m) m
    simp only [posL, List.flatMap_cons, List.length_append, List.length_cons] at ih ⊢
    rw [Nat.succ_mul]
    omega
theorem pos_loop (A : Ad) {q : List Ob} {nums : List Int} {h m : Nat} (hn : isSeq dn nums) (n1 : 1 ≤ n ∧ n ≤ 64) (hm : (m : Int) = i) (i1 : 1 ≤ i ∧ i ≤ 64) (hh : h ≤ 64) : ∀ (ps acc : List Int) (x7 x10 : Sl) (s : Dr), s.st = q ++ [.lst (iD acc)] → (∀ p ∈ ps, 0 ≤ p ∧ p < n) → acc.length + ps.length * m ≤ 100000 →
    ∃ y7 y10, forL (O A).S (fName 7) (bd_gather_axis_1 A) (iD ps) (Gv ds dn dp ax o n i x7 (.sh (.obj q.length)) (.sh (.int (h : Int))) x10) s = .nx (Gv ds dn dp ax o n i y7 (.sh (.obj q.length)) (.sh (.int (h : Int))) y10) (sto s (q ++ [.lst (iD (acc ++ posL nums ps n.toNat m h))]))
  | [], acc, x7, x10, s, hq, _, _ => by
    refine ⟨x7, x10, ?_⟩
    have : sto s (q ++ [.lst (iD (acc ++ posL nums [] n.toNat m h))]) = s := by
      simp only [posL, List.flatMap_nil, List.append_nil]
      rw [← hq]
      rfl
    rw [this]
    rfl
  | p :: ps, acc, x7, x10, s, hq, hp, hl => by
    obtain ⟨p0, p1⟩ := hp p List.mem_cons_self
    rw [List.length_cons, Nat.succ_mul] at hl
    obtain ⟨st, hst⟩ : ∃ st, (h * n.toNat + p.toNat) * m = st := ⟨_, rfl⟩
    have ep : ((p.toNat : Nat) : Int) = p := Int.toNat_of_nonneg p0
    have en : ((n.toNat : Nat) : Int) = n := Int.toNat_of_nonneg (by omega)
    have hst' : (st : Int) = ((h : Int) * n + (p.toNat : Nat)) * i := by
      rw [← hst, Int.natCast_mul, Int.natCast_add, Int.natCast_mul, en, hm]
    have b1 : (0 : Int) ≤ (h : Int) * n ∧ (h : Int) * n ≤ 64 * 64 := ⟨Int.mul_nonneg (by omega) (by omega), Int.mul_le_mul (by omega) (by omega) (by omega) (by omega)⟩
    have sl := slice_len nums st m
    have st1 := ext_step A (s := s) (ds := ds) (dp := dp) (ax := ax) (o := o) (x10 := x10) (x7 := x7) (p := p.toNat) hn hst' hm hq (by omega) (mulG (by omega) (by omega) (by omega) (by omega)) (mulG (by omega) (by omega) (by omega) (by omega))
    obtain ⟨y7, y10, e⟩ := pos_loop A hn n1 hm i1 hh ps (acc ++ sliceL nums st m) (.sh (.int ((p.toNat : Nat) : Int))) (.sh (.int (st : Int))) (sto s (q ++ [.lst (iD (acc ++ sliceL nums st m))])) rfl (fun r hr => hp r (List.mem_cons_of_mem _ hr)) (by rw [List.length_append]; omega)
    refine ⟨y7, y10, ?_⟩
    show forL _ _ _ (D.int p :: iD ps) _ s = _
    rw [ep] at st1 e
    rw [forL_step rfl st1, e, sto_sto, List.append_assoc]
    have : posL nums (p :: ps) n.toNat m h = sliceL nums st m ++ posL nums ps n.toNat m h := by
      simp only [posL, List.flatMap_cons, hst]
    rw [this]
theorem out_loop (A : Ad) {q : List Ob} {nums ps : List Int} {m : Nat} (hn : isSeq dn nums) (hd : isSeq dp ps) (n1 : 1 ≤ n ∧ n ≤ 64) (hm : (m : Int) = i) (i1 : 1 ≤ i ∧ i ≤ 64) (hp : ∀ p ∈ ps, 0 ≤ p ∧ p < n) : ∀ (hs : List Nat) (acc : List Int) (x7 x9 x10 : Sl) (s : Dr), s.st = q ++ [.lst (iD acc)] → (∀ h ∈ hs, h ≤ 64) → acc.length + hs.length * (ps.length * m) ≤ 100000 →
    ∃ y7 y9 y10, forL (O A).S (fName 9) (bd_gather_axis_2 A) (hs.map fun (h : Nat) => D.int (h : Int)) (Gv ds dn dp ax o n i x7 (.sh (.obj q.length)) x9 x10) s = .nx (Gv ds dn dp ax o n i y7 (.sh (.obj q.length)) y9 y10) (sto s (q ++ [.lst (iD (acc ++ gathL nums ps n.toNat m hs))]))
  | [], acc, x7, x9, x10, s, hq, _, _ => by
    refine ⟨x7, x9, x10, ?_⟩
    have : sto s (q ++ [.lst (iD (acc ++ gathL nums ps n.toNat m []))]) = s := by
      simp only [gathL, List.flatMap_nil, List.append_nil]
      rw [← hq]
      rfl
    rw [this]
    rfl
  | h :: hs, acc, x7, x9, x10, s, hq, hh, hl => by
    have hs0 : ∀ s : Dr, (O A).st s = s.st := fun _ => rfl
    rw [List.length_cons, Nat.succ_mul] at hl
    have pl := posL_len nums ps n.toNat m h
    obtain ⟨k, sq⟩ := hd.sq
    obtain ⟨z7, z10, e1⟩ := pos_loop A (ds := ds) (dp := dp) (ax := ax) (o := o) hn n1 hm i1 (hh h List.mem_cons_self) ps acc x7 x10 s hq hp (by omega)
    have e1' : forLS (O A).S (O A).st (fun _ => True) (fName 7) (bd_gather_axis_1 A) (iD ps) (Gv ds dn dp ax o n i x7 (.sh (.obj q.length)) (.sh (.int (h : Int))) x10) s = _ := (forLS_eq (fun _ => trivial) _ _ _).trans e1
    have st1 : bd_gather_axis_2 A (Gv ds dn dp ax o n i x7 (.sh (.obj q.length)) (.sh (.int (h : Int))) x10) s = .nx (Gv ds dn dp ax o n i z7 (.sh (.obj q.length)) (.sh (.int (h : Int))) z10) (sto s (q ++ [.lst (iD (acc ++ posL nums ps n.toNat m h))])) := by
      simp only [Gv] at e1' ⊢
      simp only [bd_gather_axis_2, mForS, mJS, EE, eEqS, seqS, toS, R.lift, asSeq, asList, asTup, List.replicate, Nat.reduceAdd, Nat.reduceSub, Nat.reduceLeDiff, Nat.reduceLT, Nat.reduceMul, Int.reduceToNat, Int.reduceEq, Int.reduceAdd, Int.reduceSub, Int.reduceNeg, reduceIte, Nat.reduceEqDiff, hs0, sq, e1']
    obtain ⟨y7, y9, y10, e⟩ := out_loop A hn hd n1 hm i1 hp hs (acc ++ posL nums ps n.toNat m h) z7 (.sh (.int (h : Int))) z10 (sto s (q ++ [.lst (iD (acc ++ posL nums ps n.toNat m h))])) rfl (fun r hr => hh r (List.mem_cons_of_mem _ hr)) (by rw [List.length_append]; omega)
    refine ⟨y7, y9, y10, ?_⟩
    rw [List.map_cons, forL_step rfl st1, e, sto_sto, List.append_assoc]
    have : gathL nums ps n.toNat m (h :: hs) = posL nums ps n.toNat m h ++ gathL nums ps n.toNat m hs := by
      simp only [gathL, List.flatMap_cons]
    rw [this]
end
end S
namespace S
open PySem PySem.Spec PyProof.Rows L2 RZ Mr
section
variable {A : Ad} {ds dn dp : D} {ax o n i : Int} {x8 x9 x10 : Sl}
theorem chk_bad (A : Ad) (s : Dr) : ∀ (ps : List Int) (x7 : Sl), (∃ p ∈ ps, ¬ (0 ≤ p ∧ p < n)) → ∃ ρ', forL (O A).S (fName 7) (bd_gather_axis_0 A) (iD ps) (Gv ds dn dp ax o n i x7 x8 x9 x10) s = .err (A.c .FaultError) [("reason", .str "index")] ρ' s
  | [], _, h => by obtain ⟨p, hp, _⟩ := h; cases hp
  | p :: ps, x7, h => by
    by_cases hp : 0 ≤ p ∧ p < n
    · obtain ⟨ρ', e⟩ := chk_bad A s ps (.sh (.int p)) (by
        obtain ⟨r, hr, hn⟩ := h
        rcases List.mem_cons.mp hr with rfl | hr
        · exact absurd hp hn
        · exact ⟨r, hr, hn⟩)
      refine ⟨ρ', ?_⟩
      show forL _ _ _ (D.int p :: iD ps) _ s = _
      obtain ⟨p0, p1⟩ := hp
      rw [forL_step rfl (by simp only [bd_gather_axis_0, mChain, EE, eEqS, seqS, toS, R.lift, asSeq, asList, asTup, List.replicate, Nat.reduceAdd, Nat.reduceSub, Nat.reduceLeDiff, Nat.reduceLT, Nat.reduceMul, Int.reduceToNat, Int.reduceEq, Int.reduceAdd, Int.reduceSub, Int.reduceNeg, reduceIte, Nat.reduceEqDiff, p0, p1] <;> rfl), e]
    · have fm : fmtD (.str "index") = true := by decide +kernel
      have e : bd_gather_axis_0 A (Gv ds dn dp ax o n i (.sh (.int p)) x8 x9 x10) s = .err (A.c .FaultError) [("reason", .str "index")] (Gv ds dn dp ax o n i (.sh (.int p)) x8 x9 x10) s := by
        by_cases p0 : 0 ≤ p
        · have p1 : ¬ p < n := fun z => hp ⟨p0, z⟩
          simp only [bd_gather_axis_0, mChain, mRaise, EE, eEqS, seqS, toS, R.lift, asSeq, asList, asTup, List.replicate, Nat.reduceAdd, Nat.reduceSub, Nat.reduceLeDiff, Nat.reduceLT, Nat.reduceMul, Int.reduceToNat, Int.reduceEq, Int.reduceAdd, Int.reduceSub, Int.reduceNeg, reduceIte, Nat.reduceEqDiff, p0, p1, fm, List.all_cons, List.all_nil, Bool.and_true, decide_true]
          rfl
        · simp only [bd_gather_axis_0, mChain, mRaise, EE, eEqS, seqS, toS, R.lift, asSeq, asList, asTup, List.replicate, Nat.reduceAdd, Nat.reduceSub, Nat.reduceLeDiff, Nat.reduceLT, Nat.reduceMul, Int.reduceToNat, Int.reduceEq, Int.reduceAdd, Int.reduceSub, Int.reduceNeg, reduceIte, Nat.reduceEqDiff, p0, fm, List.all_cons, List.all_nil, Bool.and_true, decide_true]
          rfl
      refine ⟨Gv ds dn dp ax o n i (.sh (.int p)) x8 x9 x10, ?_⟩
      show forL _ _ _ (D.int p :: iD ps) _ s = _
      unfold forL
      rw [show fName 7 (D.int p) (Gv ds dn dp ax o n i x7 x8 x9 x10) = some (Gv ds dn dp ax o n i (.sh (.int p)) x8 x9 x10) from rfl]
      dsimp only
      rw [e]
theorem gather_ok (A : Ad) {s : Dr} {P B nums ps : List Int} (hds : isSeq ds (P ++ n :: B)) (hdn : isSeq dn nums) (hdp : isSeq dp ps) (hP : ∀ x ∈ P, 1 ≤ x) (hB : ∀ x ∈ B, 1 ≤ x) (n1 : 1 ≤ n ∧ n ≤ 64) (bP : prodL P ≤ 64) (bB : 1 ≤ prodL B ∧ prodL B ≤ 64) (p0 : 1 ≤ prodL P)
    (hp : ∀ p ∈ ps, 0 ≤ p ∧ p < n) (hl : (prodL P).toNat * (ps.length * (prodL B).toNat) ≤ 100000) :
    m_gather_axis A [ds, dn, .int (P.length : Int), dp] s = .ok (.obj s.st.length) (sto s (s.st ++ [.lst (iD (gathL nums ps n.toNat (prodL B).toNat (List.range (prodL P).toNat)))])) := by
  have hs0 : ∀ s : Dr, (O A).st s = s.st := fun _ => rfl
  have ar := around_ok A (s := s) hds hP hB (by omega) (by omega)
  obtain ⟨k, sq⟩ := hdp.sq
  obtain ⟨y7, e1⟩ := chk_in (ds := ds) (dn := dn) (dp := dp) (ax := (P.length : Int)) (o := prodL P) (n := n) (i := prodL B) (x8 := .no) (x9 := .no) (x10 := .no) A s ps .no hp
  have e1' : forLS (O A).S (O A).st (fun _ => True) (fName 7) (bd_gather_axis_0 A) (iD ps) (Gv ds dn dp (P.length : Int) (prodL P) n (prodL B) .no .no .no .no) s = _ := (forLS_eq (fun _ => trivial) _ _ _).trans e1
  have rg := rng1_ok (A := A) (ma := mCons (O A) (mVar (O A) 4) (mNil (O A))) (ρ := Gv ds dn dp (P.length : Int) (prodL P) n (prodL B) y7 (.sh (.obj s.st.length)) .no .no) (s := sto s (s.st ++ [.lst []])) (s' := sto s (s.st ++ [.lst []])) (l := prodL P) (by simp only [EE, eEqS, seqS, toS, R.lift, asSeq, asList, asTup, List.replicate, Nat.reduceAdd, Nat.reduceSub, Nat.reduceLeDiff, Nat.reduceLT, Nat.reduceMul, Int.reduceToNat, Int.reduceEq, Int.reduceAdd, Int.reduceSub, Int.reduceNeg, reduceIte, Nat.reduceEqDiff]) (by omega) (by omega)
  have ir : iD (rng (prodL P)) = (List.range (prodL P).toNat).map fun (h : Nat) => D.int (h : Int) := by simp [iD, rng]
  rw [ir] at rg
  obtain ⟨z7, z9, z10, e2⟩ := out_loop (ds := ds) (dp := dp) (ax := (P.length : Int)) (o := prodL P) (n := n) (i := prodL B) A (q := s.st) (m := (prodL B).toNat) hdn hdp n1 (by omega) (by omega) hp (List.range (prodL P).toNat) [] y7 .no .no (sto s (s.st ++ [.lst []])) rfl (fun h hh => by rw [List.mem_range] at hh; omega) (by rw [List.length_range]; simpa using hl)
  have e2' : forLS (O A).S (O A).st (fun _ => True) (fName 9) (bd_gather_axis_2 A) ((List.range (prodL P).toNat).map fun (h : Nat) => D.int (h : Int)) (Gv ds dn dp (P.length : Int) (prodL P) n (prodL B) y7 (.sh (.obj s.st.length)) .no .no) (sto s (s.st ++ [.lst []])) = _ := (forLS_eq (fun _ => trivial) _ _ _).trans e2
  rw [List.nil_append, sto_sto] at e2'
  have mk : ∀ ρ, mObjL (O A) (mDisp (O A) (mNil (O A))) ρ s = .ok (.obj s.st.length) (sto s (s.st ++ [.lst []])) := fun ρ => by
    simp only [mObjL, mDisp, listMax, EE, eEqS, seqS, toS, R.lift, asSeq, asList, asTup, List.replicate, Nat.reduceAdd, Nat.reduceSub, Nat.reduceLeDiff, Nat.reduceLT, Nat.reduceMul, Int.reduceToNat, Int.reduceEq, Int.reduceAdd, Int.reduceSub, Int.reduceNeg, reduceIte, Nat.reduceEqDiff]
    rfl
  have ft : fTup 3 (fCons (fName 4) (fCons (fName 5) (fCons (fName 6) fNil))) (D.tup [D.int (prodL P), D.int n, D.int (prodL B)]) [Sl.sh ds, Sl.sh dn, Sl.sh (D.int ↑P.length), Sl.sh dp, Sl.no, Sl.no, Sl.no, Sl.no, Sl.no, Sl.no, Sl.no] = some [Sl.sh ds, Sl.sh dn, Sl.sh (D.int ↑P.length), Sl.sh dp, Sl.sh (.int (prodL P)), Sl.sh (.int n), Sl.sh (.int (prodL B)), Sl.no, Sl.no, Sl.no, Sl.no] := rfl
  simp only [Gv] at e1' rg e2'
  simp only [m_gather_axis, mb_gather_axis, mForS, mJS, mJI, EE, eEqS, seqS, toS, R.lift, asSeq, asList, asTup, List.replicate, Nat.reduceAdd, Nat.reduceSub, Nat.reduceLeDiff, Nat.reduceLT, Nat.reduceMul, Int.reduceToNat, Int.reduceEq, Int.reduceAdd, Int.reduceSub, Int.reduceNeg, reduceIte, Nat.reduceEqDiff, ar, ft, hs0, sq, e1', mk, rg, e2']
theorem gather_bad (A : Ad) {s : Dr} {P B nums ps : List Int} (hds : isSeq ds (P ++ n :: B)) (hdp : isSeq dp ps) (hP : ∀ x ∈ P, 1 ≤ x) (hB : ∀ x ∈ B, 1 ≤ x) (bP : prodL P ≤ 64) (bB : prodL B ≤ 64) (hp : ∃ p ∈ ps, ¬ (0 ≤ p ∧ p < n)) :
    m_gather_axis A [ds, dn, .int (P.length : Int), dp] s = .err (A.c .FaultError) [("reason", .str "index")] s := by
  have hs0 : ∀ s : Dr, (O A).st s = s.st := fun _ => rfl
  have ar := around_ok A (s := s) hds hP hB (by omega) (by omega)
  obtain ⟨k, sq⟩ := hdp.sq
  obtain ⟨ρ', e1⟩ := chk_bad (ds := ds) (dn := dn) (dp := dp) (ax := (P.length : Int)) (o := prodL P) (n := n) (i := prodL B) (x8 := .no) (x9 := .no) (x10 := .no) A s ps .no hp
  have e1' : forLS (O A).S (O A).st (fun _ => True) (fName 7) (bd_gather_axis_0 A) (iD ps) (Gv ds dn dp (P.length : Int) (prodL P) n (prodL B) .no .no .no .no) s = _ := (forLS_eq (fun _ => trivial) _ _ _).trans e1
  have ft : fTup 3 (fCons (fName 4) (fCons (fName 5) (fCons (fName 6) fNil))) (D.tup [D.int (prodL P), D.int n, D.int (prodL B)]) [Sl.sh ds, Sl.sh dn, Sl.sh (D.int ↑P.length), Sl.sh dp, Sl.no, Sl.no, Sl.no, Sl.no, Sl.no, Sl.no, Sl.no] = some [Sl.sh ds, Sl.sh dn, Sl.sh (D.int ↑P.length), Sl.sh dp, Sl.sh (.int (prodL P)), Sl.sh (.int n), Sl.sh (.int (prodL B)), Sl.no, Sl.no, Sl.no, Sl.no] := rfl
  simp only [Gv] at e1'
  simp only [m_gather_axis, mb_gather_axis, mForS, mJS, EE, eEqS, seqS, toS, R.lift, asSeq, asList, asTup, List.replicate, Nat.reduceAdd, Nat.reduceSub, Nat.reduceLeDiff, Nat.reduceLT, Nat.reduceMul, Int.reduceToNat, Int.reduceEq, Int.reduceAdd, Int.reduceSub, Int.reduceNeg, reduceIte, Nat.reduceEqDiff, ar, ft, hs0, sq, e1']
end
end S
namespace S
open PySem PySem.Spec PyProof.Rows L2 RZ Mr
theorem lc_linds4 (A : Ad) {x0 x1 x3 x5 : Sl} {s : Dr} {i : List Int} {l : Int} (h0 : 1 ≤ l) (h1 : l ≤ 4000) (hi : i.length ≤ 1000) :
    lc_law_indices_0 A [x0, x1, .sh (.int l), x3, .sh (tD i), x5] s = .ok (((rng l).map fun k => i ++ [k]).map tD) s := by
  have e1 := rng1_ok (A := A) (ma := mCons (O A) (mVar (O A) 2) (mNil (O A))) (ρ := [x0, x1, .sh (.int l), x3, .sh (tD i), x5]) (s := s) (s' := s) (l := l) (by simp only [EE, eEqS, seqS, toS, R.lift, asSeq, asList, asTup, List.replicate, Nat.reduceAdd, Nat.reduceSub, Nat.reduceLeDiff, Nat.reduceLT, Nat.reduceMul, Int.reduceToNat, Int.reduceEq, Int.reduceAdd, Int.reduceSub, Int.reduceNeg, reduceIte, Nat.reduceEqDiff]) (by omega) (by omega)
  simp only [lc_law_indices_0, mLc, wipeE, e1, EE, eEqS, seqS, toS, R.lift, asSeq, asList, asTup, List.replicate, Nat.reduceAdd, Nat.reduceSub, Nat.reduceLeDiff, Nat.reduceLT, Nat.reduceMul, Int.reduceToNat, Int.reduceEq, Int.reduceAdd, Int.reduceSub, Int.reduceNeg, reduceIte, Nat.reduceEqDiff]
  rw [lcL_map (O := O A) (fun d => match d with | .int k => tD (i ++ [k]) | _ => .non) (iD (rng l)) []
    (by
      intro e he
      rw [List.mem_map] at he
      obtain ⟨k, hk, rfl⟩ := he
      refine ⟨_, rfl, rfl, ?_⟩
      have ha : dAdd (tD i) (.tup [.int k]) = some (tD (i ++ [k])) := by
        simp only [dAdd, tD, iD, List.length_map, List.length_cons, List.length_nil]
        rw [if_pos (by omega), List.map_append]
        rfl
      simp only [EE, eEqS, seqS, toS, R.lift, asSeq, asList, asTup, List.replicate, Nat.reduceAdd, Nat.reduceSub, Nat.reduceLeDiff, Nat.reduceLT, Nat.reduceMul, Int.reduceToNat, Int.reduceEq, Int.reduceAdd, Int.reduceSub, Int.reduceNeg, reduceIte, Nat.reduceEqDiff, ha])
    (by simp [rng_len]; omega)]
  congr 1
  simp only [List.nil_append, iD, List.map_map]
  rfl
theorem linds_in4 (A : Ad) {x0 x1 : Sl} {s : Dr} {l : Int} (h0 : 1 ≤ l) (h1 : l ≤ 4000) : ∀ (is acc : List (List Int)) (x4 x5 : Sl), (∀ i ∈ is, i.length ≤ 1000) → acc.length + is.length * l.toNat ≤ 4000 →
    ∃ y4 y5, forL (O A).S (fName 4) (bd_law_indices_1 A) (is.map tD) [x0, x1, .sh (.int l), .own (acc.map tD), x4, x5] s = .nx [x0, x1, .sh (.int l), .own ((acc ++ is.flatMap fun i => (rng l).map fun k => i ++ [k]).map tD), y4, y5] s
  | [], acc, x4, x5, _, _ => ⟨x4, x5, by simp [forL]⟩
  | i :: is, acc, x4, x5, hc, hl => by
    rw [List.length_cons, Nat.add_mul] at hl
    obtain ⟨y4, y5, e⟩ := linds_in4 A (x0 := x0) (x1 := x1) (s := s) h0 h1 is (acc ++ (rng l).map fun k => i ++ [k]) (.sh (tD i)) x5 (fun x hx => hc x (List.mem_cons_of_mem _ hx)) (by rw [List.length_append, List.length_map, rng_len]; omega)
    have lc := lc_linds4 A (x0 := x0) (x1 := x1) (x3 := .own (acc.map tD)) (x5 := x5) (s := s) h0 h1 (hc i List.mem_cons_self)
    have hz : (acc.map tD).length + (((rng l).map fun k => i ++ [k]).map tD).length ≤ 100000 := by simp [rng_len]; omega
    refine ⟨y4, y5, ?_⟩
    show forL (O A).S _ _ (tD i :: is.map tD) _ s = _
    rw [forL_step rfl (by simp only [bd_law_indices_1, mExtend, EE, eEqS, seqS, toS, R.lift, asSeq, asList, asTup, List.replicate, Nat.reduceAdd, Nat.reduceSub, Nat.reduceLeDiff, Nat.reduceLT, Nat.reduceMul, Int.reduceToNat, Int.reduceEq, Int.reduceAdd, Int.reduceSub, Int.reduceNeg, reduceIte, Nat.reduceEqDiff, lc]; rw [if_pos hz]), ← List.map_append, e]
    simp
theorem linds_loop4 (A : Ad) {x0 : Sl} {s : Dr} : ∀ (sh : List Int) (is : List (List Int)) (n : Nat) (x2 x3 x4 x5 : Sl), (∀ l ∈ sh, 1 ≤ l) → (∀ i ∈ is, i.length ≤ n) → n + sh.length ≤ 1000 → (is.length : Int) * prodL sh ≤ 4000 → 0 < is.length →
    ∃ y2 y3 y4 y5, forL (O A).S (fName 2) (bd_law_indices_2 A) (iD sh) [x0, .sh (.lst (is.map tD)), x2, x3, x4, x5] s = .nx [x0, .sh (.lst ((indsF sh is).map tD)), y2, y3, y4, y5] s
  | [], is, n, x2, x3, x4, x5, _, _, _, _, _ => ⟨x2, x3, x4, x5, rfl⟩
  | l :: sh, is, n, x2, x3, x4, x5, hb, hi, hn, hp, h0 => by
    have p1 := prod_pos (xs := sh) fun x hx => hb x (List.mem_cons_of_mem _ hx)
    have a1 := hb l List.mem_cons_self
    have e1 : prodL (l :: sh) = l * prodL sh := rfl
    rw [e1, ← Int.mul_assoc] at hp
    have hcs : (1 : Int) ≤ is.length := by omega
    have hca : (is.length : Int) * l ≤ 4000 := by
      have h1 : (0 : Int) ≤ (is.length : Int) * l := Int.mul_nonneg (by omega) (by omega)
      have := Int.mul_le_mul_of_nonneg_left p1 h1
      omega
    have ha64 : l ≤ 4000 := by
      have := Int.mul_le_mul_of_nonneg_right hcs (show (0 : Int) ≤ l by omega)
      omega
    have hln : is.length * l.toNat ≤ 4000 := by
      have : ((is.length * l.toNat : Nat) : Int) = (is.length : Int) * l := by
        rw [Int.natCast_mul, Int.toNat_of_nonneg (by omega)]
      omega
    have hlen := inds_step_len is l
    rw [List.length_cons] at hn
    obtain ⟨z4, z5, e2⟩ := linds_in4 A (x0 := x0) (x1 := .sh (.lst (is.map tD))) (s := s) a1 ha64 is [] x4 x5 (fun i h => by have := hi i h; omega) (by simp; omega)
    rw [List.nil_append] at e2
    obtain ⟨y2, y3, y4, y5, e⟩ := linds_loop4 A (x0 := x0) (s := s) sh (is.flatMap fun i => (rng l).map fun k => i ++ [k]) (n + 1) (.sh (.int l)) (.sh (.lst ((is.flatMap fun i => (rng l).map fun k => i ++ [k]).map tD))) z4 z5 (fun x hx => hb x (List.mem_cons_of_mem _ hx))
      (by
        intro i hm
        rw [List.mem_flatMap] at hm
        obtain ⟨i0, h3, h4⟩ := hm
        rw [List.mem_map] at h4
        obtain ⟨k, _, rfl⟩ := h4
        have := hi i0 h3
        simp
        omega) (by omega)
      (by
        rw [hlen, Int.natCast_mul, Int.toNat_of_nonneg (by omega)]
        exact hp) (by rw [hlen]; exact Nat.mul_pos h0 (by omega))
    refine ⟨y2, y3, y4, y5, ?_⟩
    show forL (O A).S _ _ (D.int l :: iD sh) _ s = _
    simp only [List.map_nil] at e2
    rw [forL_step rfl (by simp only [bd_law_indices_2, mOwn, mDisp, listMax, mFrz, frzE, EE, eEqS, seqS, toS, R.lift, asSeq, asList, asTup, List.replicate, Nat.reduceAdd, Nat.reduceSub, Nat.reduceLeDiff, Nat.reduceLT, Nat.reduceMul, Int.reduceToNat, Int.reduceEq, Int.reduceAdd, Int.reduceSub, Int.reduceNeg, reduceIte, Nat.reduceEqDiff, e2]; rfl), e]
    rfl
theorem law_indices_ok4 (A : Ad) {s : Dr} {sh : List Int} {d : D} (hd : isSq d sh) (hb : ∀ l ∈ sh, 1 ≤ l) (hp : prodL sh ≤ 4000) (hl : sh.length ≤ 100) : m_law_indices A [d] s = .ok (.lst ((indsL sh).map tD)) s := by
  obtain ⟨y2, y3, y4, y5, e⟩ := linds_loop4 A (x0 := .sh d) (s := s) sh [[]] 0 .no .no .no .no hb (by simp) (by omega) (by simpa using hp) (by simp)
  have as := hd.as
  simp only [asSeq] at as
  simp only [tD, iD, List.map_cons, List.map_nil] at e as
  simp only [m_law_indices, mb_law_indices, EE, eEqS, seqS, toS, R.lift, asSeq, asList, asTup, List.replicate, Nat.reduceAdd, Nat.reduceSub, Nat.reduceLeDiff, Nat.reduceLT, Nat.reduceMul, Int.reduceToNat, Int.reduceEq, Int.reduceAdd, Int.reduceSub, Int.reduceNeg, reduceIte, Nat.reduceEqDiff, as, e]
  rfl
theorem blk_loop (A : Ad) {q : List Ob} {x0 x1 : Sl} : ∀ (ps : List (List Int × Int)) (kvs : List (List Key × D)) (x3 x4 : Sl) (s : Dr), s.st = q ++ [.dcT kvs] → (ps.map (·.1)).Nodup → (∀ e ∈ kvs, ∀ p ∈ ps, e.1 ≠ kyL p.1) → kvs.length + ps.length ≤ 1000 →
    ∃ y3 y4, forL (O A).S (fTup 2 (fCons (fName 3) (fCons (fName 4) fNil))) (bd_law_block_0 A) (ps.map fun p => D.tup [tD p.1, .int p.2]) [x0, x1, .sh (.obj q.length), x3, x4] s = .nx [x0, x1, .sh (.obj q.length), y3, y4] (sto s (q ++ [.dcT (kvs ++ ps.map fun p => (kyL p.1, D.int p.2))]))
  | [], kvs, x3, x4, s, hq, _, _, _ => by
    refine ⟨x3, x4, ?_⟩
    have : sto s (q ++ [.dcT (kvs ++ ([] : List (List Int × Int)).map fun p => (kyL p.1, D.int p.2))]) = s := by
      rw [List.map_nil, List.append_nil, ← hq]
      rfl
    rw [this]
    rfl
  | p :: ps, kvs, x3, x4, s, hq, nd, hk, hl => by
    have hs0 : ∀ s : Dr, (O A).st s = s.st := fun _ => rfl
    rw [List.length_cons] at hl
    rw [List.map_cons, List.nodup_cons] at nd
    have at_ : s.st[q.length]? = some (.dcT kvs) := by rw [hq]; simp
    have tk : tupK (tD p.1) = some (kyL p.1) := toKeys_ints p.1
    have pn : putT kvs (kyL p.1) (.int p.2) = kvs ++ [(kyL p.1, .int p.2)] := putT_new fun e he => hk e he p List.mem_cons_self
    have lt : kvs.length < 100000 := by omega
    have pu : putTS s.st (.obj q.length) (tD p.1) (.int p.2) = some (q.length, .dcT (kvs ++ [(kyL p.1, .int p.2)])) := by
      simp only [putTS, at_, tk, Option.bind_some]
      rw [if_pos lt, pn]
    have fin : stPut (O A) s q.length (.dcT (kvs ++ [(kyL p.1, .int p.2)])) = sto s (q ++ [.dcT (kvs ++ [(kyL p.1, .int p.2)])]) := by
      show sto s (s.st.set _ _) = _
      rw [hq]
      simp
    have st1 : bd_law_block_0 A [x0, x1, .sh (.obj q.length), .sh (tD p.1), .sh (.int p.2)] s = .nx [x0, x1, .sh (.obj q.length), .sh (tD p.1), .sh (.int p.2)] (sto s (q ++ [.dcT (kvs ++ [(kyL p.1, .int p.2)])])) := by
      simp only [bd_law_block_0, mSetIT, EE, eEqS, seqS, toS, R.lift, asSeq, asList, asTup, List.replicate, Nat.reduceAdd, Nat.reduceSub, Nat.reduceLeDiff, Nat.reduceLT, Nat.reduceMul, Int.reduceToNat, Int.reduceEq, Int.reduceAdd, Int.reduceSub, Int.reduceNeg, reduceIte, Nat.reduceEqDiff, hs0, pu, fin]
    obtain ⟨y3, y4, e⟩ := blk_loop A (x0 := x0) (x1 := x1) ps (kvs ++ [(kyL p.1, .int p.2)]) (.sh (tD p.1)) (.sh (.int p.2)) (sto s (q ++ [.dcT (kvs ++ [(kyL p.1, .int p.2)])])) rfl nd.2 (fun e he r hr => by
      rcases List.mem_append.mp he with he | he
      · exact hk e he r (List.mem_cons_of_mem _ hr)
      · rw [List.mem_singleton.mp he]
        intro z
        exact nd.1 (by rw [kyL_inj z]; exact List.mem_map_of_mem hr)) (by rw [List.length_append]; simp only [List.length_cons, List.length_nil]; omega)
    refine ⟨y3, y4, ?_⟩
    rw [List.map_cons, forL_step rfl st1, e, sto_sto, List.append_assoc]
    rfl
theorem block_ok (A : Ad) {s : Dr} {sh nums : List Int} {d : D} (hd : isSq d sh) (hp : ∀ x ∈ sh, 1 ≤ x) (hb : prodL sh ≤ 64) (hl : sh.length ≤ 100) (hn : nums.length = (indsL sh).length) : m_law_block A [d, .lst (iD nums)] s = .ok (.obj s.st.length) (sto s (s.st ++ [.dcT (blkD (indsL sh) nums)])) := by
  have hs0 : ∀ s : Dr, (O A).st s = s.st := fun _ => rfl
  have il := inds_len sh hp
  have li := law_indices_ok A (s := sto s (s.st ++ [.dcT []])) hd hp hb hl
  have sq1 : ∀ l, sqS l (.lst ((indsL sh).map tD)) = some (true, (indsL sh).map tD) := fun _ => rfl
  have sq2 : ∀ l, sqS l (.lst (iD nums)) = some (true, iD nums) := fun _ => rfl
  have zd : zipD ((indsL sh).map tD) (iD nums) = ((indsL sh).zip nums).map fun p => D.tup [tD p.1, .int p.2] := by
    unfold zipD iD
    rw [List.zip_map, List.map_map]
    rfl
  have fs : (((indsL sh).zip nums).map (·.1)).Nodup := by
    rw [List.map_fst_zip (by omega)]
    exact idx_nodup hp
  obtain ⟨y3, y4, e⟩ := blk_loop A (q := s.st) (x0 := .sh d) (x1 := .sh (.lst (iD nums))) ((indsL sh).zip nums) [] .no .no (sto s (s.st ++ [.dcT []])) rfl fs (fun e he => by cases he) (by simp only [List.length_nil, List.length_zip]; omega)
  have e' : forLS (O A).S (O A).st (fun _ => True) (fTup 2 (fCons (fName 3) (fCons (fName 4) fNil))) (bd_law_block_0 A) (((indsL sh).zip nums).map fun p => D.tup [tD p.1, .int p.2]) [.sh d, .sh (.lst (iD nums)), .sh (.obj s.st.length), .no, .no] (sto s (s.st ++ [.dcT []])) = _ := (forLS_eq (fun _ => trivial) _ _ _).trans e
  rw [List.nil_append, sto_sto] at e'
  have mk : ∀ ρ, mNewT (O A) ρ s = .ok (.obj s.st.length) (sto s (s.st ++ [.dcT []])) := fun _ => rfl
  simp only [m_law_block, mb_law_block, mForS, mJZ, EE, eEqS, seqS, toS, R.lift, asSeq, asList, asTup, List.replicate, Nat.reduceAdd, Nat.reduceSub, Nat.reduceLeDiff, Nat.reduceLT, Nat.reduceMul, Int.reduceToNat, Int.reduceEq, Int.reduceAdd, Int.reduceSub, Int.reduceNeg, reduceIte, Nat.reduceEqDiff, mk, li, hs0, sq1, sq2, zd, and_self, e']
  rfl
end S
namespace S
open PySem PySem.Spec PyProof.Rows L2 RZ Mr
theorem inds_length : ∀ {sh : List Int} {i : List Int}, i ∈ indsL sh → i.length = sh.length
  | [], i, h => by
    have : i = [] := by simpa [indsL, indsF] using h
    rw [this]
  | l :: sh, i, h => by
    rw [bk_cons, List.mem_flatMap] at h
    obtain ⟨k, _, h⟩ := h
    rw [List.mem_map] at h
    obtain ⟨j, hj, rfl⟩ := h
    rw [List.length_cons, List.length_cons, inds_length hj]
theorem flat_same {α β : Type} {f g : α → List β} : ∀ {xs : List α}, (∀ x ∈ xs, f x = g x) → xs.flatMap f = xs.flatMap g
  | [], _ => rfl
  | x :: xs, h => by rw [List.flatMap_cons, List.flatMap_cons, h x List.mem_cons_self, flat_same fun y hy => h y (List.mem_cons_of_mem _ hy)]
theorem by_range {α : Type} (d : α) (xs : List α) : xs = (List.range xs.length).map fun i => xs.getD i d := by
  refine List.ext_getElem? fun i => ?_
  by_cases hi : i < xs.length
  · rw [List.getElem?_map, List.getElem?_range hi, Option.map_some, List.getD_eq_getElem?_getD, List.getElem?_eq_getElem hi]
    rfl
  · rw [List.getElem?_eq_none (by omega), List.getElem?_eq_none (by simp; omega)]
/-- an index with its place on the axis replaced -/
def repI (a : Nat) (ps i : List Int) : List Int := i.take a ++ ps.getD (i.getD a 0).toNat 0 :: i.drop (a + 1)
theorem repI_mid {a : Nat} {ps hi lo : List Int} {k : Int} (h : hi.length = a) : repI a ps (hi ++ k :: lo) = hi ++ ps.getD k.toNat 0 :: lo := by
  subst h
  unfold repI
  have e1 : (hi ++ k :: lo).take hi.length = hi := by simp
  have e2 : (hi ++ k :: lo).getD hi.length 0 = k := by simp
  have e3 : (hi ++ k :: lo).drop (hi.length + 1) = lo := by
    have : hi ++ k :: lo = (hi ++ [k]) ++ lo := by simp
    have l : hi.length + 1 = (hi ++ [k]).length := by simp
    rw [this, l, List.drop_left]
  rw [e1, e2, e3]
section
variable {P B nums ps : List Int} {n : Int}
def gthD (P B nums ps : List Int) (n : Int) (i : List Int) : D := (valT (blkD (indsL (P ++ n :: B)) nums) (kyL (repI P.length ps i))).getD .non
theorem mid_at (hP : ∀ x ∈ P, 1 ≤ x) (hB : ∀ x ∈ B, 1 ≤ x) (hn : 1 ≤ n) (hl : nums.length = (indsL (P ++ n :: B)).length) (hp : ∀ p ∈ ps, 0 ≤ p ∧ p < n) {h l : Nat} {hi lo : List Int} {k : Int} (eh : (indsL P)[h]? = some hi) (el : (indsL B)[l]? = some lo) (k0 : 0 ≤ k) (k1 : k < ps.length) :
    valT (blkD (indsL (P ++ n :: B)) nums) (kyL (repI P.length ps (hi ++ k :: lo))) = some (.int (nums.getD ((h * n.toNat + (ps.getD k.toNat 0).toNat) * (indsL B).length + l) 0)) := by
  rw [repI_mid (inds_length (List.mem_of_getElem? eh))]
  have kp : ps.getD k.toNat 0 ∈ ps := by
    rw [List.getD_eq_getElem?_getD, List.getElem?_eq_getElem (by omega)]
    exact List.getElem_mem _
  obtain ⟨p0, p1⟩ := hp _ kp
  exact bk_val hP hB hn hl p0 p1 eh el
theorem gath_same (hP : ∀ x ∈ P, 1 ≤ x) (hB : ∀ x ∈ B, 1 ≤ x) (hn : 1 ≤ n) (hl : nums.length = (indsL (P ++ n :: B)).length) (hp : ∀ p ∈ ps, 0 ≤ p ∧ p < n) :
    (indsL (P ++ (ps.length : Int) :: B)).map (gthD P B nums ps n) = iD (gathL nums ps n.toNat (indsL B).length (List.range (indsL P).length)) := by
  rw [bk_split]
  simp only [List.map_flatMap, List.map_map]
  have e1 := by_range ([] : List Int) (indsL P)
  have e2 : rng (ps.length : Int) = (List.range ps.length).map fun (k : Nat) => (k : Int) := by simp [rng]
  have e3 := by_range ([] : List Int) (indsL B)
  have lenS : (indsL (P ++ n :: B)).length = (indsL P).length * (n.toNat * (indsL B).length) := by
    rw [bk_split, fm_len _ (n.toNat * (indsL B).length)]
    intro hi _
    rw [fm_len _ (indsL B).length _ fun k _ => by rw [List.length_map], rng_len]
  have lhs : (indsL P).flatMap (fun hi => (rng (ps.length : Int)).flatMap fun k => (indsL B).map (gthD P B nums ps n ∘ fun lo => hi ++ k :: lo)) = (List.range (indsL P).length).flatMap fun h => (List.range ps.length).flatMap fun k => (List.range (indsL B).length).map fun l => D.int (nums.getD ((h * n.toNat + (ps.getD k 0).toNat) * (indsL B).length + l) 0) := by
    conv => lhs; rw [e1]
    rw [List.flatMap_map]
    refine flat_same fun h hh => ?_
    rw [List.mem_range] at hh
    rw [e2, List.flatMap_map]
    refine flat_same fun k hk => ?_
    rw [List.mem_range] at hk
    conv => lhs; rw [e3]
    rw [List.map_map]
    refine List.map_congr_left fun l hll => ?_
    rw [List.mem_range] at hll
    have eh : (indsL P)[h]? = some ((indsL P).getD h []) := by rw [List.getD_eq_getElem?_getD, List.getElem?_eq_getElem hh]; rfl
    have el : (indsL B)[l]? = some ((indsL B).getD l []) := by rw [List.getD_eq_getElem?_getD, List.getElem?_eq_getElem hll]; rfl
    have m := mid_at hP hB hn hl hp (k := (k : Int)) eh el (by omega) (by omega)
    simp only [Function.comp, gthD, m, Option.getD_some, Int.toNat_natCast]
  rw [lhs]
  unfold gathL iD
  rw [List.map_flatMap]
  refine flat_same fun h hh => ?_
  rw [List.mem_range] at hh
  unfold posL
  have e4 := by_range (0 : Int) ps
  conv => rhs; rw [e4]
  rw [List.flatMap_map, List.map_flatMap]
  refine flat_same fun k hk => ?_
  rw [List.mem_range] at hk
  have kp : ps.getD k 0 ∈ ps := by
    rw [List.getD_eq_getElem?_getD, List.getElem?_eq_getElem hk]
    exact List.getElem_mem _
  obtain ⟨p0, p1⟩ := hp _ kp
  have fit : (h * n.toNat + (ps.getD k 0).toNat) * (indsL B).length + (indsL B).length ≤ nums.length := by
    rw [hl, lenS, ← Nat.mul_assoc]
    have a : h * n.toNat + (ps.getD k 0).toNat + 1 ≤ (indsL P).length * n.toNat := by
      have := Nat.mul_le_mul_right n.toNat (show h + 1 ≤ (indsL P).length by omega)
      rw [Nat.add_mul] at this
      omega
    have := Nat.mul_le_mul_right (indsL B).length a
    rw [Nat.add_mul] at this
    omega
  unfold sliceL
  rw [mid_getD _ _ _ fit, List.map_map]
  rfl
end
end S
namespace S
open PySem PySem.Spec PyProof.Rows L2 RZ Mr
theorem add_tup {xs ys : List Int} (h : xs.length + ys.length ≤ 1000) : dAdd (.tup (iD xs)) (.tup (iD ys)) = some (.tup (iD (xs ++ ys))) := by
  simp only [dAdd, iD, List.length_map]
  rw [if_pos (by omega), List.map_append]
theorem idx_tup (l : List Ob) {hi lo : List Int} {k : Int} : dIdxS l (tD (hi ++ k :: lo)) (.int (hi.length : Int)) = some (.int k) := by
  have dc : dcS l (tD (hi ++ k :: lo)) = none := rfl
  have sq : sqS l (tD (hi ++ k :: lo)) = some (false, iD (hi ++ k :: lo)) := rfl
  have c1 : (hi.length : Int) < (hi.length : Int) + (lo.length + 1) := by omega
  have at_ : atI (iD (hi ++ k :: lo)) (hi.length : Int) = some (.int k) := by
    simp [atI, ixN, iD]
    rw [if_pos c1, Option.bind_some, List.getElem?_append_right (by simp)]
    simp
  simp only [dIdxS, dc, sq, at_]
theorem idx_lst (l : List Ob) {ps : List Int} {k : Int} (k0 : 0 ≤ k) (k1 : k < ps.length) : dIdxS l (.lst (iD ps)) (.int k) = some (.int (ps.getD k.toNat 0)) := by
  have dc : dcS l (.lst (iD ps)) = none := rfl
  have sq : sqS l (.lst (iD ps)) = some (true, iD ps) := rfl
  obtain ⟨j, rfl⟩ := Int.eq_ofNat_of_zero_le k0
  have jl : j < ps.length := by omega
  have at_ : atI (iD ps) (j : Int) = some (.int (ps.getD j 0)) := by
    simp [atI, ixN, iD, jl]
  simp only [dIdxS, dc, sq, at_, Int.toNat_natCast]
end S
namespace S
open PySem PySem.Spec PyProof.Rows L2 RZ Mr
variable {qst : List Ob}
theorem lq_ss (l : List Ob) (a : Str) : liftO dEq l (.str a) (.str a) = some (.bl true) := by
  have e : dEq (.str a) (.str a) = some (.bl (decide (a = a))) := rfl
  simp [liftO, thaw, thawN, e, scalS]
theorem sameStr (A : Ad) (n : Nat) (a : Str) (s : Dr) : mN_law_same_2 A (n + 1) [.str a, .str a] s = .ok (.bl true) s := by
  have hst : ∀ s : Dr, (O A).st s = s.st := fun _ => rfl
  have h1 : dIsTS s.st (.str a) [.ty "list", .ty "tuple"] = some (.bl false) := rfl
  have h2 : dIsTS s.st (.str a) [.ty "bool", .ty "int"] = some (.bl false) := rfl
  have h3 : dIsIS s.st [.str a, .ty "bool"] = some (.bl false) := rfl
  have h5 := lq_ss s.st a
  have h6 : dIs (.bl false) (.bl false) = some (.bl true) := rfl
  have t0 : dTruthS s.st (.bl false) = some false := rfl
  have t1 : dTruthS s.st (.bl true) = some true := rfl
  simp only [mN_law_same_2, mb_law_same_2, mTruthS, mIsTS, mClS, mBinS, EE, eEqS, seqS, toS, R.lift, asSeq, asList, asTup, List.replicate, Nat.reduceAdd, Nat.reduceSub, Nat.reduceLeDiff, Nat.reduceLT, Nat.reduceMul, Int.reduceToNat, Int.reduceEq, Int.reduceAdd, Int.reduceSub, Int.reduceNeg, reduceIte, Nat.reduceEqDiff, hst, h1, h2, h3, h5, h6, t0, t1]
theorem same2 (A : Ad) {s : Dr} {a1 a2 b1 b2 : D} (a : mN_law_same_2 A 3 [a1, b1] s = .ok (.bl true) s) (b : mN_law_same_2 A 3 [a2, b2] s = .ok (.bl true) s) : m_law_same_2 A [.tup [a1, a2], .tup [b1, b2]] s = .ok (.bl true) s := by
  have hst : ∀ s : Dr, (O A).st s = s.st := fun _ => rfl
  have h1 : dIsTS s.st (.tup [b1, b2]) [.ty "list", .ty "tuple"] = some (.bl true) := rfl
  have h2 : ∀ ds, dIsIS s.st [.tup ds, .ty "list"] = some (.bl false) := fun _ => rfl
  have h3 : ∀ ds, dIsIS s.st [.tup ds, .ty "tuple"] = some (.bl true) := fun _ => rfl
  have n1 := (lq_bb s.st true).2
  have n2 := (lq_bb s.st false).2
  have t0 : dTruthS s.st (.bl false) = some false := rfl
  have t1 : dTruthS s.st (.bl true) = some true := rfl
  have l1 : ∀ a b : D, dLenS s.st [.tup [a, b]] = some (.int 2) := fun _ _ => rfl
  have h6 := lq_ii s.st 2 2
  rw [decide_eq_true rfl] at h6
  have sq1 : ∀ l (a b : D), sqS l (.tup [a, b]) = some (false, [a, b]) := fun _ _ _ => rfl
  have zd : zipD [a1, a2] [b1, b2] = [true, false].map fun k => if k = true then D.tup [a1, b1] else .tup [a2, b2] := rfl
  have lc : lc_law_same_2_0 A (mN_law_same_2 A 3) [.sh (.tup [a1, a2]), .sh (.tup [b1, b2]), .no, .no] s = .ok ([true, false].map fun _ => .bl true) s := by
    unfold lc_law_same_2_0
    refine mLcS_map (c := fun l => sqS l (.tup [a1, a2]) = some (false, [a1, a2]) ∧ sqS l (.tup [b1, b2]) = some (false, [b1, b2])) (fun k => if k = true then D.tup [a1, b1] else .tup [a2, b2]) (fun _ => .bl true) [true, false] ?_ ⟨rfl, rfl⟩ (fun k _ => ?_) (by decide)
    · rw [← zd]
      simp only [mJZ, EE, eEqS, seqS, toS, R.lift, asSeq, asList, asTup, List.replicate, Nat.reduceAdd, Nat.reduceSub, Nat.reduceLeDiff, Nat.reduceLT, Nat.reduceMul, Int.reduceToNat, Int.reduceEq, Int.reduceAdd, Int.reduceSub, Int.reduceNeg, reduceIte, Nat.reduceEqDiff, hst, sq1]
    · cases k with
      | true => exact ⟨[.sh (.tup [a1, a2]), .sh (.tup [b1, b2]), .sh a1, .sh b1], rfl, by simp only [EE, eEqS, seqS, toS, R.lift, asSeq, asList, asTup, List.replicate, Nat.reduceAdd, Nat.reduceSub, Nat.reduceLeDiff, Nat.reduceLT, Nat.reduceMul, Int.reduceToNat, Int.reduceEq, Int.reduceAdd, Int.reduceSub, Int.reduceNeg, reduceIte, Nat.reduceEqDiff, a]⟩
      | false => exact ⟨[.sh (.tup [a1, a2]), .sh (.tup [b1, b2]), .sh a2, .sh b2], rfl, by simp only [EE, eEqS, seqS, toS, R.lift, asSeq, asList, asTup, List.replicate, Nat.reduceAdd, Nat.reduceSub, Nat.reduceLeDiff, Nat.reduceLT, Nat.reduceMul, Int.reduceToNat, Int.reduceEq, Int.reduceAdd, Int.reduceSub, Int.reduceNeg, reduceIte, Nat.reduceEqDiff, b]⟩
  have al : dAll [.lst ([true, false].map fun _ => .bl true)] = some (.bl true) := rfl
  show runF (O A) 4 (mb_law_same_2 A (mN_law_same_2 A 3)) _ s = _
  simp only [List.map_cons, List.map_nil] at lc al
  simp only [mb_law_same_2, mTruthS, mIsTS, mClS, mBinS, EE, eEqS, seqS, toS, R.lift, asSeq, asList, asTup, List.replicate, Nat.reduceAdd, Nat.reduceSub, Nat.reduceLeDiff, Nat.reduceLT, Nat.reduceMul, Int.reduceToNat, Int.reduceEq, Int.reduceAdd, Int.reduceSub, Int.reduceNeg, reduceIte, Nat.reduceEqDiff, hst, h1, h2, h3, n1, n2, t0, t1, l1, h6, lc, al]
theorem same_ss (A : Ad) {s : Dr} (a b : Str) : m_law_same_2 A [.tup [.str a, .str b], .tup [.str a, .str b]] s = .ok (.bl true) s := same2 A (sameStr A 2 a s) (sameStr A 2 b s)
theorem same_so (A : Ad) {s : Dr} {j : Nat} {xs : List Int} (a : Str) (h : s.st[j]? = some (.lst (iD xs))) (hl : xs.length ≤ 1000) : m_law_same_2 A [.tup [.str a, .obj j], .tup [.str a, .lst (iD xs)]] s = .ok (.bl true) s :=
  same2 A (sameStr A 2 a s) (sameLn A (n := 1) (s := s) (d := .obj j) (xs := xs) (by simp only [sqS, h]) (it_o h).1 (it_o h).2 hl)
theorem kept_ne (l : List Ob) (xs ys : List Int) : liftO dNe l (.tup [.lst (iD xs), .lst (iD ys)]) (.tup [.lst (iD xs), .lst (iD ys)]) = some (.bl false) := by
  have p : pqD 3 (.tup [.lst (iD xs), .lst (iD ys)]) = true := by
    have a := pq_lst (n := 1) xs
    have b := pq_lst (n := 1) ys
    have a : pqD 2 (.lst (iD xs)) = true := a
    have b : pqD 2 (.lst (iD ys)) = true := b
    simp only [pqD, List.all_cons, List.all_nil, Bool.and_true, Bool.and_eq_true]
    exact ⟨a, b⟩
  obtain ⟨r, _, e, q⟩ := liftEq_pq (l := l) p p (by decide) (by decide)
  rw [e, q.mpr rfl]
  rfl
theorem prod_app : ∀ (A B : List Int), prodL (A ++ B) = prodL A * prodL B
  | [], B => by
    show prodL B = 1 * prodL B
    rw [Int.one_mul]
  | a :: A, B => by
    show a * prodL (A ++ B) = a * prodL A * prodL B
    rw [prod_app A B, Int.mul_assoc]
theorem prod_mid (A B : List Int) (n : Int) : prodL (A ++ n :: B) = prodL A * (n * prodL B) := prod_app A (n :: B)
/-- drawn numbers, over any things -/
theorem draw_it (A : Ad) {me : ME (O A)} {ρ : Ev} {c : Int} (hc : 0 ≤ c ∧ c ≤ 10) (kk : Nat) (Q : Int → Prop) (ds : List D) (hN : ds.length ≤ 1000) {b : Int} {s : Dr} {Kp : List Ob → Prop}
    (hm : ∀ (d : D) (b' : Int) (s' : Dr), OkQ qst b' s' → b' + c ≤ 1000000 → ∃ r s'', me (ρ.set kk (.sh d)) s' = .ok (.int r) s'' ∧ Q r ∧ OkQ qst (b' + c) s'') (ok : OkQ qst b s) (hb : b + c * ds.length ≤ 1000000) (hK : ∀ l, Kp l) :
    ∃ xs s', lcLS (O A).S (O A).st Kp (fName kk) (mYes (O A)) me ρ ds [] s = .ok (iD xs) s' ∧ xs.length = ds.length ∧ (∀ x ∈ xs, Q x) ∧ OkQ qst (b + c * ds.length) s' := by
  obtain ⟨ys, s3, e3, l3, p3, k3⟩ := lcL_draw (A := A) (f := fName kk) (mt := mYes (O A)) (me := me) (ρ := ρ) (fun d => ∃ i : Int, d = .int i ∧ Q i) c ds [] b s
    (fun d b' s' _ k hb' => by
      obtain ⟨r, s'', e, hr, k'⟩ := hm d b' s' k (by omega)
      exact ⟨_, .int r, s'', rfl, rfl, e, ⟨r, rfl, hr⟩, k'⟩) (by simp; omega) hc.1 ok (fun d hd => absurd hd List.not_mem_nil)
  obtain ⟨xs, rfl, hx⟩ := ints_of p3
  rw [List.length_map] at l3
  simp only [List.length_nil] at l3
  refine ⟨xs, s3, ?_, by omega, hx, k3⟩
  rw [lcLS_eq hK]
  exact e3
theorem shape_ok (A : Ad) {b : Int} {s : Dr} (ok : OkQ qst b s) (hb : b + 20 ≤ 1000000) : ∃ sh s', m_law_shape A [.ref A.d] s = .ok (tD sh) s' ∧ sh ≠ [] ∧ (∀ x ∈ sh, 1 ≤ x) ∧ prodL sh ≤ 64 ∧ sh.length ≤ 4 ∧ OkQ qst (b + 20) s' := by
  obtain ⟨o, ax, s1, e1, hv, k1⟩ := law_parts_ok A (cells := 64) (most := 64) (by decide) (by decide) (by decide) (by decide) ok (by omega)
  have ix : dIdx (ptD o ax) (.int 1) = some (tD (shp ax)) := rfl
  have hl := hv.len
  by_cases h : ax = []
  · subst h
    obtain ⟨t, s2, e2, t0, t1, k2⟩ := take_ok A (n := 8) k1 (by omega) (by decide) (by decide)
    have ln : dLen [tD (shp [])] = some (.int 0) := rfl
    have tt : D.tup [.int (1 + t)] = tD [1 + t] := rfl
    refine ⟨[1 + t], s2, ?_, by simp, fun x hx => ?_, ?_, by simp, k2.mono (by omega)⟩
    · simp only [m_law_shape, mb_law_shape, EE, eEqS, seqS, toS, R.lift, asSeq, asList, asTup, List.replicate, Nat.reduceAdd, Nat.reduceSub, Nat.reduceLeDiff, Nat.reduceLT, Nat.reduceMul, Int.reduceToNat, Int.reduceEq, Int.reduceAdd, Int.reduceSub, Int.reduceNeg, reduceIte, Nat.reduceEqDiff, e1, ix, ln, e2, tt]
    · rw [List.mem_singleton.mp hx]; omega
    · show (1 + t) * 1 ≤ 64
      omega
  · have ln : dLen [tD (shp ax)] = some (.int (ax.length : Int)) := by simp [dLen, tD, iD, shp]
    have ne : ¬ (ax.length : Int) = 0 := by
      have := List.length_pos_iff.mpr h
      omega
    refine ⟨shp ax, s1, ?_, by simpa [shp] using h, fun x hx => ?_, hv.prd, by simp [shp]; exact hl, k1.mono (by omega)⟩
    · simp only [m_law_shape, mb_law_shape, EE, eEqS, seqS, toS, R.lift, asSeq, asList, asTup, List.replicate, Nat.reduceAdd, Nat.reduceSub, Nat.reduceLeDiff, Nat.reduceLT, Nat.reduceMul, Int.reduceToNat, Int.reduceEq, Int.reduceAdd, Int.reduceSub, Int.reduceNeg, reduceIte, Nat.reduceEqDiff, e1, ix, ln, ne]
    · obtain ⟨a, ha, rfl⟩ := List.mem_map.mp (show x ∈ ax.map (·.1) from hx)
      exact hv.pos a ha
theorem split_at {sh : List Int} {a : Int} (a0 : 0 ≤ a) (a1 : a < sh.length) : ∃ P n B, sh = P ++ n :: B ∧ (P.length : Int) = a := by
  obtain ⟨j, rfl⟩ := Int.eq_ofNat_of_zero_le a0
  have jl : j < sh.length := by omega
  refine ⟨sh.take j, sh[j], sh.drop (j + 1), ?_, by simp; omega⟩
  rw [← List.drop_eq_getElem_cons jl, List.take_append_drop]
end S
namespace S
open PySem PySem.Spec PyProof.Rows L2 RZ Mr
def kD (nums : List Int) (n : Int) (m : Nat) : List D := (rng n).map fun p => .tup [.int (nums.getD (p.toNat * m) 0), .int p]
def ordL (nums : List Int) (n : Int) (m : Nat) : List Int := (sortQ (kD nums n m)).map fun d => (prI d).2
theorem kD_is (nums : List Int) (n : Int) (m : Nat) : (kD nums n m).all isP2 = true := by
  rw [List.all_eq_true]
  intro d hd
  unfold kD at hd
  rw [List.mem_map] at hd
  obtain ⟨p, _, rfl⟩ := hd
  rfl
theorem sort_mem {nums : List Int} {n : Int} {m : Nat} {d : D} (h : d ∈ sortQ (kD nums n m)) : ∃ k p, d = .tup [.int k, .int p] ∧ 0 ≤ p ∧ p < n := by
  have h := (sortQ_perm _).mem_iff.mp h
  unfold kD at h
  rw [List.mem_map] at h
  obtain ⟨p, hp, rfl⟩ := h
  obtain ⟨p0, p1⟩ := mem_rng hp
  exact ⟨_, p, rfl, p0, p1⟩
theorem ord_len (nums : List Int) (n : Int) (m : Nat) : (ordL nums n m).length = n.toNat := by
  unfold ordL
  rw [List.length_map, (sortQ_perm _).length_eq]
  simp [kD, rng]
theorem ord_in {nums : List Int} {n : Int} {m : Nat} : ∀ p ∈ ordL nums n m, 0 ≤ p ∧ p < n := by
  intro p hp
  unfold ordL at hp
  rw [List.mem_map] at hp
  obtain ⟨d, hd, rfl⟩ := hp
  obtain ⟨k, p, rfl, h⟩ := sort_mem hd
  exact h
theorem idx_seq2 (l : List Ob) {d : D} {ps : List Int} {k : Int} (hd : isSeq d ps) (k0 : 0 ≤ k) (k1 : k < ps.length) : dIdxS l d (.int k) = some (.int (ps.getD k.toNat 0)) := by
  have dc : dcS l d = none := by rcases hd with rfl | rfl <;> rfl
  obtain ⟨b, sq⟩ := hd.sq
  obtain ⟨j, rfl⟩ := Int.eq_ofNat_of_zero_le k0
  have jl : j < ps.length := by omega
  have at_ : atI (iD ps) (j : Int) = some (.int (ps.getD j 0)) := by
    simp [atI, ixN, iD, jl]
  simp only [dIdxS, dc, sq, at_, Int.toNat_natCast]
abbrev Sv (ds dn : D) (ax o n i : Int) (x6 x7 x8 : Sl) : Ev := [.sh ds, .sh dn, .sh (.int ax), .sh (.int o), .sh (.int n), .sh (.int i), x6, x7, x8]
section
variable {ds dn : D} {ax o n i : Int} {nums : List Int}
theorem lc_keys (A : Ad) {s : Dr} {m : Nat} {x6 x7 x8 : Sl} (hn : isSeq dn nums) (n1 : 1 ≤ n ∧ n ≤ 64) (hm : (m : Int) = i) (i1 : 1 ≤ i ∧ i ≤ 64) (fit : n.toNat * m ≤ nums.length) :
    lc_sort_axis_0 A (Sv ds dn ax o n i x6 x7 x8) s = .ok (kD nums n m) s := by
  have hs0 : ∀ s : Dr, (O A).st s = s.st := fun _ => rfl
  have rg := rng1_ok (A := A) (ma := mCons (O A) (mVar (O A) 4) (mNil (O A))) (ρ := Sv ds dn ax o n i x6 x7 x8) (s := s) (s' := s) (l := n) (by simp only [Sv, EE, eEqS, seqS, toS, R.lift, asSeq, asList, asTup, List.replicate, Nat.reduceAdd, Nat.reduceSub, Nat.reduceLeDiff, Nat.reduceLT, Nat.reduceMul, Int.reduceToNat, Int.reduceEq, Int.reduceAdd, Int.reduceSub, Int.reduceNeg, reduceIte, Nat.reduceEqDiff]) (by omega) (by omega)
  unfold lc_sort_axis_0 kD
  refine mLcS_map (c := fun _ => True) D.int (fun p => .tup [.int (nums.getD (p.toNat * m) 0), .int p]) (rng n) ?_ trivial (fun p hp => ⟨Sv ds dn ax o n i x6 (.sh (.int p)) x8, rfl, ?_⟩) (by simp [rng_len]; omega)
  · simp only [mJI, EE, eEqS, seqS, toS, R.lift, asSeq, asList, asTup, List.replicate, Nat.reduceAdd, Nat.reduceSub, Nat.reduceLeDiff, Nat.reduceLT, Nat.reduceMul, Int.reduceToNat, Int.reduceEq, Int.reduceAdd, Int.reduceSub, Int.reduceNeg, reduceIte, Nat.reduceEqDiff, rg]
  · obtain ⟨p0, p1⟩ := mem_rng hp
    obtain ⟨k, rfl⟩ := Int.eq_ofNat_of_zero_le p0
    have c1 : CMulG (k : Int) i := mulG (by omega) (by omega) (by omega) (by omega)
    have e : (k : Int) * i = ((k * m : Nat) : Int) := by rw [Int.natCast_mul, hm]
    have m1 : 1 ≤ m := by omega
    have lt : k * m < nums.length := by
      have := Nat.mul_le_mul_right m (show k + 1 ≤ n.toNat by omega)
      rw [Nat.succ_mul] at this
      omega
    have ix := idx_seq2 s.st hn (k := ((k * m : Nat) : Int)) (by omega) (by omega)
    simp only [Int.toNat_natCast] at ix ⊢
    simp only [Sv, mIdxS, mBinS, EE, eEqS, seqS, toS, R.lift, asSeq, asList, asTup, List.replicate, Nat.reduceAdd, Nat.reduceSub, Nat.reduceLeDiff, Nat.reduceLT, Nat.reduceMul, Int.reduceToNat, Int.reduceEq, Int.reduceAdd, Int.reduceSub, Int.reduceNeg, reduceIte, Nat.reduceEqDiff, hs0, c1, e, ix]
theorem lc_order (A : Ad) {s : Dr} {m : Nat} {x7 x8 : Sl} (n1 : 1 ≤ n ∧ n ≤ 64) :
    lc_sort_axis_1 A (Sv ds dn ax o n i (.sh (.lst (sortQ (kD nums n m)))) x7 x8) s = .ok (iD (ordL nums n m)) s := by
  have hs0 : ∀ s : Dr, (O A).st s = s.st := fun _ => rfl
  have sl : (sortQ (kD nums n m)).length = n.toNat := by
    rw [(sortQ_perm _).length_eq]
    simp [kD, rng]
  have fin : iD (ordL nums n m) = (sortQ (kD nums n m)).map fun d => .int (prI d).2 := by
    unfold iD ordL
    rw [List.map_map]
    rfl
  have q1 : ∀ l, sqS l (.lst (sortQ (kD nums n m))) = some (true, sortQ (kD nums n m)) := fun _ => rfl
  rw [fin]
  unfold lc_sort_axis_1
  refine mLcS_map (c := fun l => sqS l (.lst (sortQ (kD nums n m))) = some (true, sortQ (kD nums n m))) (fun d => d) (fun d => .int (prI d).2) (sortQ (kD nums n m)) ?_ rfl (fun d hd => ?_) (by omega)
  · simp only [mJS, EE, eEqS, seqS, toS, R.lift, asSeq, asList, asTup, List.replicate, Nat.reduceAdd, Nat.reduceSub, Nat.reduceLeDiff, Nat.reduceLT, Nat.reduceMul, Int.reduceToNat, Int.reduceEq, Int.reduceAdd, Int.reduceSub, Int.reduceNeg, reduceIte, Nat.reduceEqDiff, hs0, q1, List.map_id']
  · obtain ⟨k, p, rfl, _⟩ := sort_mem hd
    exact ⟨Sv ds dn ax o n i (.sh (.lst (sortQ (kD nums n m)))) (.sh (.int p)) (.sh (.int k)), rfl, by simp only [Sv, EE, eEqS, seqS, toS, R.lift, asSeq, asList, asTup, List.replicate, Nat.reduceAdd, Nat.reduceSub, Nat.reduceLeDiff, Nat.reduceLT, Nat.reduceMul, Int.reduceToNat, Int.reduceEq, Int.reduceAdd, Int.reduceSub, Int.reduceNeg, reduceIte, Nat.reduceEqDiff, prI]⟩
end
section
variable {ds dn : D} {n : Int} {P B nums : List Int}
theorem sort_ok (A : Ad) {s : Dr} (hds : isSeq ds (P ++ n :: B)) (hdn : isSeq dn nums) (hP : ∀ x ∈ P, 1 ≤ x) (hB : ∀ x ∈ B, 1 ≤ x) (n1 : 1 ≤ n ∧ n ≤ 64) (bP : prodL P ≤ 64) (bB : 1 ≤ prodL B ∧ prodL B ≤ 64) (p0 : 1 ≤ prodL P)
    (hl : nums.length = (prodL P).toNat * (n.toNat * (prodL B).toNat)) (hz : nums.length ≤ 1000) :
    m_sort_axis A [ds, dn, .int (P.length : Int)] s = .ok (.obj s.st.length) (sto s (s.st ++ [.lst (iD (gathL nums (ordL nums n (prodL B).toNat) n.toNat (prodL B).toNat (List.range (prodL P).toNat)))])) := by
  have hs0 : ∀ s : Dr, (O A).st s = s.st := fun _ => rfl
  have ar := around_ok A (s := s) hds hP hB (by omega) (by omega)
  have fit : n.toNat * (prodL B).toNat ≤ nums.length := by
    rw [hl]
    exact Nat.le_mul_of_pos_left _ (by omega)
  have lk := lc_keys A (s := s) (ds := ds) (dn := dn) (ax := (P.length : Int)) (o := prodL P) (n := n) (i := prodL B) (m := (prodL B).toNat) (x6 := .no) (x7 := .no) (x8 := .no) hdn n1 (by omega) bB fit
  have lo := lc_order A (s := s) (ds := ds) (dn := dn) (ax := (P.length : Int)) (o := prodL P) (i := prodL B) (nums := nums) (m := (prodL B).toNat) (x7 := .no) (x8 := .no) n1
  have g := gather_ok A (s := s) hds hdn (dp := .lst (iD (ordL nums n (prodL B).toNat))) (ps := ordL nums n (prodL B).toNat) (.inl rfl) hP hB n1 bP bB p0 ord_in (by rw [ord_len]; omega)
  have ft : fTup 3 (fCons (fName 3) (fCons (fName 4) (fCons (fName 5) fNil))) (D.tup [D.int (prodL P), D.int n, D.int (prodL B)]) [Sl.sh ds, Sl.sh dn, Sl.sh (D.int ↑P.length), Sl.no, Sl.no, Sl.no, Sl.no, Sl.no, Sl.no] = some [Sl.sh ds, Sl.sh dn, Sl.sh (D.int ↑P.length), Sl.sh (.int (prodL P)), Sl.sh (.int n), Sl.sh (.int (prodL B)), Sl.no, Sl.no, Sl.no] := rfl
  have sk : ∀ l, sqS l (.lst (kD nums n (prodL B).toNat)) = some (true, kD nums n (prodL B).toNat) := fun _ => rfl
  have ik := kD_is nums n (prodL B).toNat
  simp only [Sv] at lk lo
  simp only [m_sort_axis, mb_sort_axis, mSortQ, EE, eEqS, seqS, toS, R.lift, asSeq, asList, asTup, List.replicate, Nat.reduceAdd, Nat.reduceSub, Nat.reduceLeDiff, Nat.reduceLT, Nat.reduceMul, Int.reduceToNat, Int.reduceEq, Int.reduceAdd, Int.reduceSub, Int.reduceNeg, reduceIte, Nat.reduceEqDiff, ar, ft, hs0, lk, sk, ik, lo, g]
end
theorem inds_zero : ∀ {sh : List Int}, (∀ x ∈ sh, 1 ≤ x) → (indsL sh)[0]? = some (List.replicate sh.length 0)
  | [], _ => rfl
  | l :: sh, h => by
    have ih := inds_zero (sh := sh) fun x hx => h x (List.mem_cons_of_mem _ hx)
    have hl := h l List.mem_cons_self
    have e : rng l = 0 :: (rng l).tail := by
      unfold rng
      obtain ⟨k, hk⟩ : ∃ k, l.toNat = k + 1 := ⟨l.toNat - 1, by omega⟩
      rw [hk, List.range_succ_eq_map]
      rfl
    rw [bk_cons, e, List.flatMap_cons, List.getElem?_append_left (by
      rw [List.length_map]
      exact (List.getElem?_eq_some_iff.mp ih).1), List.getElem?_map, ih]
    rfl
end S
namespace K46
open PySem PySem.Spec PyProof.Rows L2 RZ Mr S
abbrev Lv (sh nums : List Int) (a : Nat) (j : Nat) (x4 x5 x6 x7 x8 x9 : Sl) : Ev := [.sh (tD sh), .sh (.lst (iD nums)), .sh (.int (a : Int)), .sh (.obj j), x4, x5, x6, x7, x8, x9]
section
variable {P B nums : List Int} {n : Int}
theorem lc_keys2 (A : Ad) {s : Dr} {j : Nat} {x5 x6 x7 x8 x9 : Sl} (hj : s.st[j]? = some (.dcT (blkD (indsL (P ++ n :: B)) nums))) (hP : ∀ x ∈ P, 1 ≤ x) (hB : ∀ x ∈ B, 1 ≤ x) (hn : 1 ≤ n ∧ n ≤ 64) (hl : nums.length = (indsL (P ++ n :: B)).length) (hs : P.length + B.length ≤ 10) :
    lc_law_sorted_0 A (Lv (P ++ n :: B) nums P.length j (.sh (tD (List.replicate (P ++ n :: B).length 0))) x5 x6 x7 x8 x9) s = .ok (kD nums n (indsL B).length) s := by
  have hs0 : ∀ s : Dr, (O A).st s = s.st := fun _ => rfl
  have rep : List.replicate (P ++ n :: B).length (0 : Int) = List.replicate P.length 0 ++ 0 :: List.replicate B.length 0 := by
    rw [List.length_append, List.length_cons, ← List.replicate_append_replicate, List.replicate_succ]
  rw [rep]
  have lh : (List.replicate P.length (0 : Int)).length = P.length := List.length_replicate
  have ix : ∀ l, dIdxS l (tD (P ++ n :: B)) (.int (P.length : Int)) = some (.int n) := fun l => idx_tup l
  have rg := rng1_ok (A := A) (ma := mCons (O A) (mIdxS (O A) (mVar (O A) 0) (mVar (O A) 2)) (mNil (O A))) (ρ := Lv (P ++ n :: B) nums P.length j (.sh (tD (List.replicate P.length 0 ++ 0 :: List.replicate B.length 0))) x5 x6 x7 x8 x9) (s := s) (s' := s) (l := n) (by simp only [Lv, mIdxS, mBinS, EE, eEqS, seqS, toS, R.lift, asSeq, asList, asTup, List.replicate, Nat.reduceAdd, Nat.reduceSub, Nat.reduceLeDiff, Nat.reduceLT, Nat.reduceMul, Int.reduceToNat, Int.reduceEq, Int.reduceAdd, Int.reduceSub, Int.reduceNeg, reduceIte, Nat.reduceEqDiff, hs0, ix]) (by omega) (by omega)
  unfold lc_law_sorted_0 kD
  refine mLcS_map (c := fun _ => True) D.int (fun p => .tup [.int (nums.getD (p.toNat * (indsL B).length) 0), .int p]) (rng n) ?_ trivial (fun p hp => ⟨Lv (P ++ n :: B) nums P.length j (.sh (tD (List.replicate P.length 0 ++ 0 :: List.replicate B.length 0))) x5 x6 (.sh (.int p)) x8 x9, rfl, ?_⟩) (by simp [rng_len]; omega)
  · simp only [mJI, EE, eEqS, seqS, toS, R.lift, asSeq, asList, asTup, List.replicate, Nat.reduceAdd, Nat.reduceSub, Nat.reduceLeDiff, Nat.reduceLT, Nat.reduceMul, Int.reduceToNat, Int.reduceEq, Int.reduceAdd, Int.reduceSub, Int.reduceNeg, reduceIte, Nat.reduceEqDiff, rg]
  · obtain ⟨p0, p1⟩ := mem_rng hp
    have q : ∀ l, sqS l (tD (List.replicate P.length 0 ++ 0 :: List.replicate B.length 0)) = some (false, iD (List.replicate P.length 0 ++ 0 :: List.replicate B.length 0)) := fun _ => rfl
    have a1 : mSliceS (O A) (mVar (O A) 4) (mNoPart (O A)) (mPart (O A) (mVar (O A) 2)) (Lv (P ++ n :: B) nums P.length j (.sh (tD (List.replicate P.length 0 ++ 0 :: List.replicate B.length 0))) x5 x6 (.sh (.int p)) x8 x9) s = .ok (mkS false (List.replicate P.length 0)) s := slice_pre A q (by simp only [Lv, EE, eEqS, seqS, toS, R.lift, asSeq, asList, asTup, List.replicate, Nat.reduceAdd, Nat.reduceSub, Nat.reduceLeDiff, Nat.reduceLT, Nat.reduceMul, Int.reduceToNat, Int.reduceEq, Int.reduceAdd, Int.reduceSub, Int.reduceNeg, reduceIte, Nat.reduceEqDiff]) (by simp only [Lv, EE, eEqS, seqS, toS, R.lift, asSeq, asList, asTup, List.replicate, Nat.reduceAdd, Nat.reduceSub, Nat.reduceLeDiff, Nat.reduceLT, Nat.reduceMul, Int.reduceToNat, Int.reduceEq, Int.reduceAdd, Int.reduceSub, Int.reduceNeg, reduceIte, Nat.reduceEqDiff, lh])
    have a2 : mSliceS (O A) (mVar (O A) 4) (mPart (O A) (mBin (O A) dAdd (mVar (O A) 2) (mC (O A) (.int 1)))) (mNoPart (O A)) (Lv (P ++ n :: B) nums P.length j (.sh (tD (List.replicate P.length 0 ++ 0 :: List.replicate B.length 0))) x5 x6 (.sh (.int p)) x8 x9) s = .ok (mkS false (List.replicate B.length 0)) s := slice_post A q (by simp only [Lv, EE, eEqS, seqS, toS, R.lift, asSeq, asList, asTup, List.replicate, Nat.reduceAdd, Nat.reduceSub, Nat.reduceLeDiff, Nat.reduceLT, Nat.reduceMul, Int.reduceToNat, Int.reduceEq, Int.reduceAdd, Int.reduceSub, Int.reduceNeg, reduceIte, Nat.reduceEqDiff]) (by simp only [Lv, EE, eEqS, seqS, toS, R.lift, asSeq, asList, asTup, List.replicate, Nat.reduceAdd, Nat.reduceSub, Nat.reduceLeDiff, Nat.reduceLT, Nat.reduceMul, Int.reduceToNat, Int.reduceEq, Int.reduceAdd, Int.reduceSub, Int.reduceNeg, reduceIte, Nat.reduceEqDiff, lh])
    have d1 : dAdd (mkS false (List.replicate P.length 0)) (.tup [.int p]) = some (.tup (iD (List.replicate P.length 0 ++ [p]))) := add_tup (xs := List.replicate P.length 0) (ys := [p]) (by simp; omega)
    have d2 : dAdd (.tup (iD (List.replicate P.length 0 ++ [p]))) (mkS false (List.replicate B.length 0)) = some (tD (List.replicate P.length 0 ++ p :: List.replicate B.length 0)) := by
      have := add_tup (xs := List.replicate P.length 0 ++ [p]) (ys := List.replicate B.length 0) (by simp; omega)
      rw [List.append_assoc] at this
      exact this
    have tk : tupK (tD (List.replicate P.length 0 ++ p :: List.replicate B.length 0)) = some (kyL (List.replicate P.length 0 ++ p :: List.replicate B.length 0)) := toKeys_ints _
    have bv := bk_val hP hB hn.1 hl p0 p1 (inds_zero hP) (inds_zero hB)
    have e : (0 * n.toNat + p.toNat) * (indsL B).length + 0 = p.toNat * (indsL B).length := by rw [Nat.zero_mul, Nat.zero_add, Nat.add_zero]
    rw [e] at bv
    have it : idxT s.st (.obj j) (tD (List.replicate P.length 0 ++ p :: List.replicate B.length 0)) = some (.int (nums.getD (p.toNat * (indsL B).length) 0)) := by
      simp only [idxT, hj, tk, Option.bind_some, bv]
    simp only [Lv] at a1 a2 ⊢
    simp only [mIdxT, mBinS, EE, eEqS, seqS, toS, R.lift, asSeq, asList, asTup, List.replicate, Nat.reduceAdd, Nat.reduceSub, Nat.reduceLeDiff, Nat.reduceLT, Nat.reduceMul, Int.reduceToNat, Int.reduceEq, Int.reduceAdd, Int.reduceSub, Int.reduceNeg, reduceIte, Nat.reduceEqDiff, hs0, a1, a2, d1, d2, it]
theorem lc_order2 (A : Ad) {s : Dr} {m : Nat} {x0 x1 x2 x3 x4 x6 x7 x8 x9 : Sl} (n1 : 1 ≤ n ∧ n ≤ 64) :
    lc_law_sorted_1 A [x0, x1, x2, x3, x4, .sh (.lst (kD nums n m)), x6, x7, x8, x9] s = .ok (iD (ordL nums n m)) s := by
  have hs0 : ∀ s : Dr, (O A).st s = s.st := fun _ => rfl
  have sl : (sortQ (kD nums n m)).length = n.toNat := by
    rw [(sortQ_perm _).length_eq]
    simp [kD, rng]
  have fin : iD (ordL nums n m) = (sortQ (kD nums n m)).map fun d => .int (prI d).2 := by
    unfold iD ordL
    rw [List.map_map]
    rfl
  have q1 : ∀ l, sqS l (.lst (sortQ (kD nums n m))) = some (true, sortQ (kD nums n m)) := fun _ => rfl
  have q2 : ∀ l, sqS l (.lst (kD nums n m)) = some (true, kD nums n m) := fun _ => rfl
  have ik := kD_is nums n m
  rw [fin]
  unfold lc_law_sorted_1
  refine mLcS_map (c := fun l => sqS l (.lst (sortQ (kD nums n m))) = some (true, sortQ (kD nums n m))) (fun d => d) (fun d => .int (prI d).2) (sortQ (kD nums n m)) ?_ rfl (fun d hd => ?_) (by omega)
  · simp only [mJS, mSortQ, EE, eEqS, seqS, toS, R.lift, asSeq, asList, asTup, List.replicate, Nat.reduceAdd, Nat.reduceSub, Nat.reduceLeDiff, Nat.reduceLT, Nat.reduceMul, Int.reduceToNat, Int.reduceEq, Int.reduceAdd, Int.reduceSub, Int.reduceNeg, reduceIte, Nat.reduceEqDiff, hs0, q1, q2, ik, List.map_id']
  · obtain ⟨k, p, rfl, _⟩ := sort_mem hd
    exact ⟨[x0, x1, x2, x3, x4, .sh (.lst (kD nums n m)), x6, .sh (.int p), .sh (.int k), x9], rfl, by simp only [EE, eEqS, seqS, toS, R.lift, asSeq, asList, asTup, List.replicate, Nat.reduceAdd, Nat.reduceSub, Nat.reduceLeDiff, Nat.reduceLT, Nat.reduceMul, Int.reduceToNat, Int.reduceEq, Int.reduceAdd, Int.reduceSub, Int.reduceNeg, reduceIte, Nat.reduceEqDiff, prI]⟩
theorem lc_gath2 (A : Ad) {s : Dr} {j : Nat} {ps : List Int} {x4 x5 x7 x8 x9 : Sl} (hj : s.st[j]? = some (.dcT (blkD (indsL (P ++ n :: B)) nums))) (hP : ∀ x ∈ P, 1 ≤ x) (hB : ∀ x ∈ B, 1 ≤ x) (hn : 1 ≤ n) (hl : nums.length = (indsL (P ++ n :: B)).length) (hp : ∀ p ∈ ps, 0 ≤ p ∧ p < n) (hpl : (ps.length : Int) = n) (hs : P.length + B.length ≤ 10) (hb : prodL (P ++ n :: B) ≤ 64) :
    lc_law_sorted_2 A (Lv (P ++ n :: B) nums P.length j x4 x5 (.sh (.lst (iD ps))) x7 x8 x9) s = .ok (iD (gathL nums ps n.toNat (indsL B).length (List.range (indsL P).length))) s := by
  have hs0 : ∀ s : Dr, (O A).st s = s.st := fun _ => rfl
  have pos : ∀ x ∈ P ++ n :: B, 1 ≤ x := fun x hx => by
    rcases List.mem_append.mp hx with q | q
    · exact hP x q
    · rcases List.mem_cons.mp q with rfl | q
      · exact hn
      · exact hB x q
  have gs := gath_same hP hB hn hl hp
  rw [hpl] at gs
  rw [← gs]
  have li := law_indices_ok A (s := s) (sh := P ++ n :: B) (d := tD (P ++ n :: B)) (.inr rfl) pos hb (by simp; omega)
  have il := inds_len _ pos
  have sqJ : ∀ l, sqS l (.lst ((indsL (P ++ n :: B)).map tD)) = some (true, (indsL (P ++ n :: B)).map tD) := fun _ => rfl
  unfold lc_law_sorted_2
  refine mLcS_map (c := fun l => sqS l (.lst ((indsL (P ++ n :: B)).map tD)) = some (true, (indsL (P ++ n :: B)).map tD)) tD (gthD P B nums ps n) (indsL (P ++ n :: B)) ?_ rfl (fun i hi => ?_) (by omega)
  · simp only [Lv, mJS, EE, eEqS, seqS, toS, R.lift, asSeq, asList, asTup, List.replicate, Nat.reduceAdd, Nat.reduceSub, Nat.reduceLeDiff, Nat.reduceLT, Nat.reduceMul, Int.reduceToNat, Int.reduceEq, Int.reduceAdd, Int.reduceSub, Int.reduceNeg, reduceIte, Nat.reduceEqDiff, hs0, li, sqJ]
  · rw [bk_split, List.mem_flatMap] at hi
    obtain ⟨hi', h1, h2⟩ := hi
    rw [List.mem_flatMap] at h2
    obtain ⟨k, h3, h4⟩ := h2
    rw [List.mem_map] at h4
    obtain ⟨lo, h5, rfl⟩ := h4
    obtain ⟨k0, k1⟩ := mem_rng h3
    obtain ⟨hN, eh⟩ := List.mem_iff_getElem?.mp h1
    obtain ⟨lN, el⟩ := List.mem_iff_getElem?.mp h5
    have lh := inds_length h1
    have ll := inds_length h5
    have m := mid_at hP hB hn hl hp eh el k0 (by omega)
    have rm := repI_mid (ps := ps) (lo := lo) (k := k) lh
    rw [rm] at m
    refine ⟨Lv (P ++ n :: B) nums P.length j x4 x5 (.sh (.lst (iD ps))) x7 x8 (.sh (tD (hi' ++ k :: lo))), rfl, ?_⟩
    have q : ∀ l, sqS l (tD (hi' ++ k :: lo)) = some (false, iD (hi' ++ k :: lo)) := fun _ => rfl
    have a1 : mSliceS (O A) (mVar (O A) 9) (mNoPart (O A)) (mPart (O A) (mVar (O A) 2)) (Lv (P ++ n :: B) nums P.length j x4 x5 (.sh (.lst (iD ps))) x7 x8 (.sh (tD (hi' ++ k :: lo)))) s = .ok (mkS false hi') s := slice_pre A q (by simp only [Lv, EE, eEqS, seqS, toS, R.lift, asSeq, asList, asTup, List.replicate, Nat.reduceAdd, Nat.reduceSub, Nat.reduceLeDiff, Nat.reduceLT, Nat.reduceMul, Int.reduceToNat, Int.reduceEq, Int.reduceAdd, Int.reduceSub, Int.reduceNeg, reduceIte, Nat.reduceEqDiff]) (by simp only [Lv, EE, eEqS, seqS, toS, R.lift, asSeq, asList, asTup, List.replicate, Nat.reduceAdd, Nat.reduceSub, Nat.reduceLeDiff, Nat.reduceLT, Nat.reduceMul, Int.reduceToNat, Int.reduceEq, Int.reduceAdd, Int.reduceSub, Int.reduceNeg, reduceIte, Nat.reduceEqDiff, lh])
    have a2 : mSliceS (O A) (mVar (O A) 9) (mPart (O A) (mBin (O A) dAdd (mVar (O A) 2) (mC (O A) (.int 1)))) (mNoPart (O A)) (Lv (P ++ n :: B) nums P.length j x4 x5 (.sh (.lst (iD ps))) x7 x8 (.sh (tD (hi' ++ k :: lo)))) s = .ok (mkS false lo) s := slice_post A q (by simp only [Lv, EE, eEqS, seqS, toS, R.lift, asSeq, asList, asTup, List.replicate, Nat.reduceAdd, Nat.reduceSub, Nat.reduceLeDiff, Nat.reduceLT, Nat.reduceMul, Int.reduceToNat, Int.reduceEq, Int.reduceAdd, Int.reduceSub, Int.reduceNeg, reduceIte, Nat.reduceEqDiff]) (by simp only [Lv, EE, eEqS, seqS, toS, R.lift, asSeq, asList, asTup, List.replicate, Nat.reduceAdd, Nat.reduceSub, Nat.reduceLeDiff, Nat.reduceLT, Nat.reduceMul, Int.reduceToNat, Int.reduceEq, Int.reduceAdd, Int.reduceSub, Int.reduceNeg, reduceIte, Nat.reduceEqDiff, lh])
    have i1 : ∀ l, dIdxS l (tD (hi' ++ k :: lo)) (.int (P.length : Int)) = some (.int k) := fun l => by rw [← lh]; exact idx_tup l
    have i2 : ∀ l, dIdxS l (.lst (iD ps)) (.int k) = some (.int (ps.getD k.toNat 0)) := fun l => idx_lst l k0 (by omega)
    have d1 : dAdd (mkS false hi') (.tup [.int (ps.getD k.toNat 0)]) = some (.tup (iD (hi' ++ [ps.getD k.toNat 0]))) := add_tup (xs := hi') (ys := [ps.getD k.toNat 0]) (by simp; omega)
    have d2 : dAdd (.tup (iD (hi' ++ [ps.getD k.toNat 0]))) (mkS false lo) = some (tD (hi' ++ ps.getD k.toNat 0 :: lo)) := by
      have := add_tup (xs := hi' ++ [ps.getD k.toNat 0]) (ys := lo) (by simp; omega)
      rw [List.append_assoc] at this
      exact this
    have tk : tupK (tD (hi' ++ ps.getD k.toNat 0 :: lo)) = some (kyL (hi' ++ ps.getD k.toNat 0 :: lo)) := toKeys_ints _
    have ix : idxT s.st (.obj j) (tD (hi' ++ ps.getD k.toNat 0 :: lo)) = some (gthD P B nums ps n (hi' ++ k :: lo)) := by
      simp only [idxT, hj, tk, Option.bind_some, gthD, rm, m, Option.getD_some]
    simp only [Lv] at a1 a2 ⊢
    simp only [mIdxT, mIdxS, mBinS, EE, eEqS, seqS, toS, R.lift, asSeq, asList, asTup, List.replicate, Nat.reduceAdd, Nat.reduceSub, Nat.reduceLeDiff, Nat.reduceLT, Nat.reduceMul, Int.reduceToNat, Int.reduceEq, Int.reduceAdd, Int.reduceSub, Int.reduceNeg, reduceIte, Nat.reduceEqDiff, hs0, a1, a2, i1, i2, d1, d2, ix]
theorem law_sorted_ok (A : Ad) {s : Dr} (hP : ∀ x ∈ P, 1 ≤ x) (hB : ∀ x ∈ B, 1 ≤ x) (hn : 1 ≤ n ∧ n ≤ 64) (hl : nums.length = (indsL (P ++ n :: B)).length) (hs : P.length + B.length ≤ 10) (hb : prodL (P ++ n :: B) ≤ 64) :
    ∃ q', m_law_sorted A [tD (P ++ n :: B), .lst (iD nums), .int (P.length : Int)] s = .ok (.lst (iD (gathL nums (ordL nums n (indsL B).length) n.toNat (indsL B).length (List.range (indsL P).length)))) (sto s q') := by
  have hs0 : ∀ s : Dr, (O A).st s = s.st := fun _ => rfl
  have pos : ∀ x ∈ P ++ n :: B, 1 ≤ x := fun x hx => by
    rcases List.mem_append.mp hx with q | q
    · exact hP x q
    · rcases List.mem_cons.mp q with rfl | q
      · exact hn.1
      · exact hB x q
  have bk := block_ok A (s := s) (sh := P ++ n :: B) (nums := nums) (d := tD (P ++ n :: B)) (.inr rfl) pos hb (by simp; omega) hl
  obtain ⟨q', hq⟩ : ∃ q', s.st ++ [Ob.dcT (blkD (indsL (P ++ n :: B)) nums)] = q' := ⟨_, rfl⟩
  rw [hq] at bk
  have hj : (sto s q').st[s.st.length]? = some (.dcT (blkD (indsL (P ++ n :: B)) nums)) := by rw [sto_st, ← hq]; simp
  have ln : ∀ l, dLenS l [tD (P ++ n :: B)] = some (.int ((P ++ n :: B).length : Int)) := fun l => by simp [dLenS, sqS, iD]
  have mt : dMulT (.tup [.int 0]) (.int ((P ++ n :: B).length : Int)) = some (tD (List.replicate (P ++ n :: B).length 0)) := by
    have c : [D.int 0] ≠ [] ∧ (1 : Int) ≤ ((P ++ n :: B).length : Int) ∧ ((P ++ n :: B).length : Int) ≤ 1000 ∧ [D.int 0].length ≤ 1000 := ⟨by simp, by simp; omega, by simp; omega, by simp⟩
    show (if [D.int 0] ≠ [] ∧ (1 : Int) ≤ ((P ++ n :: B).length : Int) ∧ ((P ++ n :: B).length : Int) ≤ 1000 ∧ [D.int 0].length ≤ 1000 then some (D.tup (List.replicate ((P ++ n :: B).length : Int).toNat [D.int 0]).flatten) else none) = _
    rw [if_pos c, Int.toNat_natCast]
    have : ∀ k : Nat, (List.replicate k [D.int 0]).flatten = iD (List.replicate k 0) := fun k => by
      induction k with
      | zero => rfl
      | succ k ih => rw [List.replicate_succ, List.flatten_cons, ih, List.replicate_succ]; rfl
    rw [this]
  have lk := lc_keys2 A (s := sto s q') (x5 := .no) (x6 := .no) (x7 := .no) (x8 := .no) (x9 := .no) hj hP hB hn hl hs
  have lo := lc_order2 A (s := sto s q') (n := n) (nums := nums) (m := (indsL B).length) (x0 := .sh (tD (P ++ n :: B))) (x1 := .sh (.lst (iD nums))) (x2 := .sh (.int (P.length : Int))) (x3 := .sh (.obj s.st.length)) (x4 := .sh (tD (List.replicate (P ++ n :: B).length 0))) (x6 := .no) (x7 := .no) (x8 := .no) (x9 := .no) hn
  have lg := lc_gath2 A (s := sto s q') (ps := ordL nums n (indsL B).length) (x4 := .sh (tD (List.replicate (P ++ n :: B).length 0))) (x5 := .sh (.lst (kD nums n (indsL B).length))) (x7 := .no) (x8 := .no) (x9 := .no) hj hP hB hn.1 hl ord_in (by rw [ord_len]; omega) hs hb
  refine ⟨q', ?_⟩
  simp only [Lv] at lk lo lg
  simp only [m_law_sorted, mb_law_sorted, mClS, EE, eEqS, seqS, toS, R.lift, asSeq, asList, asTup, List.replicate, Nat.reduceAdd, Nat.reduceSub, Nat.reduceLeDiff, Nat.reduceLT, Nat.reduceMul, Int.reduceToNat, Int.reduceEq, Int.reduceAdd, Int.reduceSub, Int.reduceNeg, reduceIte, Nat.reduceEqDiff, bk, hs0, ln, mt, lk, lo, lg]
end
end K46
namespace K46
open PySem PySem.Spec PyProof.Rows L2 RZ Mr S
theorem kept_ne1 (l : List Ob) (xs : List Int) : liftO dNe l (.lst (iD xs)) (.lst (iD xs)) = some (.bl false) := by
  have p : pqD 3 (.lst (iD xs)) = true := by
    have a := pq_lst (n := 2) xs
    exact a
  obtain ⟨r, _, e, q⟩ := liftEq_pq (l := l) p p (by decide) (by decide)
  rw [e, q.mpr rfl]
  rfl
theorem le_mul {a b k : Int} (ha : 1 ≤ a) (hb : 1 ≤ b) (h : a * b ≤ k) : a ≤ k ∧ b ≤ k := by
  have h1 := Int.mul_le_mul_of_nonneg_left hb (show (0 : Int) ≤ a by omega)
  have h2 := Int.mul_le_mul_of_nonneg_right ha (show (0 : Int) ≤ b by omega)
  rw [Int.mul_one] at h1
  rw [Int.one_mul] at h2
  omega
/-- both sort alike -/
theorem both (A : Ad) {sh nums : List Int} {a : Int} (sp : ∀ x ∈ sh, 1 ≤ x) (pb : prodL sh ≤ 64) (s4 : sh.length ≤ 4) (a0 : 0 ≤ a) (a1 : a < sh.length) (ln : nums.length = (indsL sh).length) :
    ∃ due : List Int, due.length = nums.length ∧ (∀ s, ∃ q', m_law_sorted A [tD sh, .lst (iD nums), .int a] s = .ok (.lst (iD due)) (sto s q')) ∧
      ∀ (d e : D) (s : Dr), isSeq d sh → isSeq e nums → m_sort_axis A [d, e, .int a] s = .ok (.obj s.st.length) (sto s (s.st ++ [.lst (iD due)])) := by
  obtain ⟨P, n, B, rfl, hPa⟩ := split_at a0 a1
  have hP : ∀ x ∈ P, 1 ≤ x := fun x hx => sp x (List.mem_append_left _ hx)
  have hB : ∀ x ∈ B, 1 ≤ x := fun x hx => sp x (List.mem_append_right _ (List.mem_cons_of_mem _ hx))
  have hn : 1 ≤ n := sp n (by simp)
  have pbm := pb
  rw [prod_mid] at pbm
  have p1 := prod_pos hP
  have p2 := prod_pos hB
  have p3 : 1 ≤ n * prodL B := by have := Int.mul_le_mul hn p2 (by decide) (by omega); omega
  obtain ⟨b1, b2⟩ := le_mul p1 p3 pbm
  obtain ⟨b3, b4⟩ := le_mul hn p2 b2
  have il := inds_lenN sp
  have il2 := inds_len _ sp
  have pm := prod_mid P B n
  have hl' : nums.length = (prodL P).toNat * (n.toNat * (prodL B).toNat) := by
    rw [ln, il, pm, Int.toNat_mul (by omega) (by omega), Int.toNat_mul (by omega) (by omega)]
  have gs := gath_same (ps := ordL nums n (indsL B).length) hP hB hn ln ord_in
  rw [ord_len, Int.toNat_of_nonneg (by omega)] at gs
  have gl : (gathL nums (ordL nums n (indsL B).length) n.toNat (indsL B).length (List.range (indsL P).length)).length = (indsL (P ++ n :: B)).length := by
    have := congrArg List.length gs
    simpa [iD] using this.symm
  refine ⟨_, gl.trans ln.symm, fun s => ?_, fun d e s hd he => ?_⟩
  · have := law_sorted_ok A (s := s) hP hB ⟨hn, b3⟩ ln (by simp at s4; omega) pb
    rw [hPa] at this
    exact this
  · have := sort_ok A (s := s) hd he hP hB ⟨hn, b3⟩ b1 ⟨p2, b4⟩ p1 hl' (by omega)
    rw [hPa, ← inds_lenN hP, ← inds_lenN hB] at this
    exact this
abbrev Env (A : Ad) (x0 x2 x3 x4 x5 x6 x7 x8 x9 : Sl) : Ev := [x0, .sh (.ref A.d), x2, x3, x4, x5, x6, x7, x8, x9, .no]
theorem again_ok (A : Ad) {sh nums : List Int} {x0 x2 x5 x6 x7 x8 x9 : Sl} {q : List Ob} {b : Int} {s : Dr} (ne : sh ≠ []) (sp : ∀ x ∈ sh, 1 ≤ x) (pb : prodL sh ≤ 64) (s4 : sh.length ≤ 4) (ln : nums.length = (indsL sh).length) (ok : OkQ q b s) (hb : b + 10 ≤ 1000000) :
    Nx (O := O A) (fun ρ' s' => (∃ nums' y6 y7 y8 y9, nums'.length = (indsL sh).length ∧ ρ' = Env A x0 x2 (.sh (tD sh)) (.sh (.lst (iD nums'))) x5 y6 y7 y8 y9) ∧ ∃ q', OkQ q' (b + 10) s') (bd_law_2 A (Env A x0 x2 (.sh (tD sh)) (.sh (.lst (iD nums))) x5 x6 x7 x8 x9) s) := by
  have hst : ∀ s : Dr, (O A).st s = s.st := fun _ => rfl
  unfold bd_law_2
  have lnS : ∀ l, dLenS l [tD sh] = some (.int (sh.length : Int)) := fun l => by simp [dLenS, sqS, iD]
  have shl : 1 ≤ (sh.length : Int) := by
    have := List.length_pos_iff.mpr ne
    omega
  have il := inds_len sh sp
  obtain ⟨a, s1, e1, a0, a1, k1⟩ := take_ok A (n := (sh.length : Int)) ok (by omega) shl (by omega)
  refine nx_seq (fun ρ' s' => ρ' = Env A x0 x2 (.sh (tD sh)) (.sh (.lst (iD nums))) x5 (.sh (.int a)) x7 x8 x9 ∧ s1 = s') (nx_of (by simp only [Env, mClS, EE, eEqS, seqS, toS, R.lift, asSeq, asList, asTup, List.replicate, Nat.reduceAdd, Nat.reduceSub, Nat.reduceLeDiff, Nat.reduceLT, Nat.reduceMul, Int.reduceToNat, Int.reduceEq, Int.reduceAdd, Int.reduceSub, Int.reduceNeg, reduceIte, Nat.reduceEqDiff, hst, lnS, e1] <;> rfl) ⟨rfl, rfl⟩) ?_
  rintro _ _ ⟨rfl, rfl⟩
  obtain ⟨due, dl, f1, f2⟩ := both A sp pb s4 a0 a1 ln
  obtain ⟨q0, ed⟩ := f1 s1
  refine nx_seq (fun ρ' s' => ρ' = Env A x0 x2 (.sh (tD sh)) (.sh (.lst (iD nums))) x5 (.sh (.int a)) (.sh (.lst (iD due))) x8 x9 ∧ s' = sto s1 q0) (nx_of (by simp only [Env, EE, eEqS, seqS, toS, R.lift, asSeq, asList, asTup, List.replicate, Nat.reduceAdd, Nat.reduceSub, Nat.reduceLeDiff, Nat.reduceLT, Nat.reduceMul, Int.reduceToNat, Int.reduceEq, Int.reduceAdd, Int.reduceSub, Int.reduceNeg, reduceIte, Nat.reduceEqDiff, ed] <;> rfl) ⟨rfl, rfl⟩) ?_
  rintro _ _ ⟨rfl, rfl⟩
  have q1 : ∀ (l : List Ob) (xs : List Int), sqS l (.lst (iD xs)) = some (true, iD xs) := fun _ _ => rfl
  have tt : ∀ l k, dTruthS l (.bl k) = some k := fun _ _ => rfl
  refine nx_seq (fun ρ' s' => ρ' = Env A x0 x2 (.sh (tD sh)) (.sh (.lst (iD nums))) x5 (.sh (.int a)) (.sh (.lst (iD due))) (.sh (.lst (iD nums))) x9 ∧ s' = sto s1 q0) (nx_of (by simp only [Env, mListNS, EE, eEqS, seqS, toS, R.lift, asSeq, asList, asTup, List.replicate, Nat.reduceAdd, Nat.reduceSub, Nat.reduceLeDiff, Nat.reduceLT, Nat.reduceMul, Int.reduceToNat, Int.reduceEq, Int.reduceAdd, Int.reduceSub, Int.reduceNeg, reduceIte, Nat.reduceEqDiff, hst, q1] <;> rfl) ⟨rfl, rfl⟩) ?_
  rintro _ _ ⟨rfl, rfl⟩
  have e2 := f2 (tD sh) (.lst (iD nums)) (sto s1 q0) (.inr rfl) (.inl rfl)
  obtain ⟨j, hj⟩ : ∃ j, (sto s1 q0).st.length = j := ⟨_, rfl⟩
  obtain ⟨q2, hq2⟩ : ∃ q2, (sto s1 q0).st ++ [Ob.lst (iD due)] = q2 := ⟨_, rfl⟩
  have at2 : q2[j]? = some (.lst (iD due)) := by rw [← hq2, ← hj]; simp
  rw [hj, hq2, sto_sto] at e2
  refine nx_seq (fun ρ' s' => ρ' = Env A x0 x2 (.sh (tD sh)) (.sh (.lst (iD nums))) x5 (.sh (.int a)) (.sh (.lst (iD due))) (.sh (.lst (iD nums))) (.sh (.obj j)) ∧ s' = sto s1 q2) (nx_of (by simp only [Env, EE, eEqS, seqS, toS, R.lift, asSeq, asList, asTup, List.replicate, Nat.reduceAdd, Nat.reduceSub, Nat.reduceLeDiff, Nat.reduceLT, Nat.reduceMul, Int.reduceToNat, Int.reduceEq, Int.reduceAdd, Int.reduceSub, Int.reduceNeg, reduceIte, Nat.reduceEqDiff, e2] <;> rfl) ⟨rfl, rfl⟩) ?_
  rintro _ _ ⟨rfl, rfl⟩
  have at_ : (sto s1 q2).st[j]? = some (.lst (iD due)) := at2
  have sm : m_law_same_2 A [.obj j, .lst (iD due)] (sto s1 q2) = .ok (.bl true) (sto s1 q2) := sameLn A (n := 2) (s := sto s1 q2) (d := .obj j) (xs := due) (by simp only [sqS, at_]) (it_o at_).1 (it_o at_).2 (by omega)
  refine nx_seq (fun ρ' s' => ρ' = Env A x0 x2 (.sh (tD sh)) (.sh (.lst (iD nums))) x5 (.sh (.int a)) (.sh (.lst (iD due))) (.sh (.lst (iD nums))) (.sh (.obj j)) ∧ s' = sto s1 q2) (nx_if (k := false) (s1 := sto s1 q2) (by simp only [Env, mTruthS, EE, eEqS, seqS, toS, R.lift, asSeq, asList, asTup, List.replicate, Nat.reduceAdd, Nat.reduceSub, Nat.reduceLeDiff, Nat.reduceLT, Nat.reduceMul, Int.reduceToNat, Int.reduceEq, Int.reduceAdd, Int.reduceSub, Int.reduceNeg, reduceIte, Nat.reduceEqDiff, sm, hst, tt]) (fun hk => by cases hk) (fun _ => nx_next ⟨rfl, rfl⟩)) ?_
  rintro _ _ ⟨rfl, rfl⟩
  refine nx_seq (fun ρ' s' => ρ' = Env A x0 x2 (.sh (tD sh)) (.sh (.lst (iD nums))) x5 (.sh (.int a)) (.sh (.lst (iD due))) (.sh (.lst (iD nums))) (.sh (.obj j)) ∧ ∃ q3, s' = sto s1 q3) ?_ ?_
  · have la : lApp (iD due) [.int 0] = some (.non, iD due ++ [.int 0]) := by
      show (if (iD due).length < 100000 then some (D.non, iD due ++ [.int 0]) else none) = _
      rw [if_pos (by simp only [iD, List.length_map]; omega)]
    exact nx_of (ρ := Env A x0 x2 (.sh (tD sh)) (.sh (.lst (iD nums))) x5 (.sh (.int a)) (.sh (.lst (iD due))) (.sh (.lst (iD nums))) (.sh (.obj j))) (s := stPut (O A) (sto s1 q2) j (.lst (iD due ++ [.int 0]))) (by simp only [Env, mDrop, mMutL, EE, eEqS, seqS, toS, R.lift, asSeq, asList, asTup, List.replicate, Nat.reduceAdd, Nat.reduceSub, Nat.reduceLeDiff, Nat.reduceLT, Nat.reduceMul, Int.reduceToNat, Int.reduceEq, Int.reduceAdd, Int.reduceSub, Int.reduceNeg, reduceIte, Nat.reduceEqDiff, hst, at_, la]) ⟨rfl, _, rfl⟩
  rintro _ _ ⟨rfl, q3, rfl⟩
  have kn := kept_ne1 q3 nums
  refine nx_seq (fun ρ' s' => ρ' = Env A x0 x2 (.sh (tD sh)) (.sh (.lst (iD nums))) x5 (.sh (.int a)) (.sh (.lst (iD due))) (.sh (.lst (iD nums))) (.sh (.obj j)) ∧ s' = sto s1 q3) (nx_if (k := false) (s1 := sto s1 q3) (by simp only [Env, mBinS, EE, eEqS, seqS, toS, R.lift, asSeq, asList, asTup, List.replicate, Nat.reduceAdd, Nat.reduceSub, Nat.reduceLeDiff, Nat.reduceLT, Nat.reduceMul, Int.reduceToNat, Int.reduceEq, Int.reduceAdd, Int.reduceSub, Int.reduceNeg, reduceIte, Nat.reduceEqDiff, hst, sto_st, kn]) (fun hk => by cases hk) (fun _ => nx_next ⟨rfl, rfl⟩)) ?_
  rintro _ _ ⟨rfl, rfl⟩
  have e4 := f2 (.lst (iD sh)) (.tup (iD nums)) (sto s1 q3) (.inl rfl) (.inr rfl)
  obtain ⟨j4, hj4⟩ : ∃ j, (sto s1 q3).st.length = j := ⟨_, rfl⟩
  obtain ⟨q4, hq4⟩ : ∃ q2, (sto s1 q3).st ++ [Ob.lst (iD due)] = q2 := ⟨_, rfl⟩
  have at4 : (sto s1 q4).st[j4]? = some (.lst (iD due)) := by rw [sto_st, ← hq4, ← hj4]; simp
  rw [hj4, hq4, sto_sto] at e4
  have sm4 : m_law_same_2 A [.obj j4, .lst (iD due)] (sto s1 q4) = .ok (.bl true) (sto s1 q4) := sameLn A (n := 2) (s := sto s1 q4) (d := .obj j4) (xs := due) (by simp only [sqS, at4]) (it_o at4).1 (it_o at4).2 (by omega)
  have sqt : ∀ (l : List Ob) (xs : List Int), sqS l (.tup (iD xs)) = some (false, iD xs) := fun _ _ => rfl
  have tp : ∀ (l : List Ob) (xs : List Int), dTupOfS l [.lst (iD xs)] = some (.tup (iD xs)) := fun _ _ => rfl
  refine nx_seq (fun ρ' s' => ρ' = Env A x0 x2 (.sh (tD sh)) (.sh (.lst (iD nums))) x5 (.sh (.int a)) (.sh (.lst (iD due))) (.sh (.lst (iD nums))) (.sh (.obj j)) ∧ s' = sto s1 q4) (nx_if (k := false) (s1 := sto s1 q4) (by simp only [Env, mTruthS, mClS, mListNS, EE, eEqS, seqS, toS, R.lift, asSeq, asList, asTup, List.replicate, Nat.reduceAdd, Nat.reduceSub, Nat.reduceLeDiff, Nat.reduceLT, Nat.reduceMul, Int.reduceToNat, Int.reduceEq, Int.reduceAdd, Int.reduceSub, Int.reduceNeg, reduceIte, Nat.reduceEqDiff, hst, sqt, tp, e4, sm4, tt]) (fun hk => by cases hk) (fun _ => nx_next ⟨rfl, rfl⟩)) ?_
  rintro _ _ ⟨rfl, rfl⟩
  exact nx_of (by simp only [Env, EE, eEqS, seqS, toS, R.lift, asSeq, asList, asTup, List.replicate, Nat.reduceAdd, Nat.reduceSub, Nat.reduceLeDiff, Nat.reduceLT, Nat.reduceMul, Int.reduceToNat, Int.reduceEq, Int.reduceAdd, Int.reduceSub, Int.reduceNeg, reduceIte, Nat.reduceEqDiff] <;> rfl) ⟨⟨due, _, _, _, _, by omega, rfl⟩, q4, (k1.sto q4).mono (by omega)⟩
theorem turn_ok (A : Ad) {x0 x2 x3 x4 x5 x6 x7 x8 x9 : Sl} {q : List Ob} {b : Int} {s : Dr} (ok : OkQ q b s) (hb : b + 1000 ≤ 1000000) :
    Nx (O := O A) (fun ρ' s' => (∃ y3 y4 y5 y6 y7 y8 y9, ρ' = Env A x0 x2 y3 y4 y5 y6 y7 y8 y9) ∧ ∃ q', OkQ q' (b + 1000) s') (bd_law_3 A (Env A x0 x2 x3 x4 x5 x6 x7 x8 x9) s) := by
  have hst : ∀ s : Dr, (O A).st s = s.st := fun _ => rfl
  unfold bd_law_3
  obtain ⟨sh, s1, e1, ne, sp, pb, s4, k1⟩ := shape_ok A ok (by omega)
  refine nx_seq (fun ρ' s' => ρ' = Env A x0 x2 (.sh (tD sh)) x4 x5 x6 x7 x8 x9 ∧ s1 = s') (nx_of (by simp only [Env, EE, eEqS, seqS, toS, R.lift, asSeq, asList, asTup, List.replicate, Nat.reduceAdd, Nat.reduceSub, Nat.reduceLeDiff, Nat.reduceLT, Nat.reduceMul, Int.reduceToNat, Int.reduceEq, Int.reduceAdd, Int.reduceSub, Int.reduceNeg, reduceIte, Nat.reduceEqDiff, e1] <;> rfl) ⟨rfl, rfl⟩) ?_
  rintro _ _ ⟨rfl, rfl⟩
  have il := inds_len sh sp
  have li : ∀ s, m_law_indices A [tD sh] s = .ok (.lst ((indsL sh).map tD)) s := fun s => law_indices_ok A (s := s) (sh := sh) (d := tD sh) (.inr rfl) sp pb (by omega)
  have sqI : ∀ l, sqS l (.lst ((indsL sh).map tD)) = some (true, (indsL sh).map tD) := fun _ => rfl
  have il' : ((indsL sh).map tD).length = (indsL sh).length := List.length_map ..
  obtain ⟨xs, s6, e6, l6, b6, k6⟩ := draw_it A (me := mCall (O A) 2 (m_law_take A) (mCons (O A) (mVar (O A) 1) (mCons (O A) (mC (O A) (.int 3)) (mNil (O A))))) (ρ := Env A x0 x2 (.sh (tD sh)) x4 x5 x6 x7 x8 x9) (c := 1) (by decide) 10 (fun _ => True) ((indsL sh).map tD) (by omega) (b := b + 20) (s := s1) (Kp := fun _ => True) (fun d b' s' k hb' => by
    obtain ⟨r, s'', e, r0, r1, k'⟩ := take_ok A (n := 3) k (by omega) (by decide) (by decide)
    exact ⟨r, s'', by simp only [Env, List.set, EE, eEqS, seqS, toS, R.lift, asSeq, asList, asTup, List.replicate, Nat.reduceAdd, Nat.reduceSub, Nat.reduceLeDiff, Nat.reduceLT, Nat.reduceMul, Int.reduceToNat, Int.reduceEq, Int.reduceAdd, Int.reduceSub, Int.reduceNeg, reduceIte, Nat.reduceEqDiff, e], trivial, k'⟩) k1 (by omega) (fun _ => trivial)
  have lc0 : lc_law_0 A (Env A x0 x2 (.sh (tD sh)) x4 x5 x6 x7 x8 x9) s1 = .ok (iD xs) s6 := by
    simp only [lc_law_0, mLcS, mJS, wipeE, EE, eEqS, seqS, toS, R.lift, asSeq, asList, asTup, List.replicate, Nat.reduceAdd, Nat.reduceSub, Nat.reduceLeDiff, Nat.reduceLT, Nat.reduceMul, Int.reduceToNat, Int.reduceEq, Int.reduceAdd, Int.reduceSub, Int.reduceNeg, reduceIte, Nat.reduceEqDiff, hst, li, sqI]
    exact e6
  refine nx_seq (fun ρ' s' => ρ' = Env A x0 x2 (.sh (tD sh)) (.sh (.lst (iD xs))) x5 x6 x7 x8 x9 ∧ s6 = s') (nx_of (by simp only [Env] at lc0; simp only [Env, EE, eEqS, seqS, toS, R.lift, asSeq, asList, asTup, List.replicate, Nat.reduceAdd, Nat.reduceSub, Nat.reduceLeDiff, Nat.reduceLT, Nat.reduceMul, Int.reduceToNat, Int.reduceEq, Int.reduceAdd, Int.reduceSub, Int.reduceNeg, reduceIte, Nat.reduceEqDiff, lc0] <;> rfl) ⟨rfl, rfl⟩) ?_
  rintro _ _ ⟨rfl, rfl⟩
  have k6 : OkQ q (b + 100) s6 := k6.mono (by omega)
  refine nx_seq (fun ρ' s' => ∃ nums : List Int, nums.length = (indsL sh).length ∧ ρ' = Env A x0 x2 (.sh (tD sh)) (.sh (.lst (iD nums))) x5 x6 x7 x8 x9 ∧ OkQ q (b + 500) s') ?_ ?_
  · obtain ⟨t, s7, e7, t0, t1, k7⟩ := take_ok A (n := 2) k6 (by omega) (by decide) (by decide)
    refine nx_if (k := decide (t = 0)) (s1 := s7) (by simp only [Env, EE, eEqS, seqS, toS, R.lift, asSeq, asList, asTup, List.replicate, Nat.reduceAdd, Nat.reduceSub, Nat.reduceLeDiff, Nat.reduceLT, Nat.reduceMul, Int.reduceToNat, Int.reduceEq, Int.reduceAdd, Int.reduceSub, Int.reduceNeg, reduceIte, Nat.reduceEqDiff, e7]) (fun _ => ?_) (fun _ => nx_next ⟨xs, by omega, rfl, k7.mono (by omega)⟩)
    obtain ⟨ys, s8, e8, l8, b8, k8⟩ := draw_it A (me := mCall (O A) 1 (m_law_number A) (mCons (O A) (mVar (O A) 1) (mNil (O A)))) (ρ := Env A x0 x2 (.sh (tD sh)) (.sh (.lst (iD xs))) x5 x6 x7 x8 x9) (c := 3) (by decide) 10 (fun _ => True) ((indsL sh).map tD) (by omega) (b := b + 100 + 1) (s := s7) (Kp := fun _ => True) (fun d b' s' k hb' => by
      obtain ⟨r, s'', e, r0, r1, k'⟩ := number_ok A k (by omega)
      exact ⟨r, s'', by simp only [Env, List.set, EE, eEqS, seqS, toS, R.lift, asSeq, asList, asTup, List.replicate, Nat.reduceAdd, Nat.reduceSub, Nat.reduceLeDiff, Nat.reduceLT, Nat.reduceMul, Int.reduceToNat, Int.reduceEq, Int.reduceAdd, Int.reduceSub, Int.reduceNeg, reduceIte, Nat.reduceEqDiff, e], trivial, k'⟩) k7 (by omega) (fun _ => trivial)
    have lc1 : lc_law_1 A (Env A x0 x2 (.sh (tD sh)) (.sh (.lst (iD xs))) x5 x6 x7 x8 x9) s7 = .ok (iD ys) s8 := by
      simp only [lc_law_1, mLcS, mJS, wipeE, EE, eEqS, seqS, toS, R.lift, asSeq, asList, asTup, List.replicate, Nat.reduceAdd, Nat.reduceSub, Nat.reduceLeDiff, Nat.reduceLT, Nat.reduceMul, Int.reduceToNat, Int.reduceEq, Int.reduceAdd, Int.reduceSub, Int.reduceNeg, reduceIte, Nat.reduceEqDiff, hst, li, sqI]
      exact e8
    exact nx_of (by simp only [Env] at lc1; simp only [Env, EE, eEqS, seqS, toS, R.lift, asSeq, asList, asTup, List.replicate, Nat.reduceAdd, Nat.reduceSub, Nat.reduceLeDiff, Nat.reduceLT, Nat.reduceMul, Int.reduceToNat, Int.reduceEq, Int.reduceAdd, Int.reduceSub, Int.reduceNeg, reduceIte, Nat.reduceEqDiff, lc1] <;> rfl) ⟨ys, by omega, rfl, k8.mono (by omega)⟩
  clear e6 b6 k6 lc0 l6 k1 e1 ok xs
  rintro _ s ⟨nums, ln, rfl, ok⟩
  have hr : ((2 : Int) ≤ 100000 ∧ -100000 ≤ (2 : Int)) := by decide
  refine nx_forS (s1 := s) (ds := rangeD 0 2) (c := fun _ => True) (by simp only [mJI, mRng1, EE, eEqS, seqS, toS, R.lift, asSeq, asList, asTup, List.replicate, Nat.reduceAdd, Nat.reduceSub, Nat.reduceLeDiff, Nat.reduceLT, Nat.reduceMul, Int.reduceToNat, Int.reduceEq, Int.reduceAdd, Int.reduceSub, Int.reduceNeg, reduceIte, Nat.reduceEqDiff, hr, and_self]) ?_
  rw [show forLS (O A).S (O A).st (fun _ => True) (fName 5) (bd_law_2 A) (rangeD 0 2) (Env A x0 x2 (.sh (tD sh)) (.sh (.lst (iD nums))) x5 x6 x7 x8 x9) s = _ from forLS_eq (fun _ => trivial) _ _ _]
  obtain ⟨ρ', s', e, h⟩ := forL_nx (O := O A) (f := fName 5) (mb := bd_law_2 A) 2 (fun i ρ s => (∃ nums' y5 y6 y7 y8 y9, nums'.length = (indsL sh).length ∧ ρ = Env A x0 x2 (.sh (tD sh)) (.sh (.lst (iD nums'))) y5 y6 y7 y8 y9) ∧ ∃ q', OkQ q' (b + 500 + 10 * i) s)
    (by
      rintro i d ρ s hi ⟨⟨nums', y5, y6, y7, y8, y9, ln', rfl⟩, q, ok⟩
      refine ⟨_, rfl, (again_ok A (x0 := x0) (x2 := x2) (x5 := .sh d) (x6 := y6) (x7 := y7) (x8 := y8) (x9 := y9) ne sp pb s4 ln' ok (by omega)).mono fun ρ' s' h => ?_⟩
      obtain ⟨⟨nn, y6, y7, y8, y9, h0, h1⟩, q', h2⟩ := h
      exact ⟨⟨nn, _, y6, y7, y8, y9, h0, h1⟩, q', h2.mono (by omega)⟩)
    (rangeD 0 2) (by simp [rangeD]) (Env A x0 x2 (.sh (tD sh)) (.sh (.lst (iD nums))) x5 x6 x7 x8 x9) s ⟨⟨_, _, _, _, _, _, ln, rfl⟩, q, ok.mono (by omega)⟩
  obtain ⟨⟨nn, y5, y6, y7, y8, y9, _, h1⟩, q', h2⟩ := h
  exact nx_of e ⟨⟨_, _, _, _, _, _, _, h1⟩, q', h2.mono (by omega)⟩
theorem hm_holds (A : Ad) (ns : List Int) (he : A.es = [.AxisError, .FaultError]) (J : A.toCa.Inj) (hl : ns.length ≤ 63) : ∃ s, mb_law A (.sh (.lst (ns.map D.int)) :: .sh (.ref A.d) :: List.replicate 9 .no) ⟨ns.filter (fun n => decide (10 ^ 18 ≤ n)), 0, ns.filter (fun n => decide (n < 10 ^ 18)), 0, []⟩ = .rt (.bl true) s := by
  have k0 := OkQ.start ns
  generalize (⟨ns.filter (fun n => decide (10 ^ 18 ≤ n)), 0, ns.filter (fun n => decide (n < 10 ^ 18)), 0, []⟩ : Dr) = s0 at k0 ⊢
  generalize Sl.sh (D.lst (ns.map D.int)) = x0
  obtain ⟨ρ', s', e, h⟩ := forL_nx (O := O A) (f := fName 2) (mb := bd_law_3 A) 4 (fun i ρ s => (∃ y2 y3 y4 y5 y6 y7 y8 y9, ρ = Env A x0 y2 y3 y4 y5 y6 y7 y8 y9) ∧ ∃ q, OkQ q (1000 * i) s)
    (by
      rintro i d ρ s hi ⟨⟨y2, y3, y4, y5, y6, y7, y8, y9, rfl⟩, q, ok⟩
      refine ⟨_, rfl, (turn_ok A (x0 := x0) (x2 := .sh d) (x3 := y3) (x4 := y4) (x5 := y5) (x6 := y6) (x7 := y7) (x8 := y8) (x9 := y9) ok (by omega)).mono fun ρ' s' h => ?_⟩
      obtain ⟨⟨y3, y4, y5, y6, y7, y8, y9, h1⟩, q', h2⟩ := h
      exact ⟨⟨_, y3, y4, y5, y6, y7, y8, y9, h1⟩, q', h2.mono (by omega)⟩)
    (rangeD 0 4) (by simp [rangeD]) (Env A x0 .no .no .no .no .no .no .no .no) s0 ⟨⟨_, _, _, _, _, _, _, _, rfl⟩, _, k0.mono (by omega)⟩
  refine ⟨s', ?_⟩
  have hr : ((4 : Int) ≤ 100000 ∧ -100000 ≤ (4 : Int)) := by decide
  have e' : forLS (O A).S (O A).st (fun _ => True) (fName 2) (bd_law_3 A) (rangeD 0 4) (Env A x0 .no .no .no .no .no .no .no .no) s0 = .nx ρ' s' := (forLS_eq (fun _ => trivial) _ _ _).trans e
  simp only [Env] at e'
  simp only [mb_law, mForS, mJI, mRng1, EE, eEqS, seqS, toS, R.lift, asSeq, asList, asTup, List.replicate, Nat.reduceAdd, Nat.reduceSub, Nat.reduceLeDiff, Nat.reduceLT, Nat.reduceMul, Int.reduceToNat, Int.reduceEq, Int.reduceAdd, Int.reduceSub, Int.reduceNeg, reduceIte, Nat.reduceEqDiff, hr, and_self]
  rw [e']
end K46
namespace K46
open PySem PySem.Spec PyProof.Rows L2 RZ Mr S
theorem ini_AxisError {P : Program} {w : World} {K : PySem.W.Frag} {mg : Str → Option Value} {base : Heap} {C L f : Addr} {fd : FuncData} (F : Fun K "__init__" "AxisError.__init__" s_iAxisError f fd) (T0 : LcT K mg L) (TE : OexC K C) (no : ∀ f ∈ [("axis" : Str)], PySem.W.findIn K (.ref C) f = some none) :
    FnOk P w K mg base CX0 1 f fd ["self", "axis"] (spIni K C ["axis"]) := by
  refine F.ok sc_iAxisError (fun vs H Q E h => ?_) (fun cdv A outer s H vs Q E hr h => ?_)
  · obtain ⟨a, ws, rfl, hl, _⟩ := h
    show ws.length + 1 = _
    rw [hl]
    rfl
  · obtain ⟨a, ws, rfl, hl, ea, fv, q⟩ := h
    match ws, hl with
    | [v0], _ =>
      refine ⟨_, pss_cons (ps_expr (pe_lcinit rfl T0 (pa_cons (pv 0) (pa_cons (pe_joined (.cons pe_str (.cons (pe_fmtG rfl hr (pv 1)) .nil))) pa_nil)))) (pss_one (ps_ost (pv 0) (pv 1))), ?_⟩
      refine init1_read (E := E) TE (no _ (by simp)) rfl rfl ea ?_ (Nat.le_of_ble_eq_true rfl) q
      intro t ht
      simp only [List.mem_cons, List.not_mem_nil, or_false] at ht
      rcases ht with rfl | rfl
      · exact part_c (by decide)
      · exact part_v rfl (fv _ (by simp))
theorem ini_FaultError {P : Program} {w : World} {K : PySem.W.Frag} {mg : Str → Option Value} {base : Heap} {C L f : Addr} {fd : FuncData} (F : Fun K "__init__" "FaultError.__init__" s_iFaultError f fd) (T0 : LcT K mg L) (TE : OexC K C) (no : ∀ f ∈ [("reason" : Str)], PySem.W.findIn K (.ref C) f = some none) :
    FnOk P w K mg base CX0 1 f fd ["self", "reason"] (spIni K C ["reason"]) := by
  refine F.ok sc_iFaultError (fun vs H Q E h => ?_) (fun cdv A outer s H vs Q E hr h => ?_)
  · obtain ⟨a, ws, rfl, hl, _⟩ := h
    show ws.length + 1 = _
    rw [hl]
    rfl
  · obtain ⟨a, ws, rfl, hl, ea, fv, q⟩ := h
    match ws, hl with
    | [v0], _ =>
      refine ⟨_, pss_cons (ps_expr (pe_lcinit rfl T0 (pa_cons (pv 0) (pa_cons (pe_joined (.cons pe_str (.cons (pe_fmtG rfl hr (pv 1)) .nil))) pa_nil)))) (pss_one (ps_ost (pv 0) (pv 1))), ?_⟩
      refine init1_read (E := E) TE (no _ (by simp)) rfl rfl ea ?_ (Nat.le_of_ble_eq_true rfl) q
      intro t ht
      simp only [List.mem_cons, List.not_mem_nil, or_false] at ht
      rcases ht with rfl | rfl
      · exact part_c (by decide)
      · exact part_v rfl (fv _ (by simp))
theorem all_mk {P : Program} {w : World} {K : PySem.W.Frag} {h : Heap} {mg : Str → Option Value} {fa L : Addr} (X : K.In h) (G : h.Ns mainGlobals mg) (hfa : mg "law" = some (.ref fa))
    {nm0 q0 : Str} {C0 N0 fI0 : Addr} {bs0 bm0 : List Value} {sn0 : List Str} {sub0 : List Value} {ab0 : Bool} {col0 : Option Bool} {dd0 odI0 anI0 : Option Addr} {m00 m10 m20 m30 m50 : Option Value} {slI0 : Array (Option Value)} {ocI0 kVI0 dcI0 pmI0 cdI0 ctI0 : Value}
    {nm1 q1 : Str} {C1 N1 fI1 : Addr} {bs1 bm1 : List Value} {sn1 : List Str} {sub1 : List Value} {ab1 : Bool} {col1 : Option Bool} {dd1 odI1 anI1 : Option Addr} {m01 m11 m21 m31 m51 : Option Value} {slI1 : Array (Option Value)} {ocI1 kVI1 dcI1 pmI1 cdI1 ctI1 : Value}
    {f0 : Addr} {od0 an0 : Option Addr} {sl0 : Array (Option Value)} {oc0 kV0 dc0 pm0 cd0 ct0 : Value}
    {f1 : Addr} {od1 an1 : Option Addr} {sl1 : Array (Option Value)} {oc1 kV1 dc1 pm1 cd1 ct1 : Value}
    {f2 : Addr} {od2 an2 : Option Addr} {sl2 : Array (Option Value)} {oc2 kV2 dc2 pm2 cd2 ct2 : Value}
    {f3 : Addr} {od3 an3 : Option Addr} {sl3 : Array (Option Value)} {oc3 kV3 dc3 pm3 cd3 ct3 : Value}
    {f4 : Addr} {od4 an4 : Option Addr} {sl4 : Array (Option Value)} {oc4 kV4 dc4 pm4 cd4 ct4 : Value}
    {f5 : Addr} {od5 an5 : Option Addr} {sl5 : Array (Option Value)} {oc5 kV5 dc5 pm5 cd5 ct5 : Value}
    {f6 : Addr} {od6 an6 : Option Addr} {sl6 : Array (Option Value)} {oc6 kV6 dc6 pm6 cd6 ct6 : Value}
    {f7 : Addr} {od7 an7 : Option Addr} {sl7 : Array (Option Value)} {oc7 kV7 dc7 pm7 cd7 ct7 : Value}
    {f8 : Addr} {od8 an8 : Option Addr} {sl8 : Array (Option Value)} {oc8 kV8 dc8 pm8 cd8 ct8 : Value}
    {f9 : Addr} {od9 an9 : Option Addr} {sl9 : Array (Option Value)} {oc9 kV9 dc9 pm9 cd9 ct9 : Value}
    {f10 : Addr} {od10 an10 : Option Addr} {sl10 : Array (Option Value)} {oc10 kV10 dc10 pm10 cd10 ct10 : Value}
    {f11 : Addr} {od11 an11 : Option Addr} {sl11 : Array (Option Value)} {oc11 kV11 dc11 pm11 cd11 ct11 : Value}
    {f12 : Addr} {od12 an12 : Option Addr} {sl12 : Array (Option Value)} {oc12 kV12 dc12 pm12 cd12 ct12 : Value}
    {f13 : Addr} {od13 an13 : Option Addr} {sl13 : Array (Option Value)} {oc13 kV13 dc13 pm13 cd13 ct13 : Value}
    {f14 : Addr} {od14 an14 : Option Addr} {sl14 : Array (Option Value)} {oc14 kV14 dc14 pm14 cd14 ct14 : Value}
    (aL : PySem.W.nsIn K mainGlobals "LateCopyError" = some (some (.ref L)))
    (rL : PySem.W.readsIn K L (.type "type") = true)
    (fL : PySem.W.findCls K (.ref L) (.type "type") "__init__" = some (.val (.builtin "ValueError.__init__")))
    (sL : PySem.W.specialIn K (.ref L) "__getattribute__" = some (some (.builtin "type.__getattribute__")))
    (aC0 : PySem.W.nsIn K mainGlobals "AxisError" = some (some (.ref C0)))
    (xC0 : K.lookup C0 = some (excClassObj nm0 q0 C0 N0 bs0 bm0 true sn0 sub0 ab0 col0 dd0 m00 m10 m20 m30 m50 "ValueError.__new__"))
    (bC0 : PySem.HandSPX.refsVE bm0 = true)
    (sC0 : PySem.W.findIn K (.ref C0) "__setattr__" = some (some (.builtin "object.__setattr__")))
    (eC0 : PySem.W.subIn K (.ref C0) (.type "BaseException") = some true)
    (tC0 : PySem.W.typeIn K (.ref C0) = some (.type "type"))
    (kC0 : PySem.W.keepIn K (.ref C0) = true)
    (ga0 : PySem.W.findIn K (.ref C0) "__getattribute__" = some (some (.builtin "BaseException.__getattribute__")))
    (gg0 : PySem.W.findIn K (.ref C0) "__getattr__" = some none)
    (hd0 : PySem.W.hasDictIn K C0 = true)
    (no0_0 : PySem.W.findIn K (.ref C0) "axis" = some none)
    (aI0 : PySem.W.findIn K (.ref C0) "__init__" = some (some (.ref fI0)))
    (tI0 : PySem.W.typeIn K (.ref fI0) = some (.type "function"))
    (lI0 : K.lookup fI0 = some ⟨ocI0, odI0, .func (PySem.W.fnOf "__init__" "AxisError.__init__" (defArgs s_iAxisError) (defBody s_iAxisError) (defScope s_iAxisError) .none kVI0 dcI0 pmI0 anI0 cdI0 ctI0), slI0⟩)
    (cI0 : PySem.W.codeIn K cdI0 "AxisError.__init__" = true)
    (kI0 : PySem.W.keepIn K (.ref fI0) = true)
    (aC1 : PySem.W.nsIn K mainGlobals "FaultError" = some (some (.ref C1)))
    (xC1 : K.lookup C1 = some (excClassObj nm1 q1 C1 N1 bs1 bm1 true sn1 sub1 ab1 col1 dd1 m01 m11 m21 m31 m51 "ValueError.__new__"))
    (bC1 : PySem.HandSPX.refsVE bm1 = true)
    (sC1 : PySem.W.findIn K (.ref C1) "__setattr__" = some (some (.builtin "object.__setattr__")))
    (eC1 : PySem.W.subIn K (.ref C1) (.type "BaseException") = some true)
    (tC1 : PySem.W.typeIn K (.ref C1) = some (.type "type"))
    (kC1 : PySem.W.keepIn K (.ref C1) = true)
    (ga1 : PySem.W.findIn K (.ref C1) "__getattribute__" = some (some (.builtin "BaseException.__getattribute__")))
    (gg1 : PySem.W.findIn K (.ref C1) "__getattr__" = some none)
    (hd1 : PySem.W.hasDictIn K C1 = true)
    (no1_0 : PySem.W.findIn K (.ref C1) "reason" = some none)
    (aI1 : PySem.W.findIn K (.ref C1) "__init__" = some (some (.ref fI1)))
    (tI1 : PySem.W.typeIn K (.ref fI1) = some (.type "function"))
    (lI1 : K.lookup fI1 = some ⟨ocI1, odI1, .func (PySem.W.fnOf "__init__" "FaultError.__init__" (defArgs s_iFaultError) (defBody s_iFaultError) (defScope s_iFaultError) .none kVI1 dcI1 pmI1 anI1 cdI1 ctI1), slI1⟩)
    (cI1 : PySem.W.codeIn K cdI1 "FaultError.__init__" = true)
    (kI1 : PySem.W.keepIn K (.ref fI1) = true)
    (x0_0 : PySem.W.exmOne K (.ref C0) (.ref C0) = some true)
    (x0_1 : PySem.W.exmOne K (.ref C1) (.ref C0) = some false)
    (x1_1 : PySem.W.exmOne K (.ref C1) (.ref C1) = some true)
    (a0 : PySem.W.nsIn K mainGlobals "_law_draws" = some (some (.ref f0)))
    (l0 : K.lookup f0 = some ⟨oc0, od0, .func (PySem.W.fnOf "_law_draws" "_law_draws" (defArgs s_law_draws) (defBody s_law_draws) (defScope s_law_draws) .none kV0 dc0 pm0 an0 cd0 ct0), sl0⟩)
    (c0 : PySem.W.codeIn K cd0 "_law_draws" = true)
    (k0 : PySem.W.keepIn K (.ref f0) = true)
    (a1 : PySem.W.nsIn K mainGlobals "_law_mixed" = some (some (.ref f1)))
    (l1 : K.lookup f1 = some ⟨oc1, od1, .func (PySem.W.fnOf "_law_mixed" "_law_mixed" (defArgs s_law_mixed) (defBody s_law_mixed) (defScope s_law_mixed) .none kV1 dc1 pm1 an1 cd1 ct1), sl1⟩)
    (c1 : PySem.W.codeIn K cd1 "_law_mixed" = true)
    (k1 : PySem.W.keepIn K (.ref f1) = true)
    (a2 : PySem.W.nsIn K mainGlobals "_law_take" = some (some (.ref f2)))
    (l2 : K.lookup f2 = some ⟨oc2, od2, .func (PySem.W.fnOf "_law_take" "_law_take" (defArgs s_law_take) (defBody s_law_take) (defScope s_law_take) .none kV2 dc2 pm2 an2 cd2 ct2), sl2⟩)
    (c2 : PySem.W.codeIn K cd2 "_law_take" = true)
    (k2 : PySem.W.keepIn K (.ref f2) = true)
    (a3 : PySem.W.nsIn K mainGlobals "_law_parts" = some (some (.ref f3)))
    (l3 : K.lookup f3 = some ⟨oc3, od3, .func (PySem.W.fnOf "_law_parts" "_law_parts" (defArgs s_law_parts) (defBody s_law_parts) (defScope s_law_parts) .none kV3 dc3 pm3 an3 cd3 ct3), sl3⟩)
    (c3 : PySem.W.codeIn K cd3 "_law_parts" = true)
    (k3 : PySem.W.keepIn K (.ref f3) = true)
    (a4 : PySem.W.nsIn K mainGlobals "_law_shape" = some (some (.ref f4)))
    (l4 : K.lookup f4 = some ⟨oc4, od4, .func (PySem.W.fnOf "_law_shape" "_law_shape" (defArgs s_law_shape) (defBody s_law_shape) (defScope s_law_shape) .none kV4 dc4 pm4 an4 cd4 ct4), sl4⟩)
    (c4 : PySem.W.codeIn K cd4 "_law_shape" = true)
    (k4 : PySem.W.keepIn K (.ref f4) = true)
    (a5 : PySem.W.nsIn K mainGlobals "_law_indices" = some (some (.ref f5)))
    (l5 : K.lookup f5 = some ⟨oc5, od5, .func (PySem.W.fnOf "_law_indices" "_law_indices" (defArgs s_law_indices) (defBody s_law_indices) (defScope s_law_indices) .none kV5 dc5 pm5 an5 cd5 ct5), sl5⟩)
    (c5 : PySem.W.codeIn K cd5 "_law_indices" = true)
    (k5 : PySem.W.keepIn K (.ref f5) = true)
    (a6 : PySem.W.nsIn K mainGlobals "_law_number" = some (some (.ref f6)))
    (l6 : K.lookup f6 = some ⟨oc6, od6, .func (PySem.W.fnOf "_law_number" "_law_number" (defArgs s_law_number) (defBody s_law_number) (defScope s_law_number) .none kV6 dc6 pm6 an6 cd6 ct6), sl6⟩)
    (c6 : PySem.W.codeIn K cd6 "_law_number" = true)
    (k6 : PySem.W.keepIn K (.ref f6) = true)
    (a7 : PySem.W.nsIn K mainGlobals "_law_block" = some (some (.ref f7)))
    (l7 : K.lookup f7 = some ⟨oc7, od7, .func (PySem.W.fnOf "_law_block" "_law_block" (defArgs s_law_block) (defBody s_law_block) (defScope s_law_block) .none kV7 dc7 pm7 an7 cd7 ct7), sl7⟩)
    (c7 : PySem.W.codeIn K cd7 "_law_block" = true)
    (k7 : PySem.W.keepIn K (.ref f7) = true)
    (a8 : PySem.W.nsIn K mainGlobals "_law_sorted" = some (some (.ref f8)))
    (l8 : K.lookup f8 = some ⟨oc8, od8, .func (PySem.W.fnOf "_law_sorted" "_law_sorted" (defArgs s_law_sorted) (defBody s_law_sorted) (defScope s_law_sorted) .none kV8 dc8 pm8 an8 cd8 ct8), sl8⟩)
    (c8 : PySem.W.codeIn K cd8 "_law_sorted" = true)
    (k8 : PySem.W.keepIn K (.ref f8) = true)
    (a9 : PySem.W.nsIn K mainGlobals "product" = some (some (.ref f9)))
    (l9 : K.lookup f9 = some ⟨oc9, od9, .func (PySem.W.fnOf "product" "product" (defArgs s_product) (defBody s_product) (defScope s_product) .none kV9 dc9 pm9 an9 cd9 ct9), sl9⟩)
    (c9 : PySem.W.codeIn K cd9 "product" = true)
    (k9 : PySem.W.keepIn K (.ref f9) = true)
    (a10 : PySem.W.nsIn K mainGlobals "around" = some (some (.ref f10)))
    (l10 : K.lookup f10 = some ⟨oc10, od10, .func (PySem.W.fnOf "around" "around" (defArgs s_around) (defBody s_around) (defScope s_around) .none kV10 dc10 pm10 an10 cd10 ct10), sl10⟩)
    (c10 : PySem.W.codeIn K cd10 "around" = true)
    (k10 : PySem.W.keepIn K (.ref f10) = true)
    (a11 : PySem.W.nsIn K mainGlobals "gather_axis" = some (some (.ref f11)))
    (l11 : K.lookup f11 = some ⟨oc11, od11, .func (PySem.W.fnOf "gather_axis" "gather_axis" (defArgs s_gather_axis) (defBody s_gather_axis) (defScope s_gather_axis) .none kV11 dc11 pm11 an11 cd11 ct11), sl11⟩)
    (c11 : PySem.W.codeIn K cd11 "gather_axis" = true)
    (k11 : PySem.W.keepIn K (.ref f11) = true)
    (a12 : PySem.W.nsIn K mainGlobals "sort_axis" = some (some (.ref f12)))
    (l12 : K.lookup f12 = some ⟨oc12, od12, .func (PySem.W.fnOf "sort_axis" "sort_axis" (defArgs s_sort_axis) (defBody s_sort_axis) (defScope s_sort_axis) .none kV12 dc12 pm12 an12 cd12 ct12), sl12⟩)
    (c12 : PySem.W.codeIn K cd12 "sort_axis" = true)
    (k12 : PySem.W.keepIn K (.ref f12) = true)
    (a13 : PySem.W.nsIn K mainGlobals "_law_same" = some (some (.ref f13)))
    (l13 : K.lookup f13 = some ⟨oc13, od13, .func (PySem.W.fnOf "_law_same" "_law_same" (defArgs s_law_same) (defBody s_law_same) (defScope s_law_same) .none kV13 dc13 pm13 an13 cd13 ct13), sl13⟩)
    (c13 : PySem.W.codeIn K cd13 "_law_same" = true)
    (k13 : PySem.W.keepIn K (.ref f13) = true)
    (a14 : PySem.W.nsIn K mainGlobals "law" = some (some (.ref f14)))
    (l14 : K.lookup f14 = some ⟨oc14, od14, .func (PySem.W.fnOf "law" "law" (defArgs s_law) (defBody s_law) (defScope s_law) .none kV14 dc14 pm14 an14 cd14 ct14), sl14⟩)
    (c14 : PySem.W.codeIn K cd14 "law" = true)
    (k14 : PySem.W.keepIn K (.ref f14) = true)
    (z_abs : PySem.W.nsIn K mainGlobals "abs" = some none)
    (z_all : PySem.W.nsIn K mainGlobals "all" = some none)
    (z_bool : PySem.W.nsIn K mainGlobals "bool" = some none)
    (z_int : PySem.W.nsIn K mainGlobals "int" = some none)
    (z_isinstance : PySem.W.nsIn K mainGlobals "isinstance" = some none)
    (z_len : PySem.W.nsIn K mainGlobals "len" = some none)
    (z_list : PySem.W.nsIn K mainGlobals "list" = some none)
    (z_min : PySem.W.nsIn K mainGlobals "min" = some none)
    (z_range : PySem.W.nsIn K mainGlobals "range" = some none)
    (z_sorted : PySem.W.nsIn K mainGlobals "sorted" = some none)
    (z_tuple : PySem.W.nsIn K mainGlobals "tuple" = some none)
    (z_zip : PySem.W.nsIn K mainGlobals "zip" = some none)
    : ∃ fd : FuncData, (∀ (s : Shared) (v : Value), BindsTo s fd ⟨[v], []⟩ [("_law_script", v)]) ∧ ∀ base : Heap, K.In base → base.Ns mainGlobals mg → FnOk P w K mg base (L2.CX P w) 6 fa fd ["_law_script"] (spLaw K) := by
  have e := hfa.symm.trans (PySem.W.mg_of X G a14)
  cases e
  have T0 : LcT K mg L := ⟨PySem.W.mg_of X G aL, rL, fL, sL⟩
  have TE0 : OexC K C0 := ⟨⟨_, _, _, _, _, _, _, _, _, _, _, _, _, _, _, xC0, bC0⟩, sC0, eC0, tC0, kC0⟩
  have no0 : ∀ f ∈ [("axis" : Str)], PySem.W.findIn K (.ref C0) f = some none := by
    intro f hf
    simp only [List.mem_cons, List.not_mem_nil, or_false] at hf
    rcases hf with rfl
    · exact no0_0
  have FI0 := fun_mk (st := s_iAxisError) lI0 cI0 kI0
  have bI0 := FI0.binds (ps := ["self", "axis"]) fun _ _ _ _ _ _ us hl => match us, hl with | [_, _], _ => rfl
  have TE1 : OexC K C1 := ⟨⟨_, _, _, _, _, _, _, _, _, _, _, _, _, _, _, xC1, bC1⟩, sC1, eC1, tC1, kC1⟩
  have no1 : ∀ f ∈ [("reason" : Str)], PySem.W.findIn K (.ref C1) f = some none := by
    intro f hf
    simp only [List.mem_cons, List.not_mem_nil, or_false] at hf
    rcases hf with rfl
    · exact no1_0
  have FI1 := fun_mk (st := s_iFaultError) lI1 cI1 kI1
  have bI1 := FI1.binds (ps := ["self", "reason"]) fun _ _ _ _ _ _ us hl => match us, hl with | [_, _], _ => rfl
  have F0 := fun_mk (st := s_law_draws) l0 c0 k0
  have F1 := fun_mk (st := s_law_mixed) l1 c1 k1
  have F2 := fun_mk (st := s_law_take) l2 c2 k2
  have F3 := fun_mk (st := s_law_parts) l3 c3 k3
  have F4 := fun_mk (st := s_law_shape) l4 c4 k4
  have F5 := fun_mk (st := s_law_indices) l5 c5 k5
  have F6 := fun_mk (st := s_law_number) l6 c6 k6
  have F7 := fun_mk (st := s_law_block) l7 c7 k7
  have F8 := fun_mk (st := s_law_sorted) l8 c8 k8
  have F9 := fun_mk (st := s_product) l9 c9 k9
  have F10 := fun_mk (st := s_around) l10 c10 k10
  have F11 := fun_mk (st := s_gather_axis) l11 c11 k11
  have F12 := fun_mk (st := s_sort_axis) l12 c12 k12
  have F13 := fun_mk (st := s_law_same) l13 c13 k13
  have F14 := fun_mk (st := s_law) l14 c14 k14
  let C : Ca := ⟨(fun e => match e with
      | .AxisError => C0
      | .FaultError => C1
      | _ => L), [.AxisError, .FaultError], L, fa, fun _ => fa⟩
  refine ⟨PySem.W.fnOf "law" "law" (defArgs s_law) (defBody s_law) (defScope s_law) .none kV14 dc14 pm14 an14 cd14 ct14, fun s v => .of_eq rfl, fun base _ _ => ?_⟩
  have T : Txt P w K mg base C :=
    { f_law_draws := ⟨_, _, F0, PySem.W.mg_of X G a0⟩
      f_law_mixed := ⟨_, _, F1, PySem.W.mg_of X G a1⟩
      f_law_take := ⟨_, _, F2, PySem.W.mg_of X G a2⟩
      f_law_parts := ⟨_, _, F3, PySem.W.mg_of X G a3⟩
      f_law_shape := ⟨_, _, F4, PySem.W.mg_of X G a4⟩
      f_law_indices := ⟨_, _, F5, PySem.W.mg_of X G a5⟩
      f_law_number := ⟨_, _, F6, PySem.W.mg_of X G a6⟩
      f_law_block := ⟨_, _, F7, PySem.W.mg_of X G a7⟩
      f_law_sorted := ⟨_, _, F8, PySem.W.mg_of X G a8⟩
      f_product := ⟨_, _, F9, PySem.W.mg_of X G a9⟩
      f_around := ⟨_, _, F10, PySem.W.mg_of X G a10⟩
      f_gather_axis := ⟨_, _, F11, PySem.W.mg_of X G a11⟩
      f_sort_axis := ⟨_, _, F12, PySem.W.mg_of X G a12⟩
      f_law_same := ⟨_, _, F13, PySem.W.mg_of X G a13⟩
      f_law := ⟨_, _, F14, PySem.W.mg_of X G a14⟩
      b_abs := PySem.W.mg_none_of X G z_abs
      b_all := PySem.W.mg_none_of X G z_all
      b_bool := PySem.W.mg_none_of X G z_bool
      b_int := PySem.W.mg_none_of X G z_int
      b_isinstance := PySem.W.mg_none_of X G z_isinstance
      b_len := PySem.W.mg_none_of X G z_len
      b_list := PySem.W.mg_none_of X G z_list
      b_min := PySem.W.mg_none_of X G z_min
      b_range := PySem.W.mg_none_of X G z_range
      b_sorted := PySem.W.mg_none_of X G z_sorted
      b_tuple := PySem.W.mg_none_of X G z_tuple
      b_zip := PySem.W.mg_none_of X G z_zip
      e_AxisError := ⟨PySem.W.mg_of X G aC0, TE0, ⟨ga0, gg0, eC0, hd0⟩, no0, _, _, aI0, tI0, ini_AxisError FI0 T0 TE0 no0, bI0⟩
      e_FaultError := ⟨PySem.W.mg_of X G aC1, TE1, ⟨ga1, gg1, eC1, hd1⟩, no1, _, _, aI1, tI1, ini_FaultError FI1 T0 TE1 no1, bI1⟩
      es := rfl
      inj := by
        intro e he f hf q
        replace he : e ∈ [Er.AxisError, Er.FaultError] := he
        replace hf : f ∈ [Er.AxisError, Er.FaultError] := hf
        simp only [List.mem_cons, List.not_mem_nil, or_false] at he hf
        rcases he with rfl | rfl <;> rcases hf with rfl | rfl
        · rfl
        · exfalso; have q2 : C0 = C1 := q; have h0 := x0_0; have h1 := x0_1; rw [← q2, h0] at h1; cases h1
        · exfalso; have q2 : C0 = C1 := q.symm; have h0 := x0_0; have h1 := x0_1; rw [← q2, h0] at h1; cases h1
        · rfl }
  exact ok_law T F14 (fun A ns he hi hl => hm_holds A ns he hi hl)
end K46
open PySem PySem.W PyProof.Rows
set_option maxRecDepth 100000 in
set_option maxHeartbeats 0 in
theorem PySem.Challenge.cw_latecopy_k46_sorted_axes_holds : PySem.Challenge.rw_latecopy_k46_sorted_axes.Holds := by
  w_on; o_law; k_head; (case hw => w_witness2)
  k_fill
  refine L2.walk_of (l := PySem.Challenge.rw_latecopy_k46_sorted_axes) (n := 63) (k := 6) (x := "_law_script") (CX := fun w => L2.CX PySem.Challenge.rw_latecopy_k46_sorted_axes.prog w) (sp := fun w => Mr.spLaw _) rfl (by decide) rfl ⟨rfl, by decide, by decide⟩ (fun w h Y => PySem.W.kIn_of Y) ?F (fun _ _ a ns hl _ hS => ⟨a, ns, rfl, hS, hl, fun _ => rfl⟩) (fun w H s e s2 z => Mr.noCX z)
  case F =>
    intro w mg fa h KX G hmg
    refine' K46.all_mk KX G hmg ?ZaL ?ZrL ?ZfL ?ZsL ?ZaC0 ?ZxC0 ?ZbC0 ?ZsC0 ?ZeC0 ?ZtC0 ?ZkC0 ?Zga0 ?Zgg0 ?Zhd0 ?Zno0_0 ?ZaI0 ?ZtI0 ?ZlI0 ?ZcI0 ?ZkI0 ?ZaC1 ?ZxC1 ?ZbC1 ?ZsC1 ?ZeC1 ?ZtC1 ?ZkC1 ?Zga1 ?Zgg1 ?Zhd1 ?Zno1_0 ?ZaI1 ?ZtI1 ?ZlI1 ?ZcI1 ?ZkI1 ?Zx0_0 ?Zx0_1 ?Zx1_1 ?Za0 ?Zl0 ?Zc0 ?Zk0 ?Za1 ?Zl1 ?Zc1 ?Zk1 ?Za2 ?Zl2 ?Zc2 ?Zk2 ?Za3 ?Zl3 ?Zc3 ?Zk3 ?Za4 ?Zl4 ?Zc4 ?Zk4 ?Za5 ?Zl5 ?Zc5 ?Zk5 ?Za6 ?Zl6 ?Zc6 ?Zk6 ?Za7 ?Zl7 ?Zc7 ?Zk7 ?Za8 ?Zl8 ?Zc8 ?Zk8 ?Za9 ?Zl9 ?Zc9 ?Zk9 ?Za10 ?Zl10 ?Zc10 ?Zk10 ?Za11 ?Zl11 ?Zc11 ?Zk11 ?Za12 ?Zl12 ?Zc12 ?Zk12 ?Za13 ?Zl13 ?Zc13 ?Zk13 ?Za14 ?Zl14 ?Zc14 ?Zk14 ?Zz_abs ?Zz_all ?Zz_bool ?Zz_int ?Zz_isinstance ?Zz_len ?Zz_list ?Zz_min ?Zz_range ?Zz_sorted ?Zz_tuple ?Zz_zip
    (case ZaL => k_is)
    (case ZrL => k_is)
    (case ZfL => k_is)
    (case ZsL => k_is)
    (case ZaC0 => k_is)
    (case ZxC0 => first | k_is | decide +kernel | rfl)
    (case ZbC0 => first | k_is | decide +kernel | rfl)
    (case ZsC0 => k_is)
    (case ZeC0 => k_is)
    (case ZtC0 => k_is)
    (case ZkC0 => first | k_is | decide +kernel | rfl)
    (case Zga0 => k_is)
    (case Zgg0 => k_is)
    (case Zhd0 => k_is)
    (case Zno0_0 => k_is)
    (case ZaI0 => k_is)
    (case ZtI0 => k_is)
    (case ZlI0 => k_is)
    (case ZcI0 => k_is)
    (case ZkI0 => first | k_is | decide +kernel | rfl)
    (case ZaC1 => k_is)
    (case ZxC1 => first | k_is | decide +kernel | rfl)
    (case ZbC1 => first | k_is | decide +kernel | rfl)
    (case ZsC1 => k_is)
    (case ZeC1 => k_is)
    (case ZtC1 => k_is)
    (case ZkC1 => first | k_is | decide +kernel | rfl)
    (case Zga1 => k_is)
    (case Zgg1 => k_is)
    (case Zhd1 => k_is)
    (case Zno1_0 => k_is)
    (case ZaI1 => k_is)
    (case ZtI1 => k_is)
    (case ZlI1 => k_is)
    (case ZcI1 => k_is)
    (case ZkI1 => first | k_is | decide +kernel | rfl)
    (case Zx0_0 => first | k_is | decide +kernel | rfl)
    (case Zx0_1 => first | k_is | decide +kernel | rfl)
    (case Zx1_1 => first | k_is | decide +kernel | rfl)
    (case Za0 => k_is)
    (case Zl0 => k_is)
    (case Zc0 => k_is)
    (case Zk0 => first | k_is | decide +kernel | rfl)
    (case Za1 => k_is)
    (case Zl1 => k_is)
    (case Zc1 => k_is)
    (case Zk1 => first | k_is | decide +kernel | rfl)
    (case Za2 => k_is)
    (case Zl2 => k_is)
    (case Zc2 => k_is)
    (case Zk2 => first | k_is | decide +kernel | rfl)
    (case Za3 => k_is)
    (case Zl3 => k_is)
    (case Zc3 => k_is)
    (case Zk3 => first | k_is | decide +kernel | rfl)
    (case Za4 => k_is)
    (case Zl4 => k_is)
    (case Zc4 => k_is)
    (case Zk4 => first | k_is | decide +kernel | rfl)
    (case Za5 => k_is)
    (case Zl5 => k_is)
    (case Zc5 => k_is)
    (case Zk5 => first | k_is | decide +kernel | rfl)
    (case Za6 => k_is)
    (case Zl6 => k_is)
    (case Zc6 => k_is)
    (case Zk6 => first | k_is | decide +kernel | rfl)
    (case Za7 => k_is)
    (case Zl7 => k_is)
    (case Zc7 => k_is)
    (case Zk7 => first | k_is | decide +kernel | rfl)
    (case Za8 => k_is)
    (case Zl8 => k_is)
    (case Zc8 => k_is)
    (case Zk8 => first | k_is | decide +kernel | rfl)
    (case Za9 => k_is)
    (case Zl9 => k_is)
    (case Zc9 => k_is)
    (case Zk9 => first | k_is | decide +kernel | rfl)
    (case Za10 => k_is)
    (case Zl10 => k_is)
    (case Zc10 => k_is)
    (case Zk10 => first | k_is | decide +kernel | rfl)
    (case Za11 => k_is)
    (case Zl11 => k_is)
    (case Zc11 => k_is)
    (case Zk11 => first | k_is | decide +kernel | rfl)
    (case Za12 => k_is)
    (case Zl12 => k_is)
    (case Zc12 => k_is)
    (case Zk12 => first | k_is | decide +kernel | rfl)
    (case Za13 => k_is)
    (case Zl13 => k_is)
    (case Zc13 => k_is)
    (case Zk13 => first | k_is | decide +kernel | rfl)
    (case Za14 => k_is)
    (case Zl14 => k_is)
    (case Zc14 => k_is)
    (case Zk14 => first | k_is | decide +kernel | rfl)
    (case Zz_abs => k_is)
    (case Zz_all => k_is)
    (case Zz_bool => k_is)
    (case Zz_int => k_is)
    (case Zz_isinstance => k_is)
    (case Zz_len => k_is)
    (case Zz_list => k_is)
    (case Zz_min => k_is)
    (case Zz_range => k_is)
    (case Zz_sorted => k_is)
    (case Zz_tuple => k_is)
    (case Zz_zip => k_is)
