import PyProof.Rows.All
import Wide.All
import OpenK.AllK
import Wide.FinOn
import HandS.ForMost
import HandS.SetKeys
import HandS.NoneIn
import HandS.SetBool
import HandS.ForExc
import HandS.Flow
import HandS.Wide
import HandS.WideMore
import HandS.IsInst
import HandS.CallSlots
import HandS.ExcInit
import HandS.FStr
import HandS.Style
import HandS.Conv
import HandS.SortInts
import HandS.Defaults
import HandS.TupAny
import HandS.Zip
import HandS.Rev
import HandS.FStrTup
import HandS.ExcField
import HandS.HotCalls
import KE.KExcIs
import KE.DataFind
import HandS.OwnEq
import HandS.Deep
import KE.KRevSl
import HandS.Iter
import HandS.More
import PyProof.ListNew
import KE.KItemsList
import HandS.TryOnly
import HandS.WordsDict
import HandS.DictComp
import PyProof.Rows.SortShellAny
import KE.KDictZip
import HandS.SetFor
import HandS.SortRule
import KE.KUnpack
import HandS.NamedTupGet
import HandS.DictTup
import HandS.Comp
import HandS.TupMul
import KE.KIntText
import HandS.HeadHook3
import HandS.Zip0
import PyProof.FactsDict
import PySem.Challenge.RW_latecopy_k26_whole_no_shorter_list
set_option Elab.async false
set_option linter.all false
set_option autoImplicit false
set_option maxRecDepth 100000
set_option maxHeartbeats 4000000
namespace MX
open PySem PySem.Spec PyProof.Rows L2
abbrev MK := Int ⊕ List Key
def hashM (hf : Key → Int) : MK → Int
  | .inl i => hf (.inl i)
  | .inr ks => reduceHash (Builtin.Tuple.tupleHashOf (ks.map hf))
def tokM : MK → Nat
  | .inl _ => 1
  | .inr ks => ks.length + 1
abbrev Row := MK × Value × Value
def entM (hf : Key → Int) (r : Row) : DictEntry := ⟨hashM hf r.1, r.2.1, r.2.2⟩
section
variable (P : Program) (w : World)
/-- in the heap h the value v is the key k -/
inductive KeyIn (h : Heap) : MK → Value → Prop
  | int (i : Int) (t : Tok) : KeyIn h (.inl i) (.int i t)
  | bool (b : Bool) : KeyIn h (.inl (PpSet.b2 b)) (.bool b)
  | tup {ks : List Key} {b : Addr} (q : (tupleKind (mixKind P w)).is h ks b) : KeyIn h (.inr ks) (.ref b)
variable {P w}
variable {h h' : Heap} {x y : MK} {u v : Value}
theorem KeyIn.inj (a : KeyIn P w h x v) (b : KeyIn P w h y v) : x = y := by
  cases a with
  | int i t => cases b; rfl
  | bool c => cases b; rfl
  | tup q => cases b with
    | tup q' => rw [(tupleKind (mixKind P w)).inj q q']
theorem KeyIn.keep {d : Addr} {o : Obj} {es : Array DictEntry} {ep : Nat} (a : KeyIn P w h x v) (e : h.get? d = some o) (f : o.data = .dict es ep) (g : Heap.SameBut d h h') : KeyIn P w h' x v := by
  cases a with
  | int i t => exact .int i t
  | bool b => exact .bool b
  | tup q => exact .tup ((tupleKind (mixKind P w)).keeps q e f g)
variable {A : Around} {E : Value → Shared → Prop} {s : Shared}
theorem key_hash {Q : Int → Shared → Prop} (room : A.units < cLine) (a : KeyIn P w s.heap x v) (q : Q (hashM (keyH w) x) { s with toks := s.toks + tokM x }) : wpAny (model P w) A (pyHash v) Q E s := by
  cases a with
  | int i t => exact (mixKind P w).pyHash (k := .inl i) (mixKind_int P w i t) q
  | bool b => exact PpSet.pyHash_bool q
  | tup z => exact (tupleKind (mixKind P w)).pyHash room z q
theorem dec_b2l (i : Int) (b : Bool) : (i == (if b then 1 else 0)) = decide ((Sum.inl i : MK) = Sum.inl (PpSet.b2 b)) := by
  rw [Bool.eq_iff_iff, beq_iff_eq, decide_eq_true_iff]
  exact ⟨fun z => by rw [z]; rfl, fun z => by injection z⟩
theorem dec_b2r (b : Bool) (i : Int) : ((if b then 1 else 0) == i) = decide ((Sum.inl (PpSet.b2 b) : MK) = Sum.inl i) := by
  rw [Bool.eq_iff_iff, beq_iff_eq, decide_eq_true_iff]
  exact ⟨fun z => by rw [← z]; rfl, fun z => by injection z⟩
theorem dec_b2b (a b : Bool) : (a == b) = decide ((Sum.inl (PpSet.b2 a) : MK) = Sum.inl (PpSet.b2 b)) := by
  cases a <;> cases b <;> decide
theorem key_eq {Q : Bool → Shared → Prop} (room : A.units < cLine) (a : KeyIn P w s.heap x u) (b : KeyIn P w s.heap y v) (q : Q (decide (x = y)) s) : wpAny (model P w) A (eqBool u v) Q E s := by
  cases a with
  | int i t => cases b with
    | int j t' =>
      refine (mixKind P w).eqBool (a := .inl i) (b := .inl j) (mixKind_int P w i t) (mixKind_int P w j t') ?_
      have e : decide ((Sum.inl i : Key) = Sum.inl j) = decide ((Sum.inl i : MK) = Sum.inl j) := by
        rw [decide_eq_decide]
        exact ⟨fun z => by cases z; rfl, fun z => by cases z; rfl⟩
      rw [e]
      exact q
    | bool c => exact SeqAt.EqAt.int_bool i t c _ _ _ _ (by rw [dec_b2l]; exact q)
    | tup z =>
      obtain ⟨o, its, n, h1, h2, h3, _⟩ := z
      rw [decide_eq_false (fun z => by cases z)] at q
      exact SeqAt.EqAt.int_tuple (items := its) i t ⟨o, h1, h2, n, h3⟩ room _ _ _ _ q
  | bool c => cases b with
    | int j t' => exact SeqAt.EqAt.bool_int c j t' _ _ _ _ (by rw [dec_b2r]; exact q)
    | bool d => exact SeqAt.EqAt.bool_bool c d _ _ _ _ (by rw [dec_b2b]; exact q)
    | tup z =>
      obtain ⟨o, its, n, h1, h2, h3, _⟩ := z
      rw [decide_eq_false (fun z => by cases z)] at q
      exact SeqAt.EqAt.bool_tuple (items := its) c ⟨o, h1, h2, n, h3⟩ room _ _ _ _ q
  | tup z => cases b with
    | bool c =>
      obtain ⟨o, its, n, h1, h2, h3, _⟩ := z
      rw [decide_eq_false (fun z => by cases z)] at q
      exact SeqAt.EqAt.tuple_bool (items := its) c ⟨o, h1, h2, n, h3⟩ room _ _ _ _ q
    | int j t =>
      obtain ⟨o, its, n, h1, h2, h3, _⟩ := z
      rw [decide_eq_false (fun z => by cases z)] at q
      exact SeqAt.EqAt.tuple_int (items := its) j t ⟨o, h1, h2, n, h3⟩ room _ _ _ _ q
    | @tup ks' b' z' =>
      rename_i ks b
      refine (tupleKind (mixKind P w)).eqBool room z z' ?_
      have e : decide (ks = ks') = decide ((Sum.inr ks : MK) = Sum.inr ks') := by
        rw [decide_eq_decide]
        exact ⟨fun z => by rw [z], fun z => by cases z; rfl⟩
      rw [e]
      exact q
theorem key_quiet {Q : Bool → Shared → Prop} (a : KeyIn P w s.heap x v) (q : Q true s) : wpAny (model P w) A (eqIsQuiet 8 v) Q E s := by
  cases a with
  | int i t => rw [eqIsQuiet_byValue _ rfl]; exact wpAny_pure q
  | bool b => rw [eqIsQuiet_byValue _ rfl]; exact wpAny_pure q
  | tup z => exact (tupleKind (mixKind P w)).quiet z q
theorem tells_no {l : List Value} {Q : Bool → Shared → Prop} (a : KeyIn P w s.heap x v) (all : ∀ u ∈ l, ∃ y, KeyIn P w s.heap y u) (q : Q false s) : wpAny (model P w) A (tableMayTell v l) Q E s := by
  unfold tableMayTell
  split
  · exact wpAny_pure q
  refine wpAny_bind (key_quiet a ?_)
  simp only [Bool.not_true, Bool.false_eq_true, if_false]
  refine wpAny_bind (wpAny_forIn_list _ (fun more st t => t = s ∧ st = (none, ()) ∧ ∀ u ∈ more, ∃ y, KeyIn P w s.heap y u) _ ?_ ?_ _ _ ⟨rfl, rfl, all⟩)
  · rintro u more st t ⟨rfl, rfl, rest⟩
    obtain ⟨y, ky⟩ := rest u List.mem_cons_self
    refine wpAny_bind (key_quiet ky ?_)
    simp only [Bool.not_true, Bool.false_eq_true, if_false]
    exact wpAny_pure ⟨rfl, rfl, fun z hz => rest z (List.mem_cons_of_mem _ hz)⟩
  · rintro st t ⟨rfl, rfl, _⟩
    exact wpAny_pure q
theorem rows_at {hf : Key → Int} {es : Array DictEntry} {xs : List Row} (e : es.toList = xs.map (entM hf)) (j : Nat) : es[j]? = (xs[j]?).map (entM hf) := by
  rw [← Array.getElem?_toList, e, List.getElem?_map]
theorem rows_size {hf : Key → Int} {es : Array DictEntry} {xs : List Row} (e : es.toList = xs.map (entM hf)) : es.size = xs.length := by
  have := congrArg List.length e
  simpa using this
theorem rows_one {xs : List Row} (nd : (xs.map (·.1)).Nodup) {i j : Nat} {k : MK} {p q : Value × Value} (a : xs[i]? = some (k, p)) (b : xs[j]? = some (k, q)) : i = j := by
  have a' : (xs.map (·.1))[i]? = some k := by rw [List.getElem?_map, a]; rfl
  have b' : (xs.map (·.1))[j]? = some k := by rw [List.getElem?_map, b]; rfl
  exact (List.getElem?_inj (List.getElem?_eq_some_iff.mp a').1 nd).mp (a'.trans b'.symm)
/-- where the walk through the places stands: nothing found ahead of i, or the one row -/
def Seen (xs : List Row) (k : MK) (i : Nat) (hit : Option Nat) : Prop := (hit = none ∧ ∀ j p, j < i → xs[j]? ≠ some (k, p)) ∨ ∃ j p, hit = some j ∧ j < i ∧ xs[j]? = some (k, p)
abbrev Plc (es : Array DictEntry) (hs : Int) (i : Nat) : List Nat := (List.range' i (es.size - i)).filter (fun i => (es[i]?.map (·.hash)) == some hs)
theorem plc_start (es : Array DictEntry) (hs : Int) : placesWithHash es.size (fun i => es[i]?.map (·.hash)) hs = Plc es hs 0 := by
  rw [placesWithHash, List.range_eq_range', Plc, Nat.sub_zero]
theorem has_hash {es : Array DictEntry} {xs : List Row} {k : MK} (e : es.toList = xs.map (entM (keyH w))) {j : Nat} {p : Value × Value} (hj : xs[j]? = some (k, p)) : ((es[j]?.map (·.hash)) == some (hashM (keyH w) k)) = true := by
  rw [rows_at e j, hj]
  simp [entM]
/-- the next place -/
theorem plc_next {es : Array DictEntry} {xs : List Row} {k : MK} (e : es.toList = xs.map (entM (keyH w))) {i c : Nat} {more : List Nat} {hit : Option Nat} (hr : c :: more = Plc es (hashM (keyH w) k) i) (H : Seen xs k i hit) :
    ∃ k' kv vv, xs[c]? = some (k', kv, vv) ∧ es[c]? = some ⟨hashM (keyH w) k', kv, vv⟩ ∧ more = Plc es (hashM (keyH w) k) (c + 1) ∧ c < es.size ∧ Seen xs k c hit ∧ (¬ k' = k → Seen xs k (c + 1) hit) := by
  obtain ⟨h1, h2, h3, h4, h5⟩ := filter_range'_cons _ _ _ _ _ hr.symm
  have lt : c < es.size := by omega
  have lx : c < xs.length := by rw [← rows_size e]; exact lt
  obtain ⟨⟨k', kv, vv⟩, hkv⟩ : ∃ y, xs[c]? = some y := ⟨_, List.getElem?_eq_getElem lx⟩
  have H' : Seen xs k c hit := by
    rcases H with ⟨z, no⟩ | ⟨j, p, z, hji, hj⟩
    · refine .inl ⟨z, fun j p hjc hj => ?_⟩
      rcases Nat.lt_or_ge j i with l | l
      · exact no j p l hj
      · have := h4 j l hjc
        rw [has_hash e hj] at this
        cases this
    · exact .inr ⟨j, p, z, by omega, hj⟩
  refine ⟨k', kv, vv, hkv, by rw [rows_at e c, hkv]; rfl, by rw [h5]; unfold Plc; congr 2; omega, lt, H', fun ne => ?_⟩
  rcases H' with ⟨z, no⟩ | ⟨j, p, z, hji, hj⟩
  · refine .inl ⟨z, fun j p hjc hj => ?_⟩
    rcases Nat.lt_or_ge j c with l | l
    · exact no j p l hj
    · have hjc' : j = c := by omega
      subst hjc'
      rw [hkv] at hj
      cases hj
      exact ne rfl
  · exact .inr ⟨j, p, z, by omega, hj⟩
/-- the places are through -/
theorem plc_end {es : Array DictEntry} {xs : List Row} {k : MK} (e : es.toList = xs.map (entM (keyH w))) {i : Nat} {hit : Option Nat} (hr : [] = Plc es (hashM (keyH w) k) i) (H : Seen xs k i hit) :
    (hit = none ∧ ∀ (j : Nat) p, xs[j]? ≠ some (k, p)) ∨ ∃ j p, hit = some j ∧ xs[j]? = some (k, p) := by
  rcases H with ⟨z, no⟩ | ⟨j, p, z, _, hj⟩
  · refine .inl ⟨z, fun j p hj => ?_⟩
    rcases Nat.lt_or_ge j i with l | l
    · exact no j p l hj
    · have lx : j < es.size := by
        rw [rows_size e]
        exact (List.getElem?_eq_some_iff.mp hj).1
      have := List.filter_eq_nil_iff.mp hr.symm j (List.mem_range'_1.mpr ⟨l, by omega⟩)
      exact this (has_hash e hj)
  · exact .inr ⟨j, p, z, hj⟩
/-- a lookup by hash and equality -/
theorem find_m {d : Addr} {o : Obj} {es : Array DictEntry} {ep : Nat} {xs : List Row} {k : MK} {Q : Option Nat → Shared → Prop} (room : A.units < cLine) (hk : KeyIn P w s.heap k v)
    (ho : s.heap.get? d = some o) (hd : o.data = .dict es ep) (e : es.toList = xs.map (entM (keyH w))) (his : ∀ r ∈ xs, KeyIn P w s.heap r.1 r.2.1) (nd : (xs.map (·.1)).Nodup)
    (q0 : (∀ (j : Nat) p, xs[j]? ≠ some (k, p)) → Q none s) (q1 : ∀ (j : Nat) p, xs[j]? = some (k, p) → Q (some j) s) : wpAny (model P w) A (dictFind d v (hashM (keyH w) k)) Q E s := by
  have row : ∀ t ∈ es, ∃ r ∈ xs, t = entM (keyH w) r := by
    intro t ht
    have : t ∈ xs.map (entM (keyH w)) := e ▸ Array.mem_toList_iff.mpr ht
    obtain ⟨r, hr, rfl⟩ := List.mem_map.mp this
    exact ⟨r, hr, rfl⟩
  obtain ⟨sto, hsto⟩ : ∃ sto, (placesWithHash es.size (fun i => es[i]?.map (·.hash)) (hashM (keyH w) k)).filterMap (fun i => es[i]?.map (·.key)) = sto := ⟨_, rfl⟩
  have keys : ∀ u ∈ sto, ∃ y, KeyIn P w s.heap y u := by
    intro u hu
    rw [← hsto] at hu
    obtain ⟨i, _, hi⟩ := List.mem_filterMap.mp hu
    cases he : es[i]? with
    | none => rw [he] at hi; cases hi
    | some t =>
      rw [he] at hi
      obtain rfl : t.key = u := by simpa using hi
      obtain ⟨r, hr, rfl⟩ := row t (Array.mem_of_getElem? he)
      exact ⟨_, his r hr⟩
  have at_ : ∀ {c : Nat} {k' : MK} {kv vv : Value}, xs[c]? = some (k', kv, vv) → KeyIn P w s.heap k' kv := fun hc => his _ (List.mem_of_getElem? hc)
  have shape : (∃ i t, v = .int i t) ∨ (∃ c, v = .bool c) ∨ ∃ b, v = .ref b := by
    cases hk with
    | int i t => exact .inl ⟨i, t, rfl⟩
    | bool c => exact .inr (.inl ⟨c, rfl⟩)
    | tup z => exact .inr (.inr ⟨_, rfl⟩)
  unfold dictFind
  try with_reducible refine wpAny_holding ?_
  refine wpAny_bind (wpAny_dictEntries ho hd ?_)
  rcases shape with ⟨i0, t0, rfl⟩ | ⟨c0, rfl⟩ | ⟨b0, rfl⟩
  · dsimp only
    rw [hsto]
    by_cases allv : ((Value.int i0 t0 :: sto).all carriedByValue) = true
    · rw [if_pos allv]
      unfold dictWalkPlain
      rw [plc_start]
      refine wpAny_bind ?_
      refine wpAny_forIn_list _ (fun more st t => t = s ∧ st = (none, ()) ∧ ∃ i, more = Plc es (hashM (keyH w) k) i ∧ Seen xs k i none) _ ?_ ?_ _ _ ⟨rfl, rfl, 0, rfl, .inl ⟨rfl, fun _ _ z => absurd z (Nat.not_lt_zero _)⟩⟩
      · rintro c more st t ⟨rfl, rfl, i, hr, H⟩
        obtain ⟨k', kv, vv, hx, hex, hmore, lt, H1, H2⟩ := plc_next e hr H
        have kc := at_ hx
        rw [hex]
        dsimp only
        by_cases hh : (hashM (keyH w) k' == hashM (keyH w) k) = true
        · rw [if_pos hh]
          refine wpAny_bind (wpAny_dictEpoch ho hd (wpAny_bind (key_eq room kc hk (wpAny_bind (wpAny_dictEpoch ho hd ?_)))))
          show wpAny _ _ (if (ep != ep) = true then _ else _) _ E _
          rw [if_neg (by simp)]
          by_cases same : k' = k
          · rw [decide_eq_true same]
            subst same
            exact wpAny_bind (wpAny_rule (wpAny_pure (wpAny_pure (q1 c _ hx))))
          · rw [decide_eq_false same]
            exact wpAny_bind (wpAny_rule (wpAny_pure ⟨rfl, rfl, c + 1, hmore, H2 same⟩))
        · rw [if_neg hh]
          refine wpAny_pure ⟨rfl, rfl, c + 1, hmore, H2 fun z => ?_⟩
          rw [z] at hh
          simp at hh
      · rintro st t ⟨rfl, rfl, i, hr, H⟩
        rcases plc_end e hr H with ⟨_, no⟩ | ⟨j, p, z, hj⟩
        · exact wpAny_pure (q0 no)
        · cases z
    · rw [if_neg allv]
      by_cases hone : (sto == [Value.int i0 t0]) = true <;>
      (first | rw [if_pos hone] | rw [if_neg hone]) <;> (first | refine wpAny_bind (wpAny_pure ?_) | refine wpAny_bind (tells_no hk keys ?_)) <;> (
    rw [if_neg (by simp)]
    refine wpAny_bind ?_
    rw [plc_start]
    refine wpAny_forIn_list _ (fun more st t => t = s ∧ ∃ i hit, st = (none, hit) ∧ more = Plc es (hashM (keyH w) k) i ∧ Seen xs k i hit) _ ?_ ?_ _ _ ⟨rfl, 0, none, rfl, rfl, .inl ⟨rfl, fun _ _ z => absurd z (Nat.not_lt_zero _)⟩⟩
    · rintro c more st t ⟨rfl, i, hit, rfl, hr, H⟩
      obtain ⟨k', kv, vv, hx, hex, hmore, lt, H1, H2⟩ := plc_next e hr H
      have kc := at_ hx
      rw [hex]
      dsimp only
      by_cases hh : (hashM (keyH w) k' == hashM (keyH w) k) = true
      · rw [if_pos hh]
        refine wpAny_bind (wpAny_dictEpoch ho hd (wpAny_bind (key_eq room kc hk (wpAny_bind (wpAny_dictEpoch ho hd ?_)))))
        show wpAny _ _ (if (ep != ep) = true then _ else _) _ E _
        rw [if_neg (by simp)]
        by_cases same : k' = k
        · rw [decide_eq_true same]
          subst same
          rcases H1 with ⟨rfl, _⟩ | ⟨j, p, _, hjc, hj⟩
          · first | rw [if_pos rfl] | skip
            simp only [Option.isSome_none, Bool.false_eq_true, if_false]
            first | refine wpAny_bind (wpAny_pure ?_) | skip
            refine wpAny_bind (wpAny_rule ?_)
            split
            · exact wpAny_pure (wpAny_pure (q1 c _ hx))
            · exact wpAny_pure ⟨rfl, c + 1, some c, rfl, hmore, .inr ⟨c, _, rfl, Nat.lt_succ_self c, hx⟩⟩
          · exact absurd (rows_one nd hj hx) (by omega)
        · rw [decide_eq_false same]
          simp only [Bool.false_eq_true, if_false]
          refine wpAny_bind (wpAny_rule ?_)
          first | rw [if_neg (by simp)] | skip
          first
            | exact wpAny_pure ⟨rfl, c + 1, hit, rfl, hmore, H2 same⟩
            | exact wpAny_bind (wpAny_pure (wpAny_pure ⟨rfl, c + 1, hit, rfl, hmore, H2 same⟩))
      · rw [if_neg hh]
        refine wpAny_pure ⟨rfl, c + 1, hit, rfl, hmore, H2 fun z => ?_⟩
        rw [z] at hh
        simp at hh
    · rintro st t ⟨rfl, i, hit, rfl, hr, H⟩
      rcases plc_end e hr H with ⟨rfl, no⟩ | ⟨j, p, rfl, hj⟩
      · exact wpAny_pure (q0 no)
      · exact wpAny_pure (q1 j p hj))
  · dsimp only
    rw [hsto]
    by_cases allv : ((Value.bool c0 :: sto).all carriedByValue) = true
    · rw [if_pos allv]
      unfold dictWalkPlain
      rw [plc_start]
      refine wpAny_bind ?_
      refine wpAny_forIn_list _ (fun more st t => t = s ∧ st = (none, ()) ∧ ∃ i, more = Plc es (hashM (keyH w) k) i ∧ Seen xs k i none) _ ?_ ?_ _ _ ⟨rfl, rfl, 0, rfl, .inl ⟨rfl, fun _ _ z => absurd z (Nat.not_lt_zero _)⟩⟩
      · rintro c more st t ⟨rfl, rfl, i, hr, H⟩
        obtain ⟨k', kv, vv, hx, hex, hmore, lt, H1, H2⟩ := plc_next e hr H
        have kc := at_ hx
        rw [hex]
        dsimp only
        by_cases hh : (hashM (keyH w) k' == hashM (keyH w) k) = true
        · rw [if_pos hh]
          refine wpAny_bind (wpAny_dictEpoch ho hd (wpAny_bind (key_eq room kc hk (wpAny_bind (wpAny_dictEpoch ho hd ?_)))))
          show wpAny _ _ (if (ep != ep) = true then _ else _) _ E _
          rw [if_neg (by simp)]
          by_cases same : k' = k
          · rw [decide_eq_true same]
            subst same
            exact wpAny_bind (wpAny_rule (wpAny_pure (wpAny_pure (q1 c _ hx))))
          · rw [decide_eq_false same]
            exact wpAny_bind (wpAny_rule (wpAny_pure ⟨rfl, rfl, c + 1, hmore, H2 same⟩))
        · rw [if_neg hh]
          refine wpAny_pure ⟨rfl, rfl, c + 1, hmore, H2 fun z => ?_⟩
          rw [z] at hh
          simp at hh
      · rintro st t ⟨rfl, rfl, i, hr, H⟩
        rcases plc_end e hr H with ⟨_, no⟩ | ⟨j, p, z, hj⟩
        · exact wpAny_pure (q0 no)
        · cases z
    · rw [if_neg allv]
      by_cases hone : (sto == [Value.bool c0]) = true <;>
      (first | rw [if_pos hone] | rw [if_neg hone]) <;> (first | refine wpAny_bind (wpAny_pure ?_) | refine wpAny_bind (tells_no hk keys ?_)) <;> (
    rw [if_neg (by simp)]
    refine wpAny_bind ?_
    rw [plc_start]
    refine wpAny_forIn_list _ (fun more st t => t = s ∧ ∃ i hit, st = (none, hit) ∧ more = Plc es (hashM (keyH w) k) i ∧ Seen xs k i hit) _ ?_ ?_ _ _ ⟨rfl, 0, none, rfl, rfl, .inl ⟨rfl, fun _ _ z => absurd z (Nat.not_lt_zero _)⟩⟩
    · rintro c more st t ⟨rfl, i, hit, rfl, hr, H⟩
      obtain ⟨k', kv, vv, hx, hex, hmore, lt, H1, H2⟩ := plc_next e hr H
      have kc := at_ hx
      rw [hex]
      dsimp only
      by_cases hh : (hashM (keyH w) k' == hashM (keyH w) k) = true
      · rw [if_pos hh]
        refine wpAny_bind (wpAny_dictEpoch ho hd (wpAny_bind (key_eq room kc hk (wpAny_bind (wpAny_dictEpoch ho hd ?_)))))
        show wpAny _ _ (if (ep != ep) = true then _ else _) _ E _
        rw [if_neg (by simp)]
        by_cases same : k' = k
        · rw [decide_eq_true same]
          subst same
          rcases H1 with ⟨rfl, _⟩ | ⟨j, p, _, hjc, hj⟩
          · first | rw [if_pos rfl] | skip
            simp only [Option.isSome_none, Bool.false_eq_true, if_false]
            first | refine wpAny_bind (wpAny_pure ?_) | skip
            refine wpAny_bind (wpAny_rule ?_)
            split
            · exact wpAny_pure (wpAny_pure (q1 c _ hx))
            · exact wpAny_pure ⟨rfl, c + 1, some c, rfl, hmore, .inr ⟨c, _, rfl, Nat.lt_succ_self c, hx⟩⟩
          · exact absurd (rows_one nd hj hx) (by omega)
        · rw [decide_eq_false same]
          simp only [Bool.false_eq_true, if_false]
          refine wpAny_bind (wpAny_rule ?_)
          first | rw [if_neg (by simp)] | skip
          first
            | exact wpAny_pure ⟨rfl, c + 1, hit, rfl, hmore, H2 same⟩
            | exact wpAny_bind (wpAny_pure (wpAny_pure ⟨rfl, c + 1, hit, rfl, hmore, H2 same⟩))
      · rw [if_neg hh]
        refine wpAny_pure ⟨rfl, c + 1, hit, rfl, hmore, H2 fun z => ?_⟩
        rw [z] at hh
        simp at hh
    · rintro st t ⟨rfl, i, hit, rfl, hr, H⟩
      rcases plc_end e hr H with ⟨rfl, no⟩ | ⟨j, p, rfl, hj⟩
      · exact wpAny_pure (q0 no)
      · exact wpAny_pure (q1 j p hj))
  · dsimp only
    rw [hsto]
    have any_ : ¬ (es.any fun t => t.key == Value.ref b0 && t.hash != hashM (keyH w) k) = true := by
      rw [← Array.any_toList, List.any_eq_true]
      rintro ⟨t, ht, hc⟩
      obtain ⟨r, hr, rfl⟩ := row t (Array.mem_toList_iff.mp ht)
      simp only [entM, Bool.and_eq_true, beq_iff_eq, bne_iff_ne, ne_eq] at hc
      obtain ⟨c1, c2⟩ := hc
      have z := his r hr
      rw [c1] at z
      exact c2 (by rw [KeyIn.inj z hk])
    rw [if_neg (show ¬ ((Value.ref b0 :: sto).all carriedByValue) = true by simp [carriedByValue]), if_neg any_]
    by_cases hone : (sto == [Value.ref b0]) = true <;>
    (first | rw [if_pos hone] | rw [if_neg hone]) <;> (first | refine wpAny_bind (wpAny_pure ?_) | refine wpAny_bind (tells_no hk keys ?_)) <;> (
    rw [if_neg (by simp)]
    refine wpAny_bind ?_
    rw [plc_start]
    refine wpAny_forIn_list _ (fun more st t => t = s ∧ ∃ i hit, st = (none, hit) ∧ more = Plc es (hashM (keyH w) k) i ∧ Seen xs k i hit) _ ?_ ?_ _ _ ⟨rfl, 0, none, rfl, rfl, .inl ⟨rfl, fun _ _ z => absurd z (Nat.not_lt_zero _)⟩⟩
    · rintro c more st t ⟨rfl, i, hit, rfl, hr, H⟩
      obtain ⟨k', kv, vv, hx, hex, hmore, lt, H1, H2⟩ := plc_next e hr H
      have kc := at_ hx
      rw [hex]
      dsimp only
      by_cases hh : (hashM (keyH w) k' == hashM (keyH w) k) = true
      · rw [if_pos hh]
        refine wpAny_bind (wpAny_dictEpoch ho hd (wpAny_bind (key_eq room kc hk (wpAny_bind (wpAny_dictEpoch ho hd ?_)))))
        show wpAny _ _ (if (ep != ep) = true then _ else _) _ E _
        rw [if_neg (by simp)]
        by_cases same : k' = k
        · rw [decide_eq_true same]
          subst same
          rcases H1 with ⟨rfl, _⟩ | ⟨j, p, _, hjc, hj⟩
          · first | rw [if_pos rfl] | skip
            simp only [Option.isSome_none, Bool.false_eq_true, if_false]
            first | refine wpAny_bind (wpAny_pure ?_) | skip
            refine wpAny_bind (wpAny_rule ?_)
            split
            · exact wpAny_pure (wpAny_pure (q1 c _ hx))
            · exact wpAny_pure ⟨rfl, c + 1, some c, rfl, hmore, .inr ⟨c, _, rfl, Nat.lt_succ_self c, hx⟩⟩
          · exact absurd (rows_one nd hj hx) (by omega)
        · rw [decide_eq_false same]
          simp only [Bool.false_eq_true, if_false]
          refine wpAny_bind (wpAny_rule ?_)
          first | rw [if_neg (by simp)] | skip
          first
            | exact wpAny_pure ⟨rfl, c + 1, hit, rfl, hmore, H2 same⟩
            | exact wpAny_bind (wpAny_pure (wpAny_pure ⟨rfl, c + 1, hit, rfl, hmore, H2 same⟩))
      · rw [if_neg hh]
        refine wpAny_pure ⟨rfl, c + 1, hit, rfl, hmore, H2 fun z => ?_⟩
        rw [z] at hh
        simp at hh
    · rintro st t ⟨rfl, i, hit, rfl, hr, H⟩
      rcases plc_end e hr H with ⟨rfl, no⟩ | ⟨j, p, rfl, hj⟩
      · exact wpAny_pure (q0 no)
      · exact wpAny_pure (q1 j p hj))
variable (P w) in
def DictM (h : Heap) (d : Addr) (xs : List Row) : Prop :=
  ∃ o es ep, h.get? d = some o ∧ o.ExactDict ∧ o.data = .dict es ep ∧ es.toList = xs.map (entM (keyH w)) ∧ (∀ r ∈ xs, KeyIn P w h r.1 r.2.1) ∧ (xs.map (·.1)).Nodup
def valM (xs : List Row) (k : MK) : Option Value := (xs.find? fun r => decide (r.1 = k)).map (·.2.2)
theorem valM_none {xs : List Row} {k : MK} (no : ∀ (j : Nat) p, xs[j]? ≠ some (k, p)) : valM xs k = none := by
  unfold valM
  rw [Option.map_eq_none_iff, List.find?_eq_none]
  intro r hr
  obtain ⟨j, hj⟩ := List.mem_iff_getElem?.mp hr
  intro z
  have z := of_decide_eq_true z
  exact no j r.2 (by rw [hj, ← z])
theorem valM_some {k : MK} {p : Value × Value} : ∀ {xs : List Row}, (xs.map (·.1)).Nodup → ∀ {j : Nat}, xs[j]? = some (k, p) → valM xs k = some p.2
  | [], _, j, hj => by simp at hj
  | r :: xs, nd, 0, hj => by
    simp only [List.getElem?_cons_zero, Option.some.injEq] at hj
    subst hj
    simp [valM]
  | r :: xs, nd, j + 1, hj => by
    rw [List.map_cons, List.nodup_cons] at nd
    simp only [List.getElem?_cons_succ] at hj
    have ne : ¬ r.1 = k := fun z => nd.1 (z ▸ List.mem_map.mpr ⟨(k, p), List.mem_of_getElem? hj, rfl⟩)
    have := valM_some nd.2 hj
    simpa [valM, List.find?_cons, ne] using this
theorem DictM.typ {d : Addr} {xs : List Row} (m : DictM P w s.heap d xs) : s.TypeIs (.ref d) "dict" := let ⟨o, _, _, ho, hc, _⟩ := m; ⟨o, ho, hc.1⟩
theorem get_m {d : Addr} {xs : List Row} {k : MK} {Q : Option Value → Shared → Prop} (room : A.units < cLine) (hk : KeyIn P w s.heap k v) (m : DictM P w s.heap d xs) (q : Q (valM xs k) { s with toks := s.toks + tokM k }) :
    wpAny (model P w) A (dictGet d v) Q E s := by
  obtain ⟨o, es, ep, ho, _, hd, e, his, nd⟩ := m
  unfold dictGet
  try with_reducible refine wpAny_holding ?_
  refine wpAny_bind (key_hash room hk (wpAny_bind (find_m (s := { s with toks := s.toks + tokM k }) room hk ho hd e his nd (fun no => ?_) (fun j p hj => ?_))))
  · rw [valM_none no] at q
    exact wpAny_pure q
  · rw [valM_some nd hj] at q
    refine wpAny_bind (wpAny_dictEntries (s := { s with toks := s.toks + tokM k }) ho hd ?_)
    rw [rows_at e j, hj]
    exact wpAny_pure q
theorem in_m {d : Addr} {xs : List Row} {k : MK} {Q : Value → Shared → Prop} (room : A.in1.units < cLine) (hk : KeyIn P w s.heap k v) (nm : (d == sysModules) = false) (m : DictM P w s.heap d xs) (q : Q (.bool (valM xs k).isSome) { s with toks := s.toks + tokM k }) :
    wpAny (model P w) A (compareOp .In v (.ref d)) Q E s := by
  show wpAny _ _ (do return .bool (← contains (.ref d) v)) Q E s
  refine wpAny_bind ?_
  unfold contains
  try with_reducible refine wpAny_holding ?_
  refine wpAny_bind (wpAny_specialOf m.typ slot_dict_contains.lookup ?_)
  show wpAny _ _ (if (some (Value.builtin "dict.__contains__") == some Value.none) = true then _ else _) _ E s
  rw [if_neg (by rw [beq_builtin_none]; exact Bool.false_ne_true)]
  refine wpAny_bind (wpAny_callSpecialUnlessNone?_slot (name := Str.ofString "__contains__") m.typ slot_dict_contains (wpAny_call_entry slot_dict_contains m.typ entry_dict_contains ?_ (args_dict_contains _ _)))
  show wpAny _ _ (dictGet d v >>= _) _ _ s
  refine wpAny_bind (get_m room hk m ?_)
  cases hf : valM xs k with
  | some p =>
    rw [hf] at q
    show wpAny _ _ (ret (.bool true)) _ _ _
    exact wpAny_pure ⟨_, rfl, wpAny_truthy_bool (wpAny_pure q)⟩
  | none =>
    rw [hf] at q
    show wpAny _ _ (Builtin.Dict.pendingKey? d v >>= _) _ _ _
    exact wpAny_bind (wpAny_pendingKey_other nm (wpAny_pure ⟨_, rfl, wpAny_truthy_bool (wpAny_pure q)⟩))
theorem item_m {d : Addr} {xs : List Row} {k : MK} {r : Value} {Q : Value → Shared → Prop} (room : A.in1.units < cLine) (hk : KeyIn P w s.heap k v) (m : DictM P w s.heap d xs) (hr : valM xs k = some r) (q : Q r { s with toks := s.toks + tokM k }) :
    wpAny (model P w) A (getItem (.ref d) v) Q E s := by
  unfold getItem
  try with_reducible refine wpAny_holding ?_
  refine wpAny_bind (wpAny_sequenceKey m.typ (by decide) ?_)
  refine wpAny_bind (wpAny_callSpecial?_slot (name := Str.ofString "__getitem__") m.typ slot_dict_getitem (wpAny_call_entry slot_dict_getitem m.typ entry_dict_getitem ?_ (args_dict_getitem _ _)))
  show wpAny _ _ (dictGet d v >>= _) _ _ s
  refine wpAny_bind (get_m room hk m ?_)
  rw [hr]
  exact wpAny_pure ⟨r, rfl, wpAny_pure q⟩
theorem setd_m {d : Addr} {xs : List Row} {k : MK} {r : Value} {Q : Value → Shared → Prop} (room : A.units < cLine) (hk : KeyIn P w s.heap k v) (m : DictM P w s.heap d xs) (hz : xs.length ≤ sizeLine)
    (q1 : ∀ p, valM xs k = some p → Q p { s with toks := s.toks + tokM k })
    (q2 : valM xs k = none → ∀ h', DictM P w h' d (xs ++ [(k, v, r)]) → Heap.SameBut d s.heap h' → Q r { s with heap := h', toks := s.toks + tokM k }) :
    wpAny (model P w) A (dictSetDefault d v r) Q E s := by
  obtain ⟨o, es, ep, ho, hc, hd, e, his, nd⟩ := m
  unfold dictSetDefault
  try with_reducible refine wpAny_holding ?_
  refine wpAny_bind (key_hash room hk ?_)
  refine wpAny_bind (find_m (s := { s with toks := s.toks + tokM k }) room hk ho hd e his nd (fun no => ?_) (fun j p hj => ?_))
  · have nk : k ∉ xs.map (·.1) := fun z => by
      obtain ⟨x, hx, rfl⟩ := List.mem_map.mp z
      obtain ⟨j, hj⟩ := List.mem_iff_getElem?.mp hx
      exact no j x.2 hj
    refine wpAny_bind (wpAny_rule (wpAny_bind (wpAny_updateDictKeys (hz := by have := rows_size e; omega) (s := { s with toks := s.toks + tokM k }) ho hd (wpAny_pure (q2 (valM_none no) _ ⟨_, _, ep + 1, Heap.get?_update_self _ ho (Obj.isFreed_of_dict (Obj.data_mapDictKeys hd _)), hc.mapDictKeys _, Obj.data_mapDictKeys hd _, by simp [e, entM], fun y hy => ?_, ?_⟩ (Heap.SameBut.update ..))))))
    · rcases List.mem_append.mp hy with hy | hy
      · exact (his y hy).keep ho hd (Heap.SameBut.update ..)
      · simp only [List.mem_singleton] at hy
        subst hy
        exact hk.keep ho hd (Heap.SameBut.update ..)
    · rw [List.map_append, List.nodup_append]
      refine ⟨nd, by simp, fun y hy z hz' => ?_⟩
      simp only [List.map_cons, List.map_nil, List.mem_singleton] at hz'
      subst hz'
      exact fun t => nk (t ▸ hy)
  · refine wpAny_bind (wpAny_dictEntries (s := { s with toks := s.toks + tokM k }) ho hd ?_)
    rw [rows_at e j, hj]
    exact wpAny_bind (wpAny_rule (wpAny_pure (q1 p.2 (valM_some nd hj))))
theorem meets_setd {d : Addr} {r : Value} (nm : (d == sysModules) = false) :
    MeetsIn P w (Builtin.«dict.setdefault» ⟨[.ref d, v, r], []⟩) (fun A R s => A.in1.units < cLine ∧ ∃ k xs, KeyIn P w s.heap k v ∧ DictM P w s.heap d xs ∧ xs.length ≤ sizeLine ∧ (∀ p, valM xs k = some p → R (.ok (.ret p)) { s with toks := s.toks + tokM k }) ∧
      (valM xs k = none → ∀ h', DictM P w h' d (xs ++ [(k, v, r)]) → Heap.SameBut d s.heap h' → R (.ok (.ret r)) { s with heap := h', toks := s.toks + tokM k })) :=
  .of_wp fun A R s ⟨room, k, xs, hk, m, hz, q1, q2⟩ => by
    unfold Builtin.«dict.setdefault»
    refine wpAny_bind ?_
    unfold Builtin.Dict.keyAndDefault
    refine wpAny_bind (wpAny_notOrdered_dict m.typ ?_)
    show wpAny _ _ (pure (d, v, some r)) _ _ s
    refine wpAny_pure ?_
    show wpAny _ _ (if (d == sysModules) = true then _ else (dictSetDefault d v r >>= _)) _ _ s
    rw [if_neg (by rw [nm]; exact Bool.false_ne_true)]
    exact wpAny_bind (setd_m room hk m hz (fun p hp => wpAny_pure ⟨p, rfl, q1 p hp⟩) fun hn h' m' hs => wpAny_pure ⟨r, rfl, q2 hn h' m' hs⟩)
theorem call_setd_m {d : Addr} {xs : List Row} {k : MK} {r : Value} {Q : Value → Shared → Prop} (room : A.in1.units < cLine) (hk : KeyIn P w s.heap k v) (nm : (d == sysModules) = false) (m : DictM P w s.heap d xs) (hz : xs.length ≤ sizeLine)
    (q1 : ∀ p, valM xs k = some p → Q p { s with toks := s.toks + tokM k })
    (q2 : valM xs k = none → ∀ h', DictM P w h' d (xs ++ [(k, v, r)]) → Heap.SameBut d s.heap h' → Q r { s with heap := h', toks := s.toks + tokM k }) :
    wpAny (model P w) A (call (.builtin "dict.setdefault") [.ref d, v, r]) Q E s :=
  call_meetsIn F.slot_dict_setdefault m.typ F.entry_dict_setdefault (F.args_dict_setdefault_3 _ _ _) (meets_setd nm) ⟨room, k, xs, hk, m, hz, q1, q2⟩
end
abbrev XK := Int ⊕ (List Key × Addr)
def keyX : XK → MK
  | .inl i => .inl i
  | .inr p => .inr p.1
def kvX : XK → V
  | .inl i => .int i
  | .inr p => .ref p.2
structure RowX (x : XK × V) (r : Row) : Prop where
  k : keyX x.1 = r.1
  a : RelV (kvX x.1) r.2.1
  v : RelV x.2 r.2.2
def MixObj (hf : Key → Int) (a : Addr) (xs : List (XK × V)) (h : Heap) : Prop :=
  (a == sysModules) = false ∧ xs.length ≤ sizeLine ∧ ∃ o es ep rows, h.get? a = some o ∧ o.ExactDict ∧ o.data = .dict es ep ∧ es.toList = rows.map (entM hf) ∧ Paired RowX xs rows ∧ (rows.map (·.1)).Nodup
/-- the dict at a, its keys mixed -/
def MixD (hf : Key → Int) (a : Addr) (xs : List (XK × V)) : HO := .ext (MixObj hf a xs)
def KeyV (K : PySem.W.Frag) (H : Hp) : MK → V → Prop
  | .inl i, y => y = .int i
  | .inr ks, y => ∃ b, y = .ref b ∧ SqT K H b (ks.map kV)
def EvX (K : PySem.W.Frag) (H : Hp) (xs : List (XK × V)) : Prop := ∀ x ∈ xs, KeyV K H (keyX x.1) (kvX x.1)
def valX (xs : List (XK × V)) (k : MK) : Option V := (xs.find? fun x => decide (keyX x.1 = k)).map (·.2)
theorem mix_new {P : Program} {w : World} {H : Hp} {h : Heap} {a : Addr} {hf : Key → Int} {xs : List (XK × V)} (m : MixObj hf a xs h) : ObjOk P w H h a (MixD hf a xs) := by
  refine ⟨m, ?_, fun h1 h2 p e => ?_⟩
  · obtain ⟨_, _, o, _, _, _, e, _⟩ := m
    exact ⟨o, e⟩
  · obtain ⟨a1, a2, o, es, ep, rows, e1, r⟩ := p
    exact ⟨a1, a2, o, es, ep, rows, e o e1, r⟩
theorem rows_val {xs : List (XK × V)} {rows : List Row} (r : Paired RowX xs rows) (k : MK) : RelO (valX xs k) (valM rows k) := by
  induction r with
  | nil => exact True.intro
  | @cons x y xs ys h t ih =>
    unfold valX valM at ih ⊢
    rw [List.find?_cons, List.find?_cons, h.k]
    by_cases e : y.1 = k
    · simp only [e, decide_true, Option.map_some]
      exact h.v
    · simp only [e, decide_false]
      exact ih
section
variable {X : Cx} {pins : List (Addr × Obj)} {σ : L2.St} {H : Hp} {s : Shared} {a : Addr} {A : Around} {E : Value → Shared → Prop}
theorem mix_get {hf : Key → Int} {xs : List (XK × V)} (I : Inv X pins σ H s) (e : H a = some (MixD hf a xs)) : MixObj hf a xs s.heap := (I.hok a _ e).1
theorem keyIn_of {k : MK} {y : V} {u : Value} (I : Inv X pins σ H s) (h : KeyV X.K H k y) (r : RelV y u) : KeyIn X.prog X.w s.heap k u := by
  cases k with
  | inl i =>
    obtain rfl : y = V.int i := h
    obtain ⟨t, rfl⟩ : ∃ t, u = Value.int i t := r
    exact .int i t
  | inr ks =>
    obtain ⟨b, rfl, q⟩ := h
    obtain rfl : u = Value.ref b := r
    obtain ⟨its, vs, ⟨o, g, c, n, d⟩, _⟩ := I.tuple q
    exact .tup ⟨o, its.toArray, n, g, c, d, by simpa using items_are vs⟩
theorem mix_dict {xs : List (XK × V)} (I : Inv X pins σ H s) (e : H a = some (MixD (keyH X.w) a xs)) (ev : EvX X.K H xs) : (a == sysModules) = false ∧ xs.length ≤ sizeLine ∧ ∃ rows, Paired RowX xs rows ∧ DictM X.prog X.w s.heap a rows := by
  obtain ⟨nm, hz, o, es, ep, rows, g, c, d, q, r, nd⟩ := mix_get I e
  refine ⟨nm, hz, rows, r, o, es, ep, g, c, d, q, ?_, nd⟩
  have all : ∀ {l : List (XK × V)} {m : List Row}, Paired RowX l m → (∀ x ∈ l, KeyV X.K H (keyX x.1) (kvX x.1)) → ∀ y ∈ m, KeyIn X.prog X.w s.heap y.1 y.2.1 := by
    intro l m p
    induction p with
    | nil => intro _ y hy; exact nomatch hy
    | @cons x z xs zs h t ih =>
      intro ev y hy
      rcases List.mem_cons.mp hy with rfl | hy
      · have := keyIn_of I (ev x List.mem_cons_self) h.a
        rw [h.k] at this
        exact this
      · exact ih (fun x hx => ev x (List.mem_cons_of_mem _ hx)) y hy
  exact all r ev
/-- a dict whose keys are allI, looked at with any key -/
theorem dk_dict {kvs : List (Key × V)} (I : Inv X pins σ H s) (e : Rd H a (.dK kvs)) (allI : ∀ kv ∈ kvs, ∃ i : Int, kv.1 = .inl i) : (a == sysModules) = false ∧ ∃ rows, DictM X.prog X.w s.heap a rows ∧ (∀ ks, valM rows (.inr ks) = none) ∧ ∀ i : Int, (valM rows (.inl i)).isSome = kvs.any fun kv => decide (kv.1 = .inl i) := by
  obtain ⟨_, nm, vs, rel, o, es, ep, g, c, d, hk, hp, nd⟩ := dk_rd I.hok e
  have allI' : ∀ kv ∈ vs, ∃ i : Int, kv.1 = .inl i := by
    intro kv hkv
    have e1 : kv.1 ∈ kvs.map (·.1) := by rw [rel.keys]; exact List.mem_map_of_mem hkv
    obtain ⟨p, hp, hq⟩ := List.mem_map.mp e1
    obtain ⟨i, hi⟩ := allI p hp
    exact ⟨i, by rw [← hq, hi]⟩
  have key : ∀ {l : List DictEntry} {m : List (Key × Value)}, Pairs (mixKind X.prog X.w) l m → (∀ t ∈ l, ∃ k, (mixKind X.prog X.w).is k t.key = true ∧ t.hash = (mixKind X.prog X.w).hash k) → (∀ kv ∈ m, ∃ i : Int, kv.1 = .inl i) →
      ∃ rows : List Row, l = rows.map (entM (keyH X.w)) ∧ (∀ r ∈ rows, ∃ i t, r.1 = .inl i ∧ r.2.1 = .int i t) ∧ rows.map (·.1) = m.map fun kv => match kv.1 with | .inl i => (.inl i : MK) | .inr _ => .inr [] := by
    intro l m p
    induction p with
    | nil => intro _ _; exact ⟨[], rfl, fun r hr => absurd hr List.not_mem_nil, rfl⟩
    | @cons t kv l m h1 h2 h3 ih =>
      intro hk hi
      obtain ⟨rows, r1, r2, r3⟩ := ih (fun t ht => hk t (List.mem_cons_of_mem _ ht)) (fun kv hkv => hi kv (List.mem_cons_of_mem _ hkv))
      obtain ⟨i, ei⟩ := hi kv List.mem_cons_self
      obtain ⟨k, q1, q2⟩ := hk t List.mem_cons_self
      rw [ei] at h1
      have ek : k = .inl i := (mixKind X.prog X.w).inj _ _ _ q1 h1
      obtain ⟨j, tk, e1, e2⟩ | ⟨x, tk, e1, _⟩ := keyIs_shape (k := .inl i) (v := t.key) h1
      · cases e1
        refine ⟨(.inl i, t.key, t.val) :: rows, ?_, fun r hr => ?_, ?_⟩
        · rw [List.map_cons, ← r1]
          congr 1
          rw [ek] at q2
          obtain ⟨th, tk', tv⟩ := t
          show DictEntry.mk th tk' tv = ⟨hashM (keyH X.w) (.inl i), tk', tv⟩
          have q2' : th = hashM (keyH X.w) (.inl i) := q2
          rw [q2']
        · rcases List.mem_cons.mp hr with rfl | hr
          · exact ⟨i, tk, rfl, e2⟩
          · exact r2 r hr
        · rw [List.map_cons, List.map_cons, r3, ei]
      · cases e1
  obtain ⟨rows, r1, r2, r3⟩ := key hp (fun t ht => hk t (by simpa using ht)) allI'
  refine ⟨nm, rows, ⟨o, es, ep, g, c, d, r1, fun r hr => ?_, ?_⟩, fun ks => ?_, fun i => ?_⟩
  · obtain ⟨i, t, e1, e2⟩ := r2 r hr
    rw [e1, e2]
    exact .int i t
  · rw [r3]
    have nd' : vs.Pairwise fun a b => a.1 ≠ b.1 := List.pairwise_map.mp nd
    refine List.pairwise_map.mpr (nd'.imp_of_mem fun {p q} hp hq ne z => ?_)
    obtain ⟨i, ei⟩ := allI' p hp
    obtain ⟨j, ej⟩ := allI' q hq
    rw [ei, ej] at z
    cases z
    exact ne (by rw [ei, ej])
  · refine valM_none fun j p hj => ?_
    obtain ⟨i, t, e1, _⟩ := r2 _ (List.mem_of_getElem? hj)
    cases e1
  · unfold valM
    rw [Option.isSome_map, Bool.eq_iff_iff, List.find?_isSome, List.any_eq_true]
    have m1 : (∃ r ∈ rows, decide (r.1 = .inl i) = true) ↔ (.inl i : MK) ∈ rows.map (·.1) := by
      rw [List.mem_map]
      exact ⟨fun ⟨r, h1, h2⟩ => ⟨r, h1, of_decide_eq_true h2⟩, fun ⟨r, h1, h2⟩ => ⟨r, h1, decide_eq_true h2⟩⟩
    have m2 : (∃ kv ∈ kvs, decide (kv.1 = .inl i) = true) ↔ (.inl i : Key) ∈ vs.map (·.1) := by
      rw [← rel.keys, List.mem_map]
      exact ⟨fun ⟨r, h1, h2⟩ => ⟨r, h1, of_decide_eq_true h2⟩, fun ⟨r, h1, h2⟩ => ⟨r, h1, decide_eq_true h2⟩⟩
    rw [m1, m2, r3, List.mem_map, List.mem_map]
    constructor
    · rintro ⟨kv, h1, h2⟩
      obtain ⟨j, ej⟩ := allI' kv h1
      rw [ej] at h2
      injection h2 with h2
      exact ⟨kv, h1, by rw [ej, h2]⟩
    · rintro ⟨kv, h1, h2⟩
      exact ⟨kv, h1, by rw [h2]⟩
end
/-- y in d; y any key -/
def tDInX (K : PySem.W.Frag) (hf : Key → Int) (ty td : TE) : TE := fun σ H Q => ty σ H fun y H1 => td σ H1 fun x H2 => ∃ a, x = .ref a ∧ ((∃ o, DGet H2 a y o ∧ Q (.bl o.isSome) H2) ∨
  (∃ kvs ks, KeyV K H2 (.inr ks) y ∧ Rd H2 a (.dK kvs) ∧ (∀ kv ∈ kvs, ∃ i : Int, kv.1 = .inl i) ∧ Q (.bl false) H2) ∨
  (∃ kvs b, y = .bl b ∧ Rd H2 a (.dK kvs) ∧ (∀ kv ∈ kvs, ∃ i : Int, kv.1 = .inl i) ∧ Q (.bl (kvs.any fun kv => decide (kv.1 = .inl (PpSet.b2 b)))) H2) ∨
  (∃ xs k, H2 a = some (MixD hf a xs) ∧ EvX K H2 xs ∧ KeyV K H2 k y ∧ Q (.bl (valX xs k).isSome) H2))
/-- d[y] -/
def tDGetX (K : PySem.W.Frag) (hf : Key → Int) (td ty : TE) : TE := fun σ H Q => td σ H fun x H1 => ty σ H1 fun y H2 => ∃ a xs k v, x = .ref a ∧ H2 a = some (MixD hf a xs) ∧ EvX K H2 xs ∧ KeyV K H2 k y ∧ valX xs k = some v ∧ Q v H2
def tDNewX (hf : Key → Int) : TE := fun _ H Q => ∀ p, H p = none → Q (.ref p) (upd H p (MixD hf p []))
/-- d.setdefault(y, z) -/
def tDSetdX (K : PySem.W.Frag) (hf : Key → Int) (td ty tx : TE) : TE := fun σ H Q => td σ H fun x H1 => ∃ a xs0, x = .ref a ∧ H1 a = some (MixD hf a xs0) ∧ ty σ H1 fun y H2 => tx σ H2 fun z H3 => ∃ (xs : List (XK × V)) (x : XK),
  H3 a = some (MixD hf a xs) ∧ EvX K H3 xs ∧ y = kvX x ∧ KeyV K H3 (keyX x) y ∧ xs.length < sizeLine ∧ (∀ v, valX xs (keyX x) = some v → Q v H3) ∧ (valX xs (keyX x) = none → Q z (upd H3 a (MixD hf a (xs ++ [(x, z)]))))
section
variable {X : Cx} {o i e f : Expr} {td ty tx : TE} {pos apos cpos : Pos} {hf : Key → Int}
theorem pe_dnewX : PE X (.Dict [] [] pos) (tDNewX hf) := ⟨fun pins s σ H Q I q =>
  wpAny_Dict_empty ⟨.ref s.heap.objs.size, _, I.laid (a := s.heap.objs.size) (o := MixD hf s.heap.objs.size []) (t' := s.toks) (fun _ _ z => Heap.get?_push_of_some _ z) (Nat.le_refl _)
    (mix_new ⟨beq_eq_false_iff_ne.mpr (Ne.symm (Nat.ne_of_lt I.big)), Nat.zero_le _, _, #[], 0, [], Heap.get?_push_size _ rfl, ⟨rfl, rfl, rfl⟩, rfl, rfl, .nil, List.nodup_nil⟩), rfl, q _ (I.hok.fresh (Nat.le_refl _))⟩⟩
theorem pc_dinX (hh : hf = keyH X.w) (hu : X.A.units + 1 < cLine) (hi : PE X i ty) (ho : PE X o td) : PC X .In i o (tDInX X.K hf ty td) := by
  subst hh
  refine ⟨fun pins s σ H Q I h => ?_⟩
  refine thn (hi.run pins s σ H _ I h) fun iv s1 ⟨y, H1, I1, ry, q1⟩ => thn (ho.run pins s1 σ H1 _ I1 q1) fun u s2 ⟨x, H2, I2, rx, q2⟩ => ?_
  obtain ⟨a, rfl, q2⟩ := q2
  obtain rfl : u = Value.ref a := rx
  rcases q2 with ⟨ov, g, q2⟩ | ⟨kvs, ks, kv, rd, allI, q2⟩ | ⟨kvs, b, ey, rd, allI, q2⟩ | ⟨xs, k, e, ev, kv, q2⟩
  · exact d_in hu I2 g ry fun s3 I3 => ⟨.bl ov.isSome, H2, I3, rfl, q2⟩
  · obtain ⟨nm, rows, m, no, _⟩ := dk_dict I2 rd allI
    refine in_m (k := .inr ks) hu (keyIn_of I2 kv ry) nm m ?_
    rw [no]
    exact ⟨.bl false, H2, I2.tok _, rfl, q2⟩
  · obtain ⟨nm, rows, m, _, an⟩ := dk_dict I2 rd allI
    subst ey
    obtain rfl : iv = Value.bool b := ry
    refine in_m (k := .inl (PpSet.b2 b)) hu (.bool b) nm m ?_
    rw [an]
    exact ⟨.bl _, H2, I2.tok _, rfl, q2⟩
  · obtain ⟨nm, _, rows, r, m⟩ := mix_dict I2 e ev
    refine in_m hu (keyIn_of I2 kv ry) nm m ?_
    rw [← (rows_val r k).isSome_eq]
    exact ⟨.bl (valX xs k).isSome, H2, I2.tok _, rfl, q2⟩
theorem pe_dgetX (hh : hf = keyH X.w) (hu : X.A.units + 1 < cLine) (ho : PE X o td) (hi : PE X i ty) (hs : NoSl i) : PE X (.Subscript o i pos) (tDGetX X.K hf td ty) := by
  subst hh
  refine ⟨fun pins s σ H Q I h => ?_⟩
  refine subD_of PySem.F.slot_dict_getitem.lookup hs (thn (ho.run pins s σ H _ I h) fun u s1 ⟨x, H1, I1, rx, q1⟩ => thn (hi.run pins s1 σ H1 _ I1 q1) fun iv s2 ⟨y, H2, I2, ry, a, xs, k, v, ex, e, ev, kv, hv, q2⟩ => ?_)
  subst ex
  obtain rfl : u = Value.ref a := rx
  obtain ⟨_, _, rows, r, m⟩ := mix_dict I2 e ev
  have rv := rows_val r k
  rw [hv] at rv
  obtain ⟨w', hw, rw'⟩ := RelO.some_of (v := v) (o := valM rows k) rv
  exact ⟨m.typ, item_m hu (keyIn_of I2 kv ry) m hw ⟨v, H2, I2.tok _, rw', q2⟩⟩
theorem pe_dsetdX (hh : hf = keyH X.w) (hu : X.A.units + 1 < cLine) (ho : PE X o td) (he : PE X e ty) (hx : PE X f tx) (m : M2 X o "setdefault" apos e f cpos) : PE X (.Call (.Attribute o "setdefault" apos) [e, f] [] cpos) (tDSetdX X.K hf td ty tx) := by
  subst hh
  refine ⟨fun pins s σ H Q I h => ?_⟩
  refine wpAny_Call_method m.base m.few m.line PySem.F.plainAttrs_dict PySem.F.slot_dict_setdefault PySem.F.type_dict_setdefault (thn (ho.run pins s σ H _ I h) fun u s1 ⟨x, H1, I1, rx, a, xs0, ex, e0, q1⟩ => ?_)
  subst ex
  obtain rfl : u = Value.ref a := rx
  obtain ⟨_, _, ob, _, _, _, g, c, _⟩ := mix_get I1 e0
  refine ⟨⟨ob, g, c.1⟩, fun b z => ?_, ?_⟩
  · cases z
    exact ⟨ob, g, c.2.1⟩
  rw [m.trees]
  refine Calls.callWith_builtin rfl (Calls.evalArgs_plain (Calls.spliced_cons (thn (he.run pins s1 σ H1 _ I1 q1) fun iv s2 ⟨y, H2, I2, ry, q2⟩ =>
    Calls.spliced_cons (thn (hx.run pins s2 σ H2 _ I2 q2) fun fv s3 ⟨z, H3, I3, rz, xs, x, e, ev, ey, kv, hl, q3, q4⟩ => Calls.spliced_nil ?_))))
  subst ey
  obtain ⟨nm, hz, rows, r, dm⟩ := mix_dict I3 e ev
  have hl' := Paired.length r
  refine call_setd_m hu (keyIn_of I3 kv ry) nm dm (by omega) (fun p hp => ?_) (fun hn h' dm' hs => ?_)
  · have rv := rows_val r (keyX x)
    rw [hp] at rv
    cases hv : valX xs (keyX x) with
    | none => rw [hv] at rv; exact (show False from rv).elim
    | some v =>
      rw [hv] at rv
      exact ⟨v, H3, I3.tok _, rv, q3 v hv⟩
  · have rv := rows_val r (keyX x)
    rw [hn] at rv
    cases hv : valX xs (keyX x) with
    | some v => rw [hv] at rv; exact (show False from rv).elim
    | none =>
      have he' : ∃ q, h'.get? a = some q := let ⟨q, _, _, hq, _⟩ := dm'; ⟨q, hq⟩
      obtain ⟨o', es', ep', g', c', d', q', _, nd'⟩ := dm'
      have mo : MixObj (keyH X.w) a (xs ++ [(x, z)]) h' := ⟨nm, by rw [List.length_append, List.length_cons, List.length_nil]; omega, o', es', ep', _, g', c', d', q', Paired.snoc r ⟨rfl, ry, rz⟩, nd'⟩
      exact ⟨z, _, d_write I3 (by rw [e]; exact True.intro) hs he' (mix_new mo), rz, q4 hv⟩
end
end MX
namespace Mr
open PySem PySem.Spec PyProof.Rows L2
inductive D where
  | non | bl (b : Bool) | int (i : Int) | str (x : Str)
  | lst (xs : List D) | tup (xs : List D)
  | ref (a : Addr) | ty (n : String)
  | ins (C : Addr) (fs : List (Str × D))
  | dct (kvs : List (Key × D))
  | obj (n : Nat)
/-- what is known for good of an address: what stands there and never changes; or that it is the n-th thing of the store -/
inductive GO where
  | fro (o : HO) | mk (n : Nat) | mkf (n : Nat) (o : HO)
abbrev Gh := Addr → Option GO
/-- a is the n-th thing of the store -/
def Mkk (G : Gh) (a : Addr) (n : Nat) : Prop := G a = some (.mk n) ∨ ∃ o, G a = some (.mkf n o)
/-- what never changes -/
def fr (G : Gh) : Hp := fun a => match G a with
  | some (.fro o) => some o
  | _ => none
/-- a tuple that stands in the heap, or (written in the text, perhaps) one with a thing that is no int -/
def SqC (K : PySem.W.Frag) (H : Hp) (a : Addr) (xs : List V) : Prop := H a = some (.tup xs) ∨ SqT K H a xs ∧ ∃ x ∈ xs, ∀ i, x ≠ V.int i
theorem SqC.sq {K : PySem.W.Frag} {H : Hp} {a : Addr} {xs : List V} (h : SqC K H a xs) : SqT K H a xs := h.elim (fun e => .inl (.inl e)) (·.1)
mutual
inductive Rep (K : PySem.W.Frag) (G : Gh) : V → D → Prop
  | non : Rep K G .non .non
  | bl (b : Bool) : Rep K G (.bl b) (.bl b)
  | int (i : Int) : Rep K G (.int i) (.int i)
  | str (x : Str) : Rep K G (.str x) (.str x)
  | lst {a : Addr} {vs : List V} {ds : List D} : SqL K (fr G) a vs → Reps K G vs ds → Rep K G (.ref a) (.lst ds)
  | tup {a : Addr} {vs : List V} {ds : List D} : SqC K (fr G) a vs → Reps K G vs ds → Rep K G (.ref a) (.tup ds)
  | ref (a : Addr) : Rep K G (.ref a) (.ref a)
  | ty (n : String) : Rep K G (.ty n) (.ty n)
  | ins {a C dx : Addr} {fs : List (Str × V)} {ds : List (Str × D)} : G a = some (.fro (.ins C dx fs)) → RepF K G fs ds → Rep K G (.ref a) (.ins C ds)
  | dct {a : Addr} {od : Obj} {kvs : List (Key × V)} {ds : List (Key × D)} : G a = some (.fro (.frz od (.dK kvs))) → RepK K G kvs ds → Rep K G (.ref a) (.dct ds)
  | obj {a : Addr} {n : Nat} : Mkk G a n → Rep K G (.ref a) (.obj n)
inductive Reps (K : PySem.W.Frag) (G : Gh) : List V → List D → Prop
  | nil : Reps K G [] []
  | cons {v : V} {d : D} {vs : List V} {ds : List D} : Rep K G v d → Reps K G vs ds → Reps K G (v :: vs) (d :: ds)
inductive RepF (K : PySem.W.Frag) (G : Gh) : List (Str × V) → List (Str × D) → Prop
  | nil : RepF K G [] []
  | cons {f : Str} {v : V} {d : D} {vs : List (Str × V)} {ds : List (Str × D)} : Rep K G v d → RepF K G vs ds → RepF K G ((f, v) :: vs) ((f, d) :: ds)
inductive RepK (K : PySem.W.Frag) (G : Gh) : List (Key × V) → List (Key × D) → Prop
  | nil : RepK K G [] []
  | cons {f : Key} {v : V} {d : D} {vs : List (Key × V)} {ds : List (Key × D)} : Rep K G v d → RepK K G vs ds → RepK K G ((f, v) :: vs) ((f, d) :: ds)
end
theorem sq_t {K : PySem.W.Frag} {H H' : Hp} {a : Addr} {xs : List V} (e : Same H H') (h : SqT K H a xs) : SqT K H' a xs := by
  rcases h with (h | ⟨o, h⟩) | h
  · exact .inl (.inl (e _ _ h))
  · exact .inl (.inr ⟨o, e _ _ h⟩)
  · exact .inr h
/-- what is known of b stays so; a thing of the store may be locked meanwhile -/
def Le (G : Gh) (b : Addr) : GO → Prop
  | .fro o => G b = some (.fro o)
  | .mk n => Mkk G b n
  | .mkf n o => G b = some (.mkf n o)
theorem Le.of {G : Gh} {b : Addr} {g : GO} (h : G b = some g) : Le G b g := by
  cases g with
  | fro o => exact h
  | mk n => exact .inl h
  | mkf n o => exact h
theorem Le.some {G : Gh} {b : Addr} {g : GO} (h : Le G b g) : ∃ g', G b = some g' := by
  cases g with
  | fro o => exact ⟨_, h⟩
  | mk n => rcases h with h | ⟨o, h⟩ <;> exact ⟨_, h⟩
  | mkf n o => exact ⟨_, h⟩
/-- more is known -/
def Sm (G G' : Gh) : Prop := ∀ b o, G b = some o → Le G' b o
theorem Sm.refl (G : Gh) : Sm G G := fun _ _ h => .of h
theorem Sm.trans {G G1 G2 : Gh} (a : Sm G G1) (b : Sm G1 G2) : Sm G G2 := fun c o h => by
  have q := a c o h
  cases o with
  | fro o => exact b c _ q
  | mk n => exact q.elim (fun q => b c _ q) (fun ⟨o, q⟩ => .inr ⟨o, b c _ q⟩)
  | mkf n o => exact b c _ q
theorem Sm.free {G G' : Gh} (e : Sm G G') {l : Addr} (h : G' l = none) : G l = none := by
  cases q : G l with
  | none => rfl
  | some o => obtain ⟨g, z⟩ := (e l o q).some; rw [z] at h; cases h
/-- the same, nothing is locked meanwhile -/
def Sx (G G' : Gh) : Prop := ∀ b o, G b = some o → G' b = some o
theorem Sx.m {G G' : Gh} (e : Sx G G') : Sm G G' := fun b o h => .of (e b o h)
theorem Sx.refl (G : Gh) : Sx G G := fun _ _ h => h
theorem Sx.trans {G G1 G2 : Gh} (a : Sx G G1) (b : Sx G1 G2) : Sx G G2 := fun c o h => b c o (a c o h)
theorem fr_some {G : Gh} {a : Addr} {o : HO} : fr G a = some o ↔ G a = some (.fro o) := by
  unfold fr
  split
  · rename_i u e; rw [e]; simp
  · rename_i n
    constructor
    · intro h; cases h
    · intro h; exact absurd h (n _)
theorem Sm.fr {G G' : Gh} (e : Sm G G') : Same (fr G) (fr G') := fun b o h => fr_some.mpr (e b _ (fr_some.mp h))
theorem Sm.seq {K : PySem.W.Frag} {G G' : Gh} {a : Addr} {xs : List V} (e : Sm G G') (h : SqL K (Mr.fr G) a xs) : SqL K (Mr.fr G') a xs := e.fr.seq h
theorem Sm.seqT {K : PySem.W.Frag} {G G' : Gh} {a : Addr} {xs : List V} (e : Sm G G') (h : SqT K (Mr.fr G) a xs) : SqT K (Mr.fr G') a xs := sq_t e.fr h
theorem Sm.seqC {K : PySem.W.Frag} {G G' : Gh} {a : Addr} {xs : List V} (e : Sm G G') (h : SqC K (Mr.fr G) a xs) : SqC K (Mr.fr G') a xs := h.elim (fun h => .inl (e.fr _ _ h)) (fun h => .inr ⟨e.seqT h.1, h.2⟩)
/-- what a thing of the store may be -/
def isSt : HO → Bool
  | .lst _ => true
  | .dK _ => true
  | .dT _ => true
  | .ins _ _ _ => true
  | .frz _ _ => true
  | .ext _ => true
  | _ => false
def Sh1 (H : Hp) (b : Addr) : GO → Prop
  | .fro o => H b = some o
  | .mk _ => ∃ o, H b = some o ∧ isSt o = true
  | .mkf _ o => H b = some o ∧ isSt o = true
theorem Sh1.mono {H H' : Hp} {b : Addr} {g : GO} (h : ∀ o, H b = some o → H' b = some o) (q : Sh1 H b g) : Sh1 H' b g := by
  cases g with
  | fro o => exact h _ q
  | mk n => obtain ⟨o, h1, h2⟩ := q; exact ⟨o, h o h1, h2⟩
  | mkf n o => exact ⟨h _ q.1, q.2⟩
theorem Sh1.cong {H H' : Hp} {b : Addr} {g : GO} (h : H' b = H b) (q : Sh1 H b g) : Sh1 H' b g := q.mono fun o e => by rw [h]; exact e
theorem Sh1.of {H : Hp} {b : Addr} {o : HO} (h : H b = some o) : Sh1 H b (.fro o) := h
theorem Sh1.some {H : Hp} {b : Addr} {g : GO} (q : Sh1 H b g) : H b ≠ none := by
  cases g with
  | fro o => (have q : H b = _ := q); rw [q]; simp
  | mk n => obtain ⟨o, h1, h2⟩ := q; rw [h1]; simp
  | mkf n o => (have q1 : H b = _ := q.1); rw [q1]; simp
/-- what is known is so -/
def Sh (G : Gh) (H : Hp) : Prop := ∀ b g, G b = some g → Sh1 H b g
theorem Sh.seq {K : PySem.W.Frag} {G : Gh} {H : Hp} {a : Addr} {xs : List V} (e : Sh G H) (h : SqL K (Mr.fr G) a xs) : SqL K H a xs := by
  rcases h with (h | ⟨o, h⟩) | h
  · exact .inl (.inl (e _ _ (fr_some.mp h)))
  · exact .inl (.inr ⟨o, e _ _ (fr_some.mp h)⟩)
  · exact .inr h
theorem Sh.seqT0 {K : PySem.W.Frag} {G : Gh} {H : Hp} {a : Addr} {xs : List V} (e : Sh G H) (h : SqT K (Mr.fr G) a xs) : SqT K H a xs := by
  rcases h with (h | ⟨o, h⟩) | h
  · exact .inl (.inl (e _ _ (fr_some.mp h)))
  · exact .inl (.inr ⟨o, e _ _ (fr_some.mp h)⟩)
  · exact .inr h
theorem Sh.seqC {K : PySem.W.Frag} {G : Gh} {H : Hp} {a : Addr} {xs : List V} (e : Sh G H) (h : SqC K (Mr.fr G) a xs) : SqC K H a xs := h.elim (fun h => .inl (e _ _ (fr_some.mp h))) (fun h => .inr ⟨e.seqT0 h.1, h.2⟩)
theorem Sh.seqT {K : PySem.W.Frag} {G : Gh} {H : Hp} {a : Addr} {xs : List V} (e : Sh G H) (h : SqC K (Mr.fr G) a xs) : SqT K H a xs := (e.seqC h).sq
theorem Sh.some {G : Gh} {H : Hp} (e : Sh G H) {b : Addr} {g : GO} (h : G b = some g) : H b ≠ none := (e b g h).some
theorem Sh.free {G : Gh} {H : Hp} (e : Sh G H) {l : Addr} (h : H l = none) : G l = none := by
  cases q : G l with
  | none => rfl
  | some o => exact absurd h (e.some q)
theorem Sm.sh {G G1 : Gh} {H : Hp} (a : Sm G G1) (b : Sh G1 H) : Sh G H := fun c o h => by
  have q := a c o h
  cases o with
  | fro o => exact b c _ q
  | mk n => exact q.elim (fun q => b c _ q) (fun ⟨o, q⟩ => ⟨o, b c _ q⟩)
  | mkf n o => exact b c _ q
def up (G : Gh) (a : Addr) (o : HO) : Gh := fun b => if b = a then some (.fro o) else G b
theorem up_same {G : Gh} {a : Addr} {o : HO} : up G a o a = some (.fro o) := by unfold up; rw [if_pos rfl]
theorem up_ne {G : Gh} {a b : Addr} {o : HO} (h : b ≠ a) : up G a o b = G b := by unfold up; rw [if_neg h]
theorem mk_up {G : Gh} {a b : Addr} {n : Nat} {o : HO} (h : Mkk (up G a o) b n) : Mkk G b n := by
  by_cases hb : b = a
  · subst hb
    rcases h with h | ⟨u, h⟩ <;> (rw [up_same] at h; cases h)
  · rcases h with h | ⟨u, h⟩
    · rw [up_ne hb] at h; exact .inl h
    · rw [up_ne hb] at h; exact .inr ⟨u, h⟩
theorem gne_of_none {G : Gh} {a b : Addr} {o : GO} (h : G a = some o) (h' : G b = none) : a ≠ b := by
  intro e; subst e; rw [h] at h'; cases h'
theorem sqL_new {K : PySem.W.Frag} {G : Gh} {p : Addr} {xs : List V} : SqL K (fr (up G p (.lst xs))) p xs := .inl (.inl (fr_some.mpr up_same))
theorem sqT_new {K : PySem.W.Frag} {G : Gh} {p : Addr} {xs : List V} : SqC K (fr (up G p (.tup xs))) p xs := .inl (fr_some.mpr up_same)
theorem Sx.up {G : Gh} {p : Addr} {o : HO} (n : G p = none) : Sx G (up G p o) := fun b u e => by rw [up_ne (gne_of_none e n)]; exact e
theorem Sm.up {G : Gh} {p : Addr} {o : HO} (n : G p = none) : Sm G (Mr.up G p o) := (Sx.up n).m
section
variable {K : PySem.W.Frag} {G G' : Gh}
mutual
theorem Rep.mono (e : Sm G G') : ∀ {v : V} {d : D}, Rep K G v d → Rep K G' v d
  | _, _, .non => .non
  | _, _, .bl b => .bl b
  | _, _, .int i => .int i
  | _, _, .str x => .str x
  | _, _, .lst h r => .lst (e.seq h) (Reps.mono e r)
  | _, _, .tup h r => .tup (e.seqC h) (Reps.mono e r)
  | _, _, .ref a => .ref a
  | _, _, .ty n => .ty n
  | _, _, .ins h r => .ins (e _ _ h) (RepF.mono e r)
  | _, _, .dct h r => .dct (e _ _ h) (RepK.mono e r)
  | _, _, .obj h => .obj (h.elim (fun h => e _ _ h) (fun ⟨o, h⟩ => .inr ⟨o, e _ _ h⟩))
theorem Reps.mono (e : Sm G G') : ∀ {v : List V} {d : List D}, Reps K G v d → Reps K G' v d
  | _, _, .nil => .nil
  | _, _, .cons h r => .cons (Rep.mono e h) (Reps.mono e r)
theorem RepF.mono (e : Sm G G') : ∀ {v : List (Str × V)} {d : List (Str × D)}, RepF K G v d → RepF K G' v d
  | _, _, .nil => .nil
  | _, _, .cons h r => .cons (Rep.mono e h) (RepF.mono e r)
theorem RepK.mono (e : Sm G G') : ∀ {v : List (Key × V)} {d : List (Key × D)}, RepK K G v d → RepK K G' v d
  | _, _, .nil => .nil
  | _, _, .cons h r => .cons (Rep.mono e h) (RepK.mono e r)
end
theorem Reps.length : ∀ {v : List V} {d : List D}, Reps K G v d → v.length = d.length
  | _, _, .nil => rfl
  | _, _, .cons _ r => by rw [List.length_cons, List.length_cons, r.length]
theorem Reps.get : ∀ {vs : List V} {ds : List D} {i : Nat} {v : V}, Reps K G vs ds → vs[i]? = some v → ∃ d, ds[i]? = some d ∧ Rep K G v d
  | _, _, i, v, .nil, h => by simp at h
  | _, _, 0, v, .cons h r, e => by simp at e; subst e; exact ⟨_, rfl, h⟩
  | _, _, i + 1, v, .cons h r, e => by
    obtain ⟨d, h1, h2⟩ := Reps.get (i := i) r (by simpa using e)
    exact ⟨d, by simpa using h1, h2⟩
theorem Reps.get' : ∀ {vs : List V} {ds : List D} {i : Nat} {d : D}, Reps K G vs ds → ds[i]? = some d → ∃ v, vs[i]? = some v ∧ Rep K G v d
  | _, _, i, v, .nil, h => by simp at h
  | _, _, 0, v, .cons h r, e => by simp at e; subst e; exact ⟨_, rfl, h⟩
  | _, _, i + 1, v, .cons h r, e => by
    obtain ⟨d, h1, h2⟩ := Reps.get' (i := i) r (by simpa using e)
    exact ⟨d, by simpa using h1, h2⟩
theorem Reps.append : ∀ {vs ws : List V} {ds es : List D}, Reps K G vs ds → Reps K G ws es → Reps K G (vs ++ ws) (ds ++ es)
  | _, _, _, _, .nil, r => r
  | _, _, _, _, .cons h r, q => .cons h (r.append q)
theorem Reps.take : ∀ {vs : List V} {ds : List D} (n : Nat), Reps K G vs ds → Reps K G (vs.take n) (ds.take n)
  | _, _, 0, _ => .nil
  | _, _, _ + 1, .nil => .nil
  | _, _, n + 1, .cons h r => .cons h (Reps.take n r)
theorem Reps.drop : ∀ {vs : List V} {ds : List D} (n : Nat), Reps K G vs ds → Reps K G (vs.drop n) (ds.drop n)
  | _, _, 0, r => r
  | _, _, _ + 1, .nil => .nil
  | _, _, n + 1, .cons h r => Reps.drop n r
theorem Reps.set {v : V} {d : D} (h : Rep K G v d) : ∀ {vs : List V} {ds : List D} (n : Nat), Reps K G vs ds → Reps K G (vs.set n v) (ds.set n d)
  | _, _, _, .nil => .nil
  | _, _, 0, .cons _ r => .cons h r
  | _, _, n + 1, .cons q r => .cons q (Reps.set h n r)
theorem Reps.eraseIdx : ∀ {vs : List V} {ds : List D} (n : Nat), Reps K G vs ds → Reps K G (vs.eraseIdx n) (ds.eraseIdx n)
  | _, _, _, .nil => .nil
  | _, _, 0, .cons _ r => r
  | _, _, n + 1, .cons q r => .cons q (Reps.eraseIdx n r)
theorem Reps.reverse {vs : List V} {ds : List D} (r : Reps K G vs ds) : Reps K G vs.reverse ds.reverse := by
  induction vs generalizing ds with
  | nil => cases r; exact .nil
  | cons v vs ih =>
    cases r with
    | cons h r =>
      rw [List.reverse_cons, List.reverse_cons]
      exact (ih r).append (.cons h .nil)
theorem Reps.ints : ∀ (ns : List Int), Reps K G (ns.map V.int) (ns.map D.int)
  | [] => .nil
  | n :: ns => .cons (.int n) (Reps.ints ns)
theorem Reps.of_ints : ∀ {vs : List V} {ns : List Int}, Reps K G vs (ns.map D.int) → vs = ns.map V.int
  | _, [], r => by cases r; rfl
  | _, n :: ns, r => by
    rw [List.map_cons] at r
    cases r with
    | cons h r =>
      cases h
      rw [Reps.of_ints r]
      rfl
end
/-- a dict whose keys are tuples -/
inductive RepT (K : PySem.W.Frag) (G : Gh) : List (List Key × V) → List (List Key × D) → Prop
  | nil : RepT K G [] []
  | cons {f : List Key} {v : V} {d : D} {vs : List (List Key × V)} {ds : List (List Key × D)} : Rep K G v d → RepT K G vs ds → RepT K G ((f, v) :: vs) ((f, d) :: ds)
theorem RepT.mono {K : PySem.W.Frag} {G G' : Gh} (e : Sm G G') : ∀ {v : List (List Key × V)} {d : List (List Key × D)}, RepT K G v d → RepT K G' v d
  | _, _, .nil => .nil
  | _, _, .cons h r => .cons (h.mono e) (RepT.mono e r)
/-- a dict whose keys are mixed: ints, tuples -/
def KeyC (K : PySem.W.Frag) (G : Gh) : MX.XK → Prop
  | .inl _ => True
  | .inr p => SqC K (fr G) p.2 (p.1.map kV)
inductive RepX (K : PySem.W.Frag) (G : Gh) : List (MX.XK × V) → List (MX.MK × D) → Prop
  | nil : RepX K G [] []
  | cons {x : MX.XK} {v : V} {d : D} {vs : List (MX.XK × V)} {ds : List (MX.MK × D)} : KeyC K G x → Rep K G v d → RepX K G vs ds → RepX K G ((x, v) :: vs) ((MX.keyX x, d) :: ds)
theorem KeyC.mono {K : PySem.W.Frag} {G G' : Gh} (e : Sm G G') {x : MX.XK} (h : KeyC K G x) : KeyC K G' x := by
  cases x with
  | inl i => trivial
  | inr p => exact e.seqC h
theorem RepX.mono {K : PySem.W.Frag} {G G' : Gh} (e : Sm G G') : ∀ {v : List (MX.XK × V)} {d : List (MX.MK × D)}, RepX K G v d → RepX K G' v d
  | _, _, .nil => .nil
  | _, _, .cons k h r => .cons (k.mono e) (h.mono e) (RepX.mono e r)
/-- a thing of the store: a list, a dict, an instance -/
inductive Ob where
  | lst (xs : List D) | dct (kvs : List (Key × D)) | dlk (kvs : List (Key × D)) | ins (C : Addr) (fs : List (Str × D)) | dcT (kvs : List (List Key × D)) | dcX (hf : Key → Int) (kvs : List (MX.MK × D))
def ObOk (K : PySem.W.Frag) (G : Gh) (H : Hp) (a : Addr) : Ob → Prop
  | .lst xs => ∃ vs, H a = some (.lst vs) ∧ Reps K G vs xs
  | .dct xs => ∃ vs, H a = some (.dK vs) ∧ RepK K G vs xs
  | .dlk xs => ∃ od vs, H a = some (.frz od (.dK vs)) ∧ RepK K G vs xs
  | .ins C xs => ∃ dx vs, H a = some (.ins C dx vs) ∧ RepF K G vs xs
  | .dcT xs => ∃ vs, H a = some (.dT vs) ∧ RepT K G vs xs
  | .dcX hf xs => ∃ vs, H a = some (MX.MixD hf a vs) ∧ RepX K G vs xs
/-- the store stands in the heap -/
def Mkd (G : Gh) (a : Addr) (n : Nat) : Ob → Prop
  | .dlk _ => ∃ u, G a = some (.mkf n u)
  | _ => G a = some (.mk n)
theorem Mkd.mk {G : Gh} {a : Addr} {n : Nat} {o : Ob} (h : Mkd G a n o) : Mkk G a n := by
  cases o with
  | dlk kvs => exact .inr h
  | _ => exact .inl h
theorem Mkk.mono {G G' : Gh} {a : Addr} {n : Nat} (e : Sm G G') (h : Mkk G a n) : Mkk G' a n := h.elim (fun h => e _ _ h) (fun ⟨o, h⟩ => .inr ⟨o, e _ _ h⟩)
theorem Mkd.mono {G G' : Gh} {a : Addr} {n : Nat} {o : Ob} (e : Sx G G') (h : Mkd G a n o) : Mkd G' a n o := by
  cases o with
  | dlk kvs => obtain ⟨u, h⟩ := h; exact ⟨u, e _ _ h⟩
  | _ => exact e _ _ h
theorem Mkk.none {G : Gh} {a : Addr} {n : Nat} (h : Mkk G a n) : G a ≠ none := by
  rcases h with h | ⟨o, h⟩ <;> (rw [h]; simp)
structure StOk (K : PySem.W.Frag) (G : Gh) (H : Hp) (st : List Ob) : Prop where
  at_ : ∀ n o, st[n]? = some o → ∃ a, Mkd G a n o ∧ ObOk K G H a o
  lt : ∀ a n, Mkk G a n → n < st.length
  inj : ∀ a b n, Mkk G a n → Mkk G b n → a = b
/-- from the heaps G (what never changes any more) in H to G' in H' -/
structure Tr (W : Addr → Prop) (G : Gh) (H : Hp) (G' : Gh) (H' : Hp) : Prop where
  gg : Sm G G'
  gh : Sh G' H'
  gr : ∀ b, G' b ≠ none → G b ≠ none ∨ H b = none
  kp : ∀ b o, ¬ W b → (∀ n, G b ≠ some (.mk n)) → H b = some o → H' b = some o
  dm : ∀ b, H' b = none → H b = none
  fz : ∀ b o u, H b = some (.frz o u) → H' b = some (.frz o u)
/-- the same, and no thing of the store is new or changed -/
structure Tr0 (G : Gh) (H : Hp) (G' : Gh) (H' : Hp) : Prop where
  gx : Sx G G'
  gh : Sh G' H'
  gr : ∀ b, G' b ≠ none → G b ≠ none ∨ H b = none
  kp : ∀ b o, H b = some o → H' b = some o
  dm : ∀ b, H' b = none → H b = none
  nm : ∀ b n, Mkk G' b n → Mkk G b n
theorem Tr0.gg {G G' : Gh} {H H' : Hp} (t : Tr0 G H G' H') : Sm G G' := t.gx.m
structure Wo where
  S : Type
  W : Addr → Prop
  ok : PySem.W.Frag → S → Gh → Hp → Prop
  /-- the exception in hand in an except suite: itself, its dict, its class -/
  ec : Addr → Option Addr → Addr → Prop
  /-- which instances a slot may own -/
  sf : Addr → Prop
  /-- the store -/
  st : S → List Ob
  wi : S → List Ob → S
  loc : ∀ K s G H G' H', Sx G G' → (∀ b n, Mkk G' b n → Mkk G b n) → (∀ a, W a ∨ (∃ n, Mkk G a n) → H' a = H a) → ok K s G H → ok K s G' H'
  dom : ∀ K s G H a, ok K s G H → W a → H a ≠ none
  sto : ∀ K s G H, ok K s G H → StOk K G H (st s)
  stu : ∀ K s G H G' H' l, ok K s G H → (∀ a, W a → H' a = H a) → StOk K G' H' l → ok K (wi s l) G' H'
theorem Tr.refl {W : Addr → Prop} {G : Gh} {H : Hp} (h : Sh G H) : Tr W G H G H := ⟨Sm.refl _, h, fun _ e => .inl e, fun _ _ _ _ e => e, fun _ e => e, fun _ _ _ e => e⟩
theorem Tr.mkb {W : Addr → Prop} {G G1 : Gh} {H H1 : Hp} (a : Tr W G H G1 H1) {b : Addr} {o : HO} {k : Nat} (e : H b = some o) (z : G1 b = some (.mk k)) : G b = some (.mk k) := by
  rcases a.gr b (by rw [z]; simp) with q | q
  · cases g : G b with
    | none => exact absurd g q
    | some g0 =>
      have le := a.gg b g0 g
      cases g0 with
      | fro o => (have le : G1 b = _ := le); rw [z] at le; cases le
      | mk n =>
        rcases le with le | ⟨u, le⟩
        · rw [z] at le; cases le; rfl
        · rw [z] at le; cases le
      | mkf n o => (have le : G1 b = _ := le); rw [z] at le; cases le
  · rw [q] at e; cases e
theorem Tr.trans {W : Addr → Prop} {G G1 G2 : Gh} {H H1 H2 : Hp} (a : Tr W G H G1 H1) (b : Tr W G1 H1 G2 H2) : Tr W G H G2 H2 :=
  ⟨a.gg.trans b.gg, b.gh, fun c e => (b.gr c e).elim (fun z => a.gr c z) (fun z => .inr (a.dm c z)), fun c o n m e => b.kp c o n (fun k z => m k (a.mkb e z)) (a.kp c o n m e), fun c e => a.dm c (b.dm c e), fun c o u e => b.fz c o u (a.fz c o u e)⟩
theorem Tr0.up {W : Addr → Prop} {G G1 : Gh} {H H1 : Hp} (a : Tr0 G H G1 H1) : Tr W G H G1 H1 := ⟨a.gg, a.gh, a.gr, fun c o _ _ e => a.kp c o e, a.dm, fun c o u e => a.kp c _ e⟩
theorem Tr0.refl {G : Gh} {H : Hp} (h : Sh G H) : Tr0 G H G H := ⟨Sx.refl _, h, fun _ e => .inl e, fun _ _ e => e, fun _ e => e, fun _ _ e => e⟩
theorem Tr0.trans {G G1 G2 : Gh} {H H1 H2 : Hp} (a : Tr0 G H G1 H1) (b : Tr0 G1 H1 G2 H2) : Tr0 G H G2 H2 :=
  ⟨a.gx.trans b.gx, b.gh, fun c e => (b.gr c e).elim (fun z => a.gr c z) (fun z => .inr (a.dm c z)), fun c o e => b.kp c o (a.kp c o e), fun c e => a.dm c (b.dm c e), fun c n e => a.nm c n (b.nm c n e)⟩
/-- a new object that never changes -/
theorem Tr0.new {G : Gh} {H : Hp} {p : Addr} {o : HO} (h : Sh G H) (n : H p = none) : Tr0 G H (Mr.up G p o) (upd H p o) := by
  have ng : G p = none := h.free n
  refine ⟨Sx.up ng, fun b u e => ?_, fun b e => ?_, fun b u e => by rw [upd_ne (ne_of_none e n)]; exact e, fun b e => ?_, fun b u e => ?_⟩
  · by_cases hb : b = p
    · subst hb; rw [up_same] at e; cases e; exact .of upd_same
    · rw [up_ne hb] at e
      exact (h b u e).cong (upd_ne hb)
  · by_cases hb : b = p
    · subst hb; exact .inr n
    · rw [up_ne hb] at e; exact .inl e
  · by_cases hb : b = p
    · subst hb; exact n
    · rw [upd_ne hb] at e; exact e
  · exact mk_up e
theorem Sh.upd {G : Gh} {H : Hp} {p : Addr} {o : HO} (h : Sh G H) (n : G p = none) : Sh G (upd H p o) := fun b u e => by
  have hb : b ≠ p := gne_of_none e n
  exact (h b u e).cong (upd_ne hb)
/-- a new object that is tracked, but not told -/
theorem Tr0.hid {G : Gh} {H : Hp} {p : Addr} {o : HO} (h : Sh G H) (n : H p = none) : Tr0 G H G (upd H p o) := by
  refine ⟨Sx.refl _, h.upd (h.free n), fun b e => .inl e, fun b u e => by rw [upd_ne (ne_of_none e n)]; exact e, fun b e => ?_, fun _ _ e => e⟩
  by_cases hb : b = p
  · subst hb; exact n
  · rw [upd_ne hb] at e; exact e
inductive Sl where
  | no | sh (d : D) | own (xs : List D) | ownD (kvs : List (Key × D)) | ownI (C : Addr) (fs : List (Str × D)) | exc (c : Addr) (fs : List (Str × D))
/-- an error's fields: in its dict, or it has none -/
def XdA (H : Hp) : Option Addr → List (Str × V) → Prop
  | none, xs => xs = []
  | some dd, xs => H dd = some (.xd xs)
def NwA (O : Wo) (d : Option Addr) : Prop := ∀ dd, d = some dd → ¬ O.W dd
theorem XdA.kp {H H' : Hp} {d : Option Addr} {xs : List (Str × V)} (h : XdA H d xs) (k : ∀ dd, d = some dd → H dd = some (.xd xs) → H' dd = some (.xd xs)) : XdA H' d xs := by
  cases d with
  | none => exact h
  | some dd => exact k dd rfl h
def SlOk (K : PySem.W.Frag) (O : Wo) (H0 : Hp) (G : Gh) (H : Hp) : Option V → Sl → Prop
  | _, .no => True
  | o, .sh d => ∃ v, o = some v ∧ Rep K G v d
  | o, .own xs => ∃ p vs, o = some (.ref p) ∧ H p = some (.lst vs) ∧ Reps K G vs xs ∧ G p = none ∧ ¬ O.W p ∧ H0 p = none
  | o, .ownD xs => ∃ p vs, o = some (.ref p) ∧ H p = some (.dK vs) ∧ RepK K G vs xs ∧ G p = none ∧ ¬ O.W p ∧ H0 p = none
  | o, .ownI C xs => ∃ p dx vs, o = some (.ref p) ∧ H p = some (.ins C dx vs) ∧ RepF K G vs xs ∧ G p = none ∧ ¬ O.W p ∧ H0 p = none ∧ O.sf p
  | o, .exc c fs => ∃ a dd xs, o = some (.ref a) ∧ O.ec a dd c ∧ XdA H dd xs ∧ RepF K G xs fs ∧ NwA O dd
def isOwn : Sl → Bool
  | .own _ => true
  | .ownD _ => true
  | .ownI _ _ => true
  | _ => false
abbrev Ev := List Sl
/-- what holds of the slots σ and the heap H where the mirror has ρ and s -/
structure Fm (K : PySem.W.Frag) (O : Wo) (H0 : Hp) (σ : L2.St) (ρ : Ev) (G : Gh) (H : Hp) (s : O.S) : Prop where
  gh : Sh G H
  wg : ∀ a, O.W a → G a = none
  ok : O.ok K s G H
  len : σ.length = ρ.length
  sl : ∀ (i : Nat) (o : Option V) (x : Sl), σ[i]? = some o → ρ[i]? = some x → SlOk K O H0 G H o x
  ds : ∀ (i j : Nat) (p : Addr) (x y : Sl), i ≠ j → ρ[i]? = some x → ρ[j]? = some y → isOwn x = true → isOwn y = true → σ[i]? = some (some (.ref p)) → σ[j]? ≠ some (some (.ref p))
section
variable {K : PySem.W.Frag} {O : Wo} {H0 H H' : Hp} {G G' : Gh} {σ : L2.St} {ρ : Ev} {s s' : O.S}
theorem SlOk.tr {o : Option V} {x : Sl} (g : Sh G H) (t : Tr O.W G H G' H') (h : SlOk K O H0 G H o x) : SlOk K O H0 G' H' o x := by
  have ng : ∀ {p : Addr} {u : HO}, H p = some u → G p = none → G' p = none := fun {p u} a b => by
    cases e : G' p with
    | none => rfl
    | some z => rcases t.gr p (by rw [e]; simp) with q | q <;> simp_all
  have nm : ∀ {p : Addr}, G p = none → ∀ n, G p ≠ some (.mk n) := fun {p} a n => by rw [a]; simp
  cases x with
  | no => trivial
  | sh d => obtain ⟨v, a, b⟩ := h; exact ⟨v, a, b.mono t.gg⟩
  | own xs => obtain ⟨p, vs, a, b, c, d, e, f⟩ := h; exact ⟨p, vs, a, t.kp _ _ e (nm d) b, c.mono t.gg, ng b d, e, f⟩
  | ownD xs => obtain ⟨p, vs, a, b, c, d, e, f⟩ := h; exact ⟨p, vs, a, t.kp _ _ e (nm d) b, c.mono t.gg, ng b d, e, f⟩
  | ownI C xs => obtain ⟨p, dx, vs, a, b, c, d, e, f⟩ := h; exact ⟨p, dx, vs, a, t.kp _ _ e (nm d) b, c.mono t.gg, ng b d, e, f⟩
  | exc c fs =>
    obtain ⟨a, dd, xs, e, q, b, c, d⟩ := h
    refine ⟨a, dd, xs, e, q, b.kp (fun d1 ed b => t.kp _ _ (d d1 ed) (fun n z => ?_) b), c.mono t.gg, d⟩
    obtain ⟨o, h1, h2⟩ := g _ _ z
    rw [b] at h1; cases h1; cases h2
theorem Fm.tr (f : Fm K O H0 σ ρ G H s) (t : Tr O.W G H G' H') (k : O.ok K s' G' H') : Fm K O H0 σ ρ G' H' s' :=
  ⟨t.gh, fun a w => by
    cases e : G' a with
    | none => rfl
    | some z =>
      rcases t.gr a (by rw [e]; simp) with q | q
      · exact absurd (f.wg a w) q
      · exact absurd q (O.dom K s G H a f.ok w), k, f.len, fun i o x a b => (f.sl i o x a b).tr f.gh t, f.ds⟩
theorem Tr0.keepW (t : Tr0 G H G' H') (g : Sh G H) (k : O.ok K s G H) : O.ok K s G' H' := O.loc K s G H G' H' t.gx t.nm (fun a w => by
    cases e : H a with
    | none =>
      rcases w with w | ⟨n, w⟩
      · exact absurd e (O.dom K s G H a k w)
      · rcases w with w | ⟨o, w⟩ <;> exact absurd e (g.some w)
    | some u => exact t.kp a u e) k
theorem Fm.keepW (f : Fm K O H0 σ ρ G H s) (t : Tr0 G H G' H') : O.ok K s G' H' := t.keepW f.gh f.ok
theorem Fm.tr0 (f : Fm K O H0 σ ρ G H s) (t : Tr0 G H G' H') : Fm K O H0 σ ρ G' H' s := f.tr t.up (f.keepW t)
theorem Fm.get (f : Fm K O H0 σ ρ G H s) {i : Nat} {d : D} (h : ρ[i]? = some (.sh d)) : ∃ v, σ[i]? = some (some v) ∧ Rep K G v d := by
  have hi : i < σ.length := by rw [f.len]; exact (List.getElem?_eq_some_iff.mp h).1
  obtain ⟨v, e, r⟩ := f.sl i σ[i] _ (List.getElem?_eq_getElem hi) h
  exact ⟨v, by rw [List.getElem?_eq_getElem hi, e], r⟩
theorem Fm.at (f : Fm K O H0 σ ρ G H s) {i : Nat} {x : Sl} (h : ρ[i]? = some x) : ∃ o, σ[i]? = some o ∧ SlOk K O H0 G H o x := by
  have hi : i < σ.length := by rw [f.len]; exact (List.getElem?_eq_some_iff.mp h).1
  exact ⟨σ[i], List.getElem?_eq_getElem hi, f.sl i σ[i] _ (List.getElem?_eq_getElem hi) h⟩
/-- a slot is set to a thing that never changes -/
theorem Fm.set (f : Fm K O H0 σ ρ G H s) {i : Nat} {v : V} {d : D} (r : Rep K G v d) : Fm K O H0 (σ.set i (some v)) (ρ.set i (.sh d)) G H s := by
  refine ⟨f.gh, f.wg, f.ok, by simpa using f.len, fun j o x a b => ?_, fun j k p x y hjk a b c e g => ?_⟩
  · by_cases hj : i = j
    · subst hj
      have h1 := (List.getElem?_eq_some_iff.mp a).1
      have h2 := (List.getElem?_eq_some_iff.mp b).1
      rw [List.length_set] at h1 h2
      rw [List.getElem?_set_self h1] at a
      rw [List.getElem?_set_self h2] at b
      cases a; cases b
      exact ⟨v, rfl, r⟩
    · rw [List.getElem?_set_ne hj] at a b
      exact f.sl j o x a b
  · by_cases hj : i = j
    · subst hj
      have h2 := (List.getElem?_eq_some_iff.mp a).1
      rw [List.length_set] at h2
      rw [List.getElem?_set_self h2] at a
      cases a
      cases c
    · by_cases hk : i = k
      · subst hk
        have h2 := (List.getElem?_eq_some_iff.mp b).1
        rw [List.length_set] at h2
        rw [List.getElem?_set_self h2] at b
        cases b
        cases e
      · rw [List.getElem?_set_ne hj] at a g
        rw [List.getElem?_set_ne hk] at b
        rw [List.getElem?_set_ne hk]
        exact f.ds j k p x y hjk a b c e g
end
end Mr
namespace Mr
open PySem PySem.Spec PyProof.Rows L2
inductive R (S α : Type) where
  | ok (a : α) (s : S) | err (c : Addr) (fs : List (Str × D)) (s : S) | bad
def R.bind {S α β : Type} (x : R S α) (f : α → S → R S β) : R S β := match x with
  | .ok a s => f a s
  | .err c fs s => .err c fs s
  | .bad => .bad
def R.lift {S α : Type} (o : Option α) (s : S) : R S α := match o with
  | some a => .ok a s
  | none => .bad
section
variable {S α β : Type}
@[simp] theorem bind_ok (a : α) (s : S) (f : α → S → R S β) : (R.ok a s).bind f = f a s := rfl
@[simp] theorem bind_err (c : Addr) (fs : List (Str × D)) (s : S) (f : α → S → R S β) : (R.err c fs s : R S α).bind f = .err c fs s := rfl
@[simp] theorem bind_bad (f : α → S → R S β) : (R.bad : R S α).bind f = .bad := rfl
@[simp] theorem lift_some (a : α) (s : S) : R.lift (some a) s = .ok a s := rfl
@[simp] theorem lift_none (s : S) : (R.lift none s : R S α) = .bad := rfl
end
/-- what is wanted behind, of what the mirror gives -/
def Pst (K : PySem.W.Frag) (O : Wo) (Wx : WX) (σ : L2.St) (G : Gh) (H : Hp) {α β : Type} (rel : Gh → β → α → Prop) (r : R O.S α) (Q : β → Hp → Prop) : Prop :=
  match r with
  | .ok d s' => ∀ v G' H', Tr O.W G H G' H' → O.ok K s' G' H' → rel G' v d → Q v H'
  | .err c fs s' => ∀ dd xs G' H', Tr O.W G H G' H' → O.ok K s' G' H' → XdA H' dd xs → NwA O dd → RepF K G' xs fs → Wx (.ref c) dd σ H'
  | .bad => False
section
variable {K : PySem.W.Frag} {O : Wo} {Wx : WX} {σ : L2.St} {G : Gh} {H : Hp} {G1 : Gh} {H1 : Hp}
theorem Pst.shift {α β : Type} {rel : Gh → β → α → Prop} {r : R O.S α} {Q : β → Hp → Prop} (t : Tr O.W G H G1 H1) (h : Pst K O Wx σ G H rel r Q) : Pst K O Wx σ G1 H1 rel r Q := by
  cases r with
  | ok d s' => exact fun v G' H' t' k q => h v G' H' (t.trans t') k q
  | err c fs s' => exact fun dd xs G' H' t' k e n q => h dd xs G' H' (t.trans t') k e n q
  | bad => exact h
theorem pst_bind {α β α' β' : Type} {rel : Gh → β → α → Prop} {rel' : Gh → β' → α' → Prop} {r : R O.S α} {f : α → O.S → R O.S α'} {Q : β' → Hp → Prop} {Q1 : β → Hp → Prop} (h : Pst K O Wx σ G H rel' (r.bind f) Q)
    (k : ∀ a s1, r = .ok a s1 → ∀ v G1 H1, Tr O.W G H G1 H1 → O.ok K s1 G1 H1 → rel G1 v a → Pst K O Wx σ G1 H1 rel' (f a s1) Q → Q1 v H1) : Pst K O Wx σ G H rel r Q1 := by
  cases r with
  | ok d s' => exact fun v G' H' t' ko q => k d s' rfl v G' H' t' ko q (Pst.shift t' h)
  | err c fs s' => exact h
  | bad => exact h
end
abbrev ME (O : Wo) := Ev → O.S → R O.S D
abbrev MA (O : Wo) := Ev → O.S → R O.S (List D)
abbrev MT (O : Wo) := Ev → O.S → R O.S Bool
def SndE (K : PySem.W.Frag) (O : Wo) (Wx : WX) (t : TE) (m : ME O) : Prop := ∀ σ ρ H0 G H s Q, Fm K O H0 σ ρ G H s → Pst K O Wx σ G H (Rep K) (m ρ s) Q → t σ H Q
def SndA (K : PySem.W.Frag) (O : Wo) (Wx : WX) (t : TA) (m : MA O) : Prop := ∀ σ ρ H0 G H s Q, Fm K O H0 σ ρ G H s → Pst K O Wx σ G H (Reps K) (m ρ s) Q → t σ H Q
def SndT (K : PySem.W.Frag) (O : Wo) (Wx : WX) (t : TT) (m : MT O) : Prop := ∀ σ ρ H0 G H s Q, Fm K O H0 σ ρ G H s → Pst K O Wx σ G H (fun _ b c => b = c) (m ρ s) Q → t σ H Q
/-- the judgements: a piece of the text, its reading, its mirror -/
structure DE (K : PySem.W.Frag) (O : Wo) (Wx : WX) (X : Cx) (e : Expr) (t : TE) (m : ME O) : Prop where
  hK : X.K = K
  tk : Takes X Wx
  pe : PE X e t
  sn : SndE K O Wx t m
structure DA (K : PySem.W.Frag) (O : Wo) (Wx : WX) (X : Cx) (e : List Expr) (t : TA) (m : MA O) : Prop where
  hK : X.K = K
  tk : Takes X Wx
  pe : PA X e t
  sn : SndA K O Wx t m
structure DT (K : PySem.W.Frag) (O : Wo) (Wx : WX) (X : Cx) (e : Expr) (t : TT) (m : MT O) : Prop where
  hK : X.K = K
  tk : Takes X Wx
  pe : PT X e t
  sn : SndT K O Wx t m
/-- the context's facts -/
structure Cn (K : PySem.W.Frag) (Wx : WX) (X : Cx) : Prop where
  hK : X.K = K
  tk : Takes X Wx
section
variable {K : PySem.W.Frag} {O : Wo} {Wx : WX} {X : Cx}
def mVar (O : Wo) (i : Nat) : ME O := fun ρ s => match ρ[i]? with
  | some (.sh d) => .ok d s
  | _ => .bad
def mC (O : Wo) (d : D) : ME O := fun _ s => .ok d s
theorem snd_var {i : Nat} : SndE K O Wx (tVar i) (mVar O i) := by
  intro σ ρ H0 G H s Q F h
  unfold mVar at h
  split at h
  · rename_i d e
    obtain ⟨v, ev, r⟩ := F.get e
    exact ⟨v, ev, h v G H (.refl F.gh) F.ok r⟩
  · exact h.elim
theorem snd_c {v : V} {d : D} (r : ∀ G, Rep K G v d) : SndE K O Wx (tC v) (mC O d) := fun σ ρ H0 G H s Q F h => h v G H (.refl F.gh) F.ok (r G)
theorem de_var (i : Nat) {x : Str} {pos : Pos} (c : Cn K Wx X) (hN : X.N[i]? = some x := by rfl) (hv : Vis X.env.scope x := by first | exact Or.inl rfl | exact Or.inr (Or.inl rfl) | exact Or.inr (Or.inr rfl)) (hd : (x == ("__debug__" : Str)) = false := by decide)
    (hcd : (x == ("__classdict__" : Str)) = false := by decide) : DE K O Wx X (.Name x pos) (tVar i) (mVar O i) := ⟨c.hK, c.tk, pe_var hN hv hd hcd, snd_var⟩
theorem de_int {i : Int} {j : Nat} {pos : Pos} (c : Cn K Wx X) : DE K O Wx X (.Constant (.int i) j pos) (tC (.int i)) (mC O (.int i)) := ⟨c.hK, c.tk, pe_int, snd_c fun _ => .int i⟩
theorem de_bl {i : Bool} {j : Nat} {pos : Pos} (c : Cn K Wx X) : DE K O Wx X (.Constant (.bool i) j pos) (tC (.bl i)) (mC O (.bl i)) := ⟨c.hK, c.tk, pe_bl, snd_c fun _ => .bl i⟩
theorem de_str {i : Str} {j : Nat} {pos : Pos} (c : Cn K Wx X) : DE K O Wx X (.Constant (.str i) j pos) (tC (.str i)) (mC O (.str i)) := ⟨c.hK, c.tk, pe_str, snd_c fun _ => .str i⟩
/-- a module's name -/
theorem de_glob {x : Str} {u : Value} {v : V} {d : D} {pos : Pos} (c : Cn K Wx X) (hm : X.mg x = some u) (r : RelV v u) (q : ∀ G, Rep K G v d) (hg : Gl X x := by rfl) (hdb : (x == ("__debug__" : Str)) = false := by decide) :
    DE K O Wx X (.Name x pos) (tC v) (mC O d) := ⟨c.hK, c.tk, pe_glob hg hm r hdb, snd_c q⟩
theorem de_bltn {x : Str} {u : Value} {v : V} {d : D} {pos : Pos} (c : Cn K Wx X) (hm : X.mg x = none) (hv : bootBuiltins x = some u) (r : RelV v u) (q : ∀ G, Rep K G v d) (hg : Gl X x := by rfl) (hn : x ≠ "__name__" := by decide) (hdb : (x == ("__debug__" : Str)) = false := by decide) :
    DE K O Wx X (.Name x pos) (tC v) (mC O d) := ⟨c.hK, c.tk, pe_bltn hg hm hv r hn hdb, snd_c q⟩
/-- a two-place operation on values does what f says on data -/
def VOp (K : PySem.W.Frag) (r : R2) (f : D → D → Option D) : Prop := ∀ (G : Gh) (H : Hp) (x y : V) (dx dy d : D) (Q : VK), Sh G H → Rep K G x dx → Rep K G y dy → f dx dy = some d → (∀ v G' H', Tr0 G H G' H' → Rep K G' v d → Q v H') → r x y H Q
def VUn (K : PySem.W.Frag) (r : V → Hp → VK → Prop) (f : D → Option D) : Prop := ∀ (G : Gh) (H : Hp) (x : V) (dx d : D) (Q : VK), Sh G H → Rep K G x dx → f dx = some d → (∀ v G' H', Tr0 G H G' H' → Rep K G' v d → Q v H') → r x H Q
def VCl (K : PySem.W.Frag) (r : List V → Hp → VK → Prop) (f : List D → Option D) : Prop := ∀ (G : Gh) (H : Hp) (x : List V) (dx : List D) (d : D) (Q : VK), Sh G H → Reps K G x dx → f dx = some d → (∀ v G' H', Tr0 G H G' H' → Rep K G' v d → Q v H') → r x H Q
def mBin (O : Wo) (f : D → D → Option D) (a b : ME O) : ME O := fun ρ s => (a ρ s).bind fun x s1 => (b ρ s1).bind fun y s2 => R.lift (f x y) s2
def mUn (O : Wo) (f : D → Option D) (a : ME O) : ME O := fun ρ s => (a ρ s).bind fun x s1 => R.lift (f x) s1
def mCl (O : Wo) (f : List D → Option D) (a : MA O) : ME O := fun ρ s => (a ρ s).bind fun x s1 => R.lift (f x) s1
theorem pst_lift {σ : L2.St} {ρ : Ev} {H0 : Hp} {G : Gh} {H : Hp} {s : O.S} {o : Option D} {Q : VK} (F : Fm K O H0 σ ρ G H s) (h : Pst K O Wx σ G H (Rep K) (R.lift o s) Q) : ∃ d, o = some d ∧ ∀ v G' H', Tr0 G H G' H' → Rep K G' v d → Q v H' := by
  cases o with
  | none => exact h.elim
  | some d => exact ⟨d, rfl, fun v G' H' t r => h v G' H' t.up (F.keepW t) r⟩
theorem snd_op {r : R2} {f : D → D → Option D} {ta tb : TE} {ma mb : ME O} (hv : VOp K r f) (ha : SndE K O Wx ta ma) (hb : SndE K O Wx tb mb) : SndE K O Wx (tOp r ta tb) (mBin O f ma mb) := by
  intro σ ρ H0 G H s Q F h
  refine ha σ ρ H0 G H s _ F (pst_bind h fun dx s1 _ x G1 H1 t1 k1 r1 h1 => ?_)
  have F1 := F.tr t1 k1
  refine hb σ ρ H0 G1 H1 s1 _ F1 (pst_bind h1 fun dy s2 _ y G2 H2 t2 k2 r2 h2 => ?_)
  have F2 := F1.tr t2 k2
  obtain ⟨d, e, q⟩ := pst_lift F2 h2
  exact hv G2 H2 x y dx dy d Q F2.gh (r1.mono t2.gg) r2 e q
theorem snd_un {r : V → Hp → VK → Prop} {f : D → Option D} {ta : TE} {ma : ME O} (hv : VUn K r f) (ha : SndE K O Wx ta ma) : SndE K O Wx (tUn r ta) (mUn O f ma) := by
  intro σ ρ H0 G H s Q F h
  refine ha σ ρ H0 G H s _ F (pst_bind h fun dx s1 _ x G1 H1 t1 k1 r1 h1 => ?_)
  have F1 := F.tr t1 k1
  obtain ⟨d, e, q⟩ := pst_lift F1 h1
  exact hv G1 H1 x dx d Q F1.gh r1 e q
theorem snd_cl {r : List V → Hp → VK → Prop} {f : List D → Option D} {ta : TA} {ma : MA O} (hv : VCl K r f) (ha : SndA K O Wx ta ma) : SndE K O Wx (tCB r ta) (mCl O f ma) := by
  intro σ ρ H0 G H s Q F h
  refine ha σ ρ H0 G H s _ F (pst_bind h fun dx s1 _ x G1 H1 t1 k1 r1 h1 => ?_)
  have F1 := F.tr t1 k1
  obtain ⟨d, e, q⟩ := pst_lift F1 h1
  exact hv G1 H1 x dx d Q F1.gh r1 e q
theorem de_bin {op : Operator} {r : R2} {f : D → D → Option D} {a b : Expr} {ta tb : TE} {ma mb : ME O} {pos : Pos} (ho : OpR X (binaryOp op) r) (hv : VOp K r f) (ha : DE K O Wx X a ta ma) (hb : DE K O Wx X b tb mb) :
    DE K O Wx X (.BinOp a op b pos) (tOp r ta tb) (mBin O f ma mb) := ⟨ha.hK, ha.tk, pe_op ho ha.pe hb.pe, snd_op hv ha.sn hb.sn⟩
theorem de_unop {op : UnaryOp} {r : V → Hp → VK → Prop} {f : D → Option D} {a : Expr} {ta : TE} {ma : ME O} {pos : Pos} (ho : UnR X (unaryOp op) r) (hv : VUn K r f) (ha : DE K O Wx X a ta ma) :
    DE K O Wx X (.UnaryOp op a pos) (tUn r ta) (mUn O f ma) := ⟨ha.hK, ha.tk, pe_un ho ha.pe, snd_un hv ha.sn⟩
theorem de_cmp {op : CmpOp} {r : R2} {f : D → D → Option D} {a b : Expr} {ta tb : TE} {ma mb : ME O} {pos : Pos} (ho : OpR X (compareOp op) r) (hv : VOp K r f) (ha : DE K O Wx X a ta ma) (hb : DE K O Wx X b tb mb) (hm : behindInMarks op b = false) :
    DE K O Wx X (.Compare a [op] [b] pos) (tOp r ta tb) (mBin O f ma mb) := ⟨ha.hK, ha.tk, pe_cmpR ho ha.pe hb.pe hm, snd_op hv ha.sn hb.sn⟩
def dBool : D → Option Bool
  | .bl b => some b
  | _ => none
def mTest (O : Wo) (m : ME O) : MT O := fun ρ s => (m ρ s).bind fun x s1 => R.lift (dBool x) s1
theorem snd_test {t : TE} {m : ME O} (h : SndE K O Wx t m) : SndT K O Wx (tTest t) (mTest O m) := by
  intro σ ρ H0 G H s Q F hq
  refine h σ ρ H0 G H s _ F (pst_bind hq fun dx s1 _ x G1 H1 t1 k1 r1 h1 => ?_)
  cases dx with
  | bl b =>
    cases r1
    exact ⟨b, rfl, h1 b G1 H1 (.refl t1.gh) k1 rfl⟩
  | _ => exact (show False from h1).elim
theorem dt_cmp {op : CmpOp} {r : R2} {f : D → D → Option D} {a b : Expr} {ta tb : TE} {ma mb : ME O} {pos : Pos} (ho : OpR X (compareOp op) r) (hv : VOp K r f) (ha : DE K O Wx X a ta ma) (hb : DE K O Wx X b tb mb) (hm : behindInMarks op b = false) :
    DT K O Wx X (.Compare a [op] [b] pos) (tTest (tOp r ta tb)) (mTest O (mBin O f ma mb)) := ⟨ha.hK, ha.tk, pt_cmpR ho ha.pe hb.pe hm, snd_test (snd_op hv ha.sn hb.sn)⟩
/-- a value's truth -/
def dTruth : D → Option Bool
  | .non => some false
  | .bl b => some b
  | .int i => some (i != 0)
  | .str x => if x.length ≤ 100000 then some ((x.length : Int) != 0) else none
  | .lst xs => some (!xs.isEmpty)
  | .tup xs => some (!xs.isEmpty)
  | _ => none
theorem sz5 {n : Nat} (h : n ≤ 100000) : n ≤ sizeLine := Nat.le_trans h (by decide)
theorem sz5l {n : Nat} (h : n < 100000) : n < sizeLine := Nat.lt_of_lt_of_le h (by decide)
theorem Reps.isEmpty {G : Gh} {vs : List V} {ds : List D} (r : Reps K G vs ds) : vs.isEmpty = ds.isEmpty := by
  cases r <;> rfl
theorem truth_ok {G : Gh} {H : Hp} {x : V} {dx : D} {b : Bool} (g : Sh G H) (r : Rep K G x dx) (h : dTruth dx = some b) : TruV K x H b := by
  cases r with
  | non => cases h; rfl
  | bl c => cases h; rfl
  | int i => cases h; rfl
  | str x =>
    unfold dTruth at h
    dsimp only at h
    split at h
    · cases h
      rename_i hz
      exact ⟨sz5 hz, rfl⟩
    · cases h
  | lst hs hr => cases h; exact .inl ⟨_, g.seq hs, by rw [hr.isEmpty]⟩
  | tup hs hr => cases h; exact .inr (.inl ⟨_, g.seqT hs, by rw [hr.isEmpty]⟩)
  | ref a => cases h
  | ty n => cases h
  | ins _ _ => cases h
  | dct _ _ => cases h
  | obj _ => cases h
def mTruth (O : Wo) (m : ME O) : MT O := fun ρ s => (m ρ s).bind fun x s1 => R.lift (dTruth x) s1
theorem dt_truth {a : Expr} {ta : TE} {ma : ME O} (ha : DE K O Wx X a ta ma) (he : ∀ whole, isTrue a X.env whole = (do let v ← whole; standAt a.pos; holding [v] (truthy v)) := by intro _; rfl) :
    DT K O Wx X a (fun σ H Q => ta σ H fun x H1 => ∃ k, TruV K x H1 k ∧ Q k H1) (mTruth O ma) := by
  refine ⟨ha.hK, ha.tk, ?_, ?_⟩
  · have := ha.hK
    subst this
    exact pt_truth ha.pe he
  · intro σ ρ H0 G H s Q F hq
    refine ha.sn σ ρ H0 G H s _ F (pst_bind hq fun dx s1 _ x G1 H1 t1 k1 r1 h1 => ?_)
    cases e : dTruth dx with
    | none => rw [e] at h1; exact (show False from h1).elim
    | some b =>
      rw [e] at h1
      exact ⟨b, truth_ok t1.gh r1 e, h1 b G1 H1 (.refl t1.gh) k1 rfl⟩
def mAnd (O : Wo) (a b : MT O) : MT O := fun ρ s => (a ρ s).bind fun x s1 => if x = true then b ρ s1 else .ok false s1
def mOr (O : Wo) (a b : MT O) : MT O := fun ρ s => (a ρ s).bind fun x s1 => if x = true then .ok true s1 else b ρ s1
def mNot (O : Wo) (a : MT O) : MT O := fun ρ s => (a ρ s).bind fun x s1 => .ok (!x) s1
structure DW (K : PySem.W.Frag) (O : Wo) (Wx : WX) (X : Cx) (e : Expr) (t : TT) (m : MT O) : Prop where
  hK : X.K = K
  tk : Takes X Wx
  pe : PW X e t
  sn : SndT K O Wx t m
theorem DW.dt {e : Expr} {t : TT} {m : MT O} (h : DW K O Wx X e t m) : DT K O Wx X e t m := ⟨h.hK, h.tk, h.pe.pt, h.sn⟩
section
variable {a b : Expr} {rest : List Expr} {ta tb : TT} {ma mb : MT O} {pos : Pos}
theorem dw_and1 (ha : DT K O Wx X a ta ma) : DW K O Wx X (.BoolOp .And [a] pos) ta ma := ⟨ha.hK, ha.tk, pw_and1 ha.pe, ha.sn⟩
theorem dw_and (ha : DT K O Wx X a ta ma) (hb : DW K O Wx X (.BoolOp .And (b :: rest) pos) tb mb) : DW K O Wx X (.BoolOp .And (a :: b :: rest) pos) (tAnd ta tb) (mAnd O ma mb) := by
  refine ⟨ha.hK, ha.tk, pw_and ha.pe hb.pe, fun σ ρ H0 G H s Q F h => ?_⟩
  refine ha.sn σ ρ H0 G H s _ F (pst_bind h fun c s1 _ x G1 H1 t1 k1 r1 h1 => ?_)
  subst r1
  cases x with
  | true => exact hb.sn σ ρ H0 G1 H1 s1 _ (F.tr t1 k1) h1
  | false => exact h1 false G1 H1 (.refl t1.gh) k1 rfl
end
section
variable {a b : Expr} {rest : List Expr} {ta tb : TE} {ma mb : ME O} {pos : Pos}
def mAndV (O : Wo) (a b : ME O) : ME O := fun ρ s => (a ρ s).bind fun x s1 => match x with
  | .bl true => b ρ s1
  | .bl false => .ok (.bl false) s1
  | _ => .bad
def mOrV (O : Wo) (a b : ME O) : ME O := fun ρ s => (a ρ s).bind fun x s1 => match x with
  | .bl true => .ok (.bl true) s1
  | .bl false => b ρ s1
  | _ => .bad
def mNotV (O : Wo) (a : ME O) : ME O := fun ρ s => (a ρ s).bind fun x s1 => match x with
  | .bl c => .ok (.bl (!c)) s1
  | _ => .bad
def mIf (O : Wo) (c : MT O) (a b : ME O) : ME O := fun ρ s => (c ρ s).bind fun x s1 => if x = true then a ρ s1 else b ρ s1
theorem de_if {c : Expr} {tc : TT} {mc : MT O} (hc : DT K O Wx X c tc mc) (ha : DE K O Wx X a ta ma) (hb : DE K O Wx X b tb mb) : DE K O Wx X (.IfExp c a b pos) (tIf tc ta tb) (mIf O mc ma mb) := by
  refine ⟨ha.hK, ha.tk, pe_ifExp hc.pe ha.pe hb.pe, fun σ ρ H0 G H s Q F h => ?_⟩
  refine hc.sn σ ρ H0 G H s _ F (pst_bind h fun c s1 _ x G1 H1 t1 k1 r1 h1 => ?_)
  subst r1
  cases x with
  | true => exact ha.sn σ ρ H0 G1 H1 s1 _ (F.tr t1 k1) h1
  | false => exact hb.sn σ ρ H0 G1 H1 s1 _ (F.tr t1 k1) h1
end
def mNil (O : Wo) : MA O := fun _ s => .ok [] s
def mCons (O : Wo) (a : ME O) (r : MA O) : MA O := fun ρ s => (a ρ s).bind fun x s1 => (r ρ s1).bind fun xs s2 => .ok (x :: xs) s2
theorem da_nil (c : Cn K Wx X) : DA K O Wx X [] tNil (mNil O) := ⟨c.hK, c.tk, pa_nil, fun σ ρ H0 G H s Q F h => h [] G H (.refl F.gh) F.ok .nil⟩
theorem da_cons {e : Expr} {es : List Expr} {te : TE} {ta : TA} {me : ME O} {ma : MA O} (he : DE K O Wx X e te me) (ha : DA K O Wx X es ta ma) (hs : starEach (e :: es) X.env = (false, eval e X.env) :: starEach es X.env := by rfl) :
    DA K O Wx X (e :: es) (tCons te ta) (mCons O me ma) := by
  refine ⟨he.hK, he.tk, pa_cons he.pe ha.pe hs, fun σ ρ H0 G H s Q F h => ?_⟩
  refine he.sn σ ρ H0 G H s _ F (pst_bind h fun dx s1 _ x G1 H1 t1 k1 r1 h1 => ?_)
  refine ha.sn σ ρ H0 G1 H1 s1 _ (F.tr t1 k1) (pst_bind h1 fun ds s2 _ xs G2 H2 t2 k2 r2 h2 => ?_)
  exact h2 (x :: xs) G2 H2 (.refl t2.gh) k2 (.cons (r1.mono t2.gg) r2)
def dList (xs : List D) : Option D := if xs.length ≤ 100000 then some (.lst xs) else none
def dTup (xs : List D) : Option D := if xs.length ≤ 100000 then some (.tup xs) else none
theorem de_list {es : List Expr} {ta : TA} {ma : MA O} {pos : Pos} (ha : DA K O Wx X es ta ma) : DE K O Wx X (.List es pos) (tLst ta) (mCl O dList ma) := by
  refine ⟨ha.hK, ha.tk, pe_lst ha.pe, fun σ ρ H0 G H s Q F h => ?_⟩
  refine ha.sn σ ρ H0 G H s _ F (pst_bind h fun ds s1 _ xs G1 H1 t1 k1 r1 h1 => ?_)
  obtain ⟨d, e, q⟩ := pst_lift (F.tr t1 k1) h1
  unfold dList at e
  split at e
  · rename_i hz
    cases e
    refine ⟨by rw [r1.length]; exact sz5 hz, fun p np => q _ _ _ (Tr0.new t1.gh np) ?_⟩
    exact .lst sqL_new (r1.mono (Tr0.new (o := .lst xs) t1.gh np).gg)
  · cases e
theorem de_tup {es : List Expr} {ta : TA} {ma : MA O} {x1} {pos : Pos} (ha : DA K O Wx X es ta ma) : DE K O Wx X (.Tuple es x1 pos) (tTup ta) (mCl O dTup ma) := by
  refine ⟨ha.hK, ha.tk, pe_tup ha.pe, fun σ ρ H0 G H s Q F h => ?_⟩
  refine ha.sn σ ρ H0 G H s _ F (pst_bind h fun ds s1 _ xs G1 H1 t1 k1 r1 h1 => ?_)
  obtain ⟨d, e, q⟩ := pst_lift (F.tr t1 k1) h1
  unfold dTup at e
  split at e
  · rename_i hz
    cases e
    refine ⟨by rw [r1.length]; exact sz5 hz, fun p np => q _ _ _ (Tr0.new t1.gh np) ?_⟩
    exact .tup sqT_new (r1.mono (Tr0.new (o := .tup xs) t1.gh np).gg)
  · cases e
theorem de_callB {id : String} {x : Str} {r : List V → Hp → VK → Prop} {f : List D → Option D} {e : Expr} {es : List Expr} {ta : TA} {ma : MA O} {p pos : Pos} (hc : CallR X (.builtin id) r) (hv : VCl K r f) (hm : X.mg x = none) (hb : bootBuiltins x = some (.builtin id)) (ha : DA K O Wx X (e :: es) ta ma)
    (hg : Gl X x := by rfl) (hn : x ≠ "__name__" := by decide) (hdb : (x == ("__debug__" : Str)) = false := by decide) (he : starEach (e :: es) X.env = (false, eval e X.env) :: starEach es X.env := by rfl) (hpl : (backTo pos (starEach es X.env)).any (·.1) = false := by rfl) :
    DE K O Wx X (.Call (.Name x p) (e :: es) [] pos) (tCB r ta) (mCl O f ma) := ⟨ha.hK, ha.tk, pe_callB hc hg hm hb ha.pe hn hdb he hpl, snd_cl hv ha.sn⟩
theorem de_callT {T : String} {x : Str} {r : List V → Hp → VK → Prop} {f : List D → Option D} {e : Expr} {es : List Expr} {ta : TA} {ma : MA O} {p pos : Pos} (hc : CallR X (.type T) r) (hv : VCl K r f) (hm : X.mg x = none) (hb : bootBuiltins x = some (.type T)) (ha : DA K O Wx X (e :: es) ta ma)
    (hg : Gl X x := by rfl) (hn : x ≠ "__name__" := by decide) (hdb : (x == ("__debug__" : Str)) = false := by decide) (he : starEach (e :: es) X.env = (false, eval e X.env) :: starEach es X.env := by rfl) (hpl : (backTo pos (starEach es X.env)).any (·.1) = false := by rfl) :
    DE K O Wx X (.Call (.Name x p) (e :: es) [] pos) (tCB r ta) (mCl O f ma) := ⟨ha.hK, ha.tk, pe_callTy hc hg hm hb ha.pe hn hdb he hpl, snd_cl hv ha.sn⟩
/-- a def's promise by its mirror -/
def PstF (K : PySem.W.Frag) (O : Wo) (G : Gh) (H : Hp) (r : R O.S D) (Q : VK) (E : XK) : Prop :=
  match r with
  | .ok d s' => ∀ v G' H', Tr O.W G H G' H' → O.ok K s' G' H' → Rep K G' v d → Q v H'
  | .err c fs s' => ∀ dd xs G' H', Tr O.W G H G' H' → O.ok K s' G' H' → XdA H' dd xs → NwA O dd → RepF K G' xs fs → E (.ref c) dd H'
  | .bad => False
def spM (K : PySem.W.Frag) (O : Wo) (n : Nat) (m : List D → O.S → R O.S D) : Sp := fun vs H Q E => vs.length = n ∧ ∃ G ds s, Sh G H ∧ (∀ a, O.W a → G a = none) ∧ O.ok K s G H ∧ Reps K G vs ds ∧ PstF K O G H (m ds s) Q E
def mCall (O : Wo) (n : Nat) (m : List D → O.S → R O.S D) (a : MA O) : ME O := fun ρ s => (a ρ s).bind fun xs s1 => if xs.length = n then m xs s1 else .bad
theorem call_snd {n : Nat} {m : List D → O.S → R O.S D} {ta : TA} {ma : MA O} (h : SndA K O Wx ta ma) : SndE K O Wx (tCallS (spM K O n m) (WE Wx) ta) (mCall O n m ma) := by
  intro σ ρ H0 G H s Q F hq
  refine h σ ρ H0 G H s _ F (pst_bind hq fun ds s1 _ xs G1 H1 t1 k1 r1 h1 => ?_)
  have F1 := F.tr t1 k1
  by_cases e : ds.length = n
  · rw [if_pos e] at h1
    refine ⟨by rw [r1.length]; exact e, G1, ds, s1, F1.gh, F1.wg, F1.ok, r1, ?_⟩
    revert h1
    cases m ds s1 <;> exact fun h1 => h1
  · rw [if_neg e] at h1
    exact (show False from h1).elim
/-- what is known of a def that is called by its name -/
structure Fo (P : Program) (w : World) (K : PySem.W.Frag) (mg : Str → Option Value) (base : Heap) (O : Wo) (k : Nat) (x : Str) (n : Nat) (m : List D → O.S → R O.S D) : Prop where
  ex : ∃ f fd ps, FnOk P w K mg base (L2.CX P w) k f fd ps (spM K O n m) ∧ mg x = some (.ref f) ∧ PySem.W.keepIn K (.ref f) = true ∧ Binds K fd ps []
theorem de_call {k j n : Nat} {x : Str} {m : List D → O.S → R O.S D} {e : Expr} {es : List Expr} {ta : TA} {ma : MA O} {p pos : Pos} (F : Fo X.prog X.w X.K X.mg X.base O k x n m) (hr : Room j X.A) (hk : k ≤ j) (ha : DA K O Wx X (e :: es) ta ma)
    (hg : Gl X x := by rfl) (hdb : (x == ("__debug__" : Str)) = false := by decide) (he : starEach (e :: es) X.env = (false, eval e X.env) :: starEach es X.env := by rfl) (hpl : (backTo pos (starEach es X.env)).any (·.1) = false := by rfl) :
    DE K O Wx X (.Call (.Name x p) (e :: es) [] pos) (tCallS (spM K O n m) (WE Wx) ta) (mCall O n m ma) := by
  obtain ⟨f, fd, ps, Fn, hm, kp, bi⟩ := F.ex
  refine ⟨ha.hK, ha.tk, ?_, call_snd ha.sn⟩
  have := ha.hK
  subst this
  exact pe_callS Fn (hr.mono hk) hg hm kp bi (fun σ => passAt ha.tk σ) ha.pe hdb he hpl
end
end Mr
namespace Mr
open PySem PySem.Spec PyProof.Rows L2
section
variable {K : PySem.W.Frag} {O : Wo} {Wx : WX} {X : Cx}
/-- the sum of two lists, wherever they stand -/
def rCatG (K : PySem.W.Frag) : R2 := fun x y H Q => ∃ l b xs zs, x = .ref l ∧ y = .ref b ∧ SqL K H l xs ∧ SqL K H b zs ∧ xs.length + zs.length ≤ sizeLine ∧ ∀ p, H p = none → Q (.ref p) (upd H p (.lst (xs ++ zs)))
theorem op_catG : OpR X (binaryOp .Add) (rCatG X.K) := by
  intro pins s σ H x y v u Q I rx ry h
  obtain ⟨l, b, xs, zs, rfl, rfl, hH, hB, hz, q⟩ := h
  cases rx
  cases ry
  obtain ⟨its, r, p1, _⟩ := I.list hH
  obtain ⟨its2, r2, p2, _⟩ := I.list hB
  obtain ⟨⟨cls, dd, data, sl⟩, ho, hc, n, hd⟩ := id p1.isList
  obtain ⟨⟨cls2, dd2, data2, sl2⟩, ho2, hc2, n2, hd2⟩ := id p2.isList
  simp only at hc hd hc2 hd2
  subst hc hd hc2 hd2
  have e : its.toArray ++ its2.toArray = (its ++ its2).toArray := by simp
  have l1 := r.length
  have l2 := r2.length
  refine concat_meets ⟨_, ho, rfl⟩ ⟨_, ho2, rfl⟩ noFill_list_add seq_list_add PySem.F.slot_list_add PySem.F.entry_list_add (PySem.F.args_list_add_2 _ _) (list_addW l b its.toArray its2.toArray n n2 dd dd2 sl sl2 (by rw [List.size_toArray, List.size_toArray]; omega)) ⟨ho, ho2, ?_⟩
  rw [e]
  exact ⟨.ref _, _, I.lnew (t' := s.toks) (r.append r2) (by rw [List.length_append]; omega), rfl, q _ I.fresh⟩
def rStrAdd : R2 := fun x y H Q => ∃ i j, x = .str i ∧ y = .str j ∧ i.length + j.length ≤ sizeLine ∧ Q (.str (i ++ j)) H
def rAddG (K : PySem.W.Frag) : R2 := fun x y H Q => rI0 (fun i j => .int (i + j)) x y H Q ∨ rCatG K x y H Q ∨ rCatA K x y H Q ∨ rStrAdd x y H Q
theorem op_addG (hK : X.K = K) : OpR X (binaryOp .Add) (rAddG K) := by
  subst hK
  exact op_add.or (op_catG.or (op_catA.or op_add_str))
def dAdd : D → D → Option D
  | .int i, .int j => some (.int (i + j))
  | .lst xs, .lst ys => if xs.length + ys.length ≤ 100000 then some (.lst (xs ++ ys)) else none
  | .tup xs, .tup ys => if xs.length + ys.length ≤ 100000 then some (.tup (xs ++ ys)) else none
  | .str x, .str y => if x.length + y.length ≤ 100000 then some (.str (x ++ y)) else none
  | _, _ => none
/-- a new object, told -/
theorem new_lst {G : Gh} {H : Hp} {p : Addr} {vs : List V} {ds : List D} (g : Sh G H) (n : H p = none) (r : Reps K G vs ds) : Rep K (up G p (.lst vs)) (.ref p) (.lst ds) :=
  .lst sqL_new (r.mono (Tr0.new (o := .lst vs) g n).gg)
theorem new_tup {G : Gh} {H : Hp} {p : Addr} {vs : List V} {ds : List D} (g : Sh G H) (n : H p = none) (r : Reps K G vs ds) : Rep K (up G p (.tup vs)) (.ref p) (.tup ds) :=
  .tup sqT_new (r.mono (Tr0.new (o := .tup vs) g n).gg)
theorem Reps.nil_iff {G : Gh} {vs : List V} {ds : List D} (r : Reps K G vs ds) : vs = [] ↔ ds = [] := by
  cases r <;> simp
theorem vop_add : VOp K (rAddG K) dAdd := by
  intro G H x y dx dy d Q g rx ry e q
  unfold dAdd at e
  split at e
  · cases e; cases rx; cases ry
    exact .inl ⟨_, _, rfl, rfl, q _ G H (.refl g) (.int _)⟩
  · split at e
    · rename_i hz
      cases e
      cases rx with
      | lst hx r1 =>
        cases ry with
        | lst hy r2 =>
          have l1 := r1.length
          have l2 := r2.length
          exact .inr (.inl ⟨_, _, _, _, rfl, rfl, g.seq hx, g.seq hy, sz5 (by omega), fun p n => q _ _ _ (Tr0.new g n) (new_lst g n (r1.append r2))⟩)
    · cases e
  · split at e
    · rename_i hz
      cases e
      cases rx with
      | @tup a vs ds hx r1 =>
        cases ry with
        | @tup b ws es hy r2 =>
          have l1 := r1.length
          have l2 := r2.length
          refine .inr (.inr (.inl ⟨_, _, vs, ws, rfl, rfl, g.seqT hx, g.seqT hy, sz5 (by omega), fun z => ?_, fun z z2 => ?_, fun z z2 p n => ?_⟩))
          · have z' := r1.nil_iff.mp z
            subst z'
            exact q _ G H (.refl g) (.tup hy r2)
          · have z' := r2.nil_iff.mp z2
            subst z'
            rw [List.append_nil] at q
            exact q _ G H (.refl g) (.tup hx r1)
          · exact q _ _ _ (Tr0.new g n) (new_tup g n (r1.append r2))
    · cases e
  · split at e
    · rename_i hz
      cases e; cases rx; cases ry
      exact .inr (.inr (.inr ⟨_, _, rfl, rfl, sz5 hz, q _ G H (.refl g) (.str _)⟩))
    · cases e
  · cases e
def dInt2 (f : Int → Int → Option D) : D → D → Option D
  | .int i, .int j => f i j
  | _, _ => none
theorem vop_int {C : Int → Int → Prop} [∀ i j, Decidable (C i j)] {f : Int → Int → Int} : VOp K (rI C fun i j => .int (f i j)) (dInt2 fun i j => if C i j then some (.int (f i j)) else none) := by
  intro G H x y dx dy d Q g rx ry e q
  unfold dInt2 at e
  split at e
  · dsimp only at e
    split at e
    · rename_i hc
      cases e; cases rx; cases ry
      exact ⟨_, _, rfl, rfl, hc, q _ G H (.refl g) (.int _)⟩
    · cases e
  · cases e
theorem vop_int0 {f : Int → Int → Int} : VOp K (rI0 fun i j => .int (f i j)) (dInt2 fun i j => some (.int (f i j))) := by
  intro G H x y dx dy d Q g rx ry e q
  unfold dInt2 at e
  split at e
  · cases e; cases rx; cases ry
    exact ⟨_, _, rfl, rfl, q _ G H (.refl g) (.int _)⟩
  · cases e
theorem vop_intB {f : Int → Int → Bool} : VOp K (rI0 fun i j => .bl (f i j)) (dInt2 fun i j => some (.bl (f i j))) := by
  intro G H x y dx dy d Q g rx ry e q
  unfold dInt2 at e
  split at e
  · cases e; cases rx; cases ry
    exact ⟨_, _, rfl, rfl, q _ G H (.refl g) (.bl _)⟩
  · cases e
def dSub : D → D → Option D := dInt2 fun i j => some (.int (i - j))
def CMulG (i j : Int) : Prop := i.natAbs.log2 < 4000 ∧ j.natAbs.log2 < 4000
instance : ∀ i j, Decidable (CMulG i j) := fun i j => by unfold CMulG; infer_instance
theorem CMulG.w {i j : Int} (h : CMulG i j) : CMulW i j := by unfold CMulG at h; unfold CMulW; omega
theorem op_mulG : OpR X (binaryOp .Mult) (rI CMulG fun i j => .int (i * j)) := opI fun _ _ _ _ _ _ _ hc q => mul_int q hc.w.ok
def dMul : D → D → Option D := dInt2 fun i j => if CMulG i j then some (.int (i * j)) else none
theorem vop_mul : VOp K (rI CMulG fun i j => .int (i * j)) dMul := vop_int
def CDivG (i j : Int) : Prop := j ≠ 0 ∧ j.natAbs.log2 < 9000
instance : ∀ i j, Decidable (CDivG i j) := fun i j => by unfold CDivG; infer_instance
theorem op_fdivG : OpR X (binaryOp .FloorDiv) (rI CDivG fun i j => .int (i.fdiv j)) := opI fun i j _ _ _ _ _ hc q => floordiv_int hc.1 q (.inl (PyProof.noPylong_of_log2 hc.2))
def dDiv : D → D → Option D := dInt2 fun i j => if CDivG i j then some (.int (i.fdiv j)) else none
theorem vop_div : VOp K (rI CDivG fun i j => .int (i.fdiv j)) dDiv := vop_int
def CModG (i j : Int) : Prop := j ≠ 0
instance : ∀ i j, Decidable (CModG i j) := fun i j => by unfold CModG; infer_instance
theorem op_modG : OpR X (binaryOp .Mod) (rI CModG fun i j => .int (i.fmod j)) := opI fun _ _ _ _ _ _ _ hc q => mod_int' hc q
def dMod : D → D → Option D := dInt2 fun i j => if CModG i j then some (.int (i.fmod j)) else none
theorem vop_mod : VOp K (rI CModG fun i j => .int (i.fmod j)) dMod := vop_int
def CPowG (i j : Int) : Prop := 0 ≤ j ∧ j ≤ 1000 ∧ i.natAbs < 2 ^ 64
instance : ∀ i j, Decidable (CPowG i j) := fun i j => by unfold CPowG; infer_instance
theorem op_powG : OpR X (binaryOp .Pow) (rI CPowG fun i j => .int (i ^ j.toNat)) := opI fun _ _ _ _ _ _ _ hc q => pow_int_small hc.1 (by have := hc.2.1; omega) hc.2.2 q
def dPow : D → D → Option D := dInt2 fun i j => if CPowG i j then some (.int (i ^ j.toNat)) else none
theorem vop_pow : VOp K (rI CPowG fun i j => .int (i ^ j.toNat)) dPow := vop_int
def dNeg : D → Option D
  | .int i => some (.int (-i))
  | _ => none
theorem vun_neg : VUn K (rU fun i => .int (-i)) dNeg := by
  intro G H x dx d Q g rx e q
  unfold dNeg at e
  split at e
  · cases e; cases rx
    exact ⟨_, rfl, q _ G H (.refl g) (.int _)⟩
  · cases e
section
variable {a b c : Expr} {ta tb tc : TE} {ma mb mc : ME O} {pos : Pos}
theorem de_add (ha : DE K O Wx X a ta ma) (hb : DE K O Wx X b tb mb) : DE K O Wx X (.BinOp a .Add b pos) (tOp (rAddG K) ta tb) (mBin O dAdd ma mb) := de_bin (op_addG ha.hK) vop_add ha hb
theorem de_mul (ha : DE K O Wx X a ta ma) (hb : DE K O Wx X b tb mb) : DE K O Wx X (.BinOp a .Mult b pos) (tOp (rI CMulG fun i j => .int (i * j)) ta tb) (mBin O dMul ma mb) := de_bin op_mulG vop_mul ha hb
theorem de_div (ha : DE K O Wx X a ta ma) (hb : DE K O Wx X b tb mb) : DE K O Wx X (.BinOp a .FloorDiv b pos) (tOp (rI CDivG fun i j => .int (i.fdiv j)) ta tb) (mBin O dDiv ma mb) := de_bin op_fdivG vop_div ha hb
theorem de_mod (ha : DE K O Wx X a ta ma) (hb : DE K O Wx X b tb mb) : DE K O Wx X (.BinOp a .Mod b pos) (tOp (rI CModG fun i j => .int (i.fmod j)) ta tb) (mBin O dMod ma mb) := de_bin op_modG vop_mod ha hb
theorem de_pow (ha : DE K O Wx X a ta ma) (hb : DE K O Wx X b tb mb) : DE K O Wx X (.BinOp a .Pow b pos) (tOp (rI CPowG fun i j => .int (i ^ j.toNat)) ta tb) (mBin O dPow ma mb) := de_bin op_powG vop_pow ha hb
theorem de_neg (ha : DE K O Wx X a ta ma) : DE K O Wx X (.UnaryOp .USub a pos) (tUn (rU fun i => .int (-i)) ta) (mUn O dNeg ma) := de_unop un_neg vun_neg ha
end
def dLt : D → D → Option D := dInt2 fun i j => some (.bl (decide (i < j)))
def dLe : D → D → Option D := dInt2 fun i j => some (.bl (decide (i ≤ j)))
def dGt : D → D → Option D := dInt2 fun i j => some (.bl (decide (j < i)))
def dGe : D → D → Option D := dInt2 fun i j => some (.bl (decide (j ≤ i)))
mutual
def toP : D → Option PyData
  | .non => some .none
  | .bl b => some (.bool b)
  | .int i => some (.int i)
  | .str x => some (.str x)
  | .lst xs => (toPs xs).map .list
  | .tup xs => (toPs xs).map .tuple
  | _ => none
def toPs : List D → Option (List PyData)
  | [] => some []
  | x :: xs => match toP x, toPs xs with
    | some p, some ps => some (p :: ps)
    | _, _ => none
end
mutual
theorem Rep.dp {G : Gh} {H : Hp} (g : Sh G H) : ∀ {v : V} {d : D} {p : PyData}, Rep K G v d → toP d = some p → Dp K H v p
  | _, _, _, .non, h => by simp only [toP, Option.some.injEq] at h; subst h; exact .non
  | _, _, _, .bl b, h => by simp only [toP, Option.some.injEq] at h; subst h; exact .bl b
  | _, _, _, .int b, h => by simp only [toP, Option.some.injEq] at h; subst h; exact .int b
  | _, _, _, .str b, h => by simp only [toP, Option.some.injEq] at h; subst h; exact .str b
  | _, _, _, .lst hs r, h => by
    simp only [toP, Option.map_eq_some_iff] at h
    obtain ⟨ps, h1, rfl⟩ := h
    exact .lst (g.seq hs) (Reps.dp g r h1)
  | _, _, _, .tup hs r, h => by
    simp only [toP, Option.map_eq_some_iff] at h
    obtain ⟨ps, h1, rfl⟩ := h
    exact .tup (g.seqT hs) (Reps.dp g r h1)
  | _, _, _, .ref a, h => by simp [toP] at h
  | _, _, _, .ty a, h => by simp [toP] at h
  | _, _, _, .ins _ _, h => by simp [toP] at h
  | _, _, _, .dct _ _, h => by simp [toP] at h
theorem Reps.dp {G : Gh} {H : Hp} (g : Sh G H) : ∀ {v : List V} {d : List D} {p : List PyData}, Reps K G v d → toPs d = some p → DpAll K H v p
  | _, _, _, .nil, h => by simp only [toPs, Option.some.injEq] at h; subst h; exact .nil
  | _, _, _, .cons q r, h => by
    simp only [toPs] at h
    split at h
    · rename_i p ps e1 e2
      cases h
      exact .cons (Rep.dp g q e1) (Reps.dp g r e2)
    · cases h
end
/-- == of data: scalars of one kind outright, the rest where it is shaped -/
def dEqB : D → D → Option Bool
  | .int i, .int j => some (decide (i = j))
  | .str i, .str j => some (decide (i = j))
  | .bl i, .bl j => some (decide (i = j))
  | .non, .non => some true
  | .non, .int _ => some false
  | .int _, .non => some false
  | .int _, .str _ => some false
  | .str _, .int _ => some false
  | .non, .str _ => some false
  | .str _, .non => some false
  | a, b => match toP a, toP b with
    | some p, some q => if SeqAt.shaped p = true ∧ SeqAt.shaped q = true then some (PyData.eqv p q) else none
    | _, _ => none
def rEqG (K : PySem.W.Frag) : R2 := fun x y H Q => rEq x y H Q ∨ rEqD K x y H Q
def rNeG (K : PySem.W.Frag) : R2 := fun x y H Q => rNe x y H Q ∨ rNeD K x y H Q
theorem op_eqG (hK : X.K = K) (hu : X.A.units + 64 < cLine) : OpR X (compareOp .Eq) (rEqG K) := by subst hK; exact op_eq.or (op_eqD hu)
theorem op_neG (hK : X.K = K) (hu : X.A.units + 64 < cLine) : OpR X (compareOp .NotEq) (rNeG K) := by subst hK; exact op_ne.or (op_neD hu)
theorem eqB_ok {G : Gh} {H : Hp} {x y : V} {dx dy : D} {b : Bool} (g : Sh G H) (rx : Rep K G x dx) (ry : Rep K G y dy) (e : dEqB dx dy = some b) :
    (scal x y = true ∧ decide (x = y) = b) ∨ ∃ p q, Dp K H x p ∧ Dp K H y q ∧ SeqAt.shaped p = true ∧ SeqAt.shaped q = true ∧ PyData.eqv p q = b := by
  unfold dEqB at e
  split at e
  · cases e; cases rx; cases ry
    exact .inl ⟨rfl, by simp⟩
  · cases e; cases rx; cases ry
    exact .inl ⟨rfl, by simp⟩
  · cases e; cases rx; cases ry
    exact .inl ⟨rfl, by simp⟩
  · cases e; cases rx; cases ry
    exact .inl ⟨rfl, by simp⟩
  · cases e; cases rx; cases ry
    exact .inl ⟨rfl, by simp⟩
  · cases e; cases rx; cases ry
    exact .inl ⟨rfl, by simp⟩
  · cases e; cases rx; cases ry
    exact .inl ⟨rfl, by simp⟩
  · cases e; cases rx; cases ry
    exact .inl ⟨rfl, by simp⟩
  · cases e; cases rx; cases ry
    exact .inl ⟨rfl, by simp⟩
  · cases e; cases rx; cases ry
    exact .inl ⟨rfl, by simp⟩
  · split at e
    · rename_i p q e1 e2
      split at e
      · rename_i hs
        cases e
        exact .inr ⟨p, q, rx.dp g e1, ry.dp g e2, hs.1, hs.2, rfl⟩
      · cases e
    · cases e
def dEq (a b : D) : Option D := (dEqB a b).map .bl
def dNe (a b : D) : Option D := (dEqB a b).map fun c => .bl (!c)
theorem vop_eq : VOp K (rEqG K) dEq := by
  intro G H x y dx dy d Q g rx ry e q
  unfold dEq at e
  rw [Option.map_eq_some_iff] at e
  obtain ⟨b, e, rfl⟩ := e
  rcases eqB_ok g rx ry e with ⟨h1, h2⟩ | ⟨p, r, h1, h2, h3, h4, h5⟩
  · exact .inl ⟨h1, by rw [h2]; exact q _ G H (.refl g) (.bl _)⟩
  · exact .inr ⟨p, r, h1, h2, h3, h4, by rw [h5]; exact q _ G H (.refl g) (.bl _)⟩
theorem vop_ne : VOp K (rNeG K) dNe := by
  intro G H x y dx dy d Q g rx ry e q
  unfold dNe at e
  rw [Option.map_eq_some_iff] at e
  obtain ⟨b, e, rfl⟩ := e
  rcases eqB_ok g rx ry e with ⟨h1, h2⟩ | ⟨p, r, h1, h2, h3, h4, h5⟩
  · exact .inl ⟨h1, by rw [h2]; exact q _ G H (.refl g) (.bl _)⟩
  · exact .inr ⟨p, r, h1, h2, h3, h4, by rw [h5]; exact q _ G H (.refl g) (.bl _)⟩
/-- flat data as values -/
def toV : D → Option V
  | .non => some .non
  | .bl b => some (.bl b)
  | .int i => some (.int i)
  | .str x => some (.str x)
  | _ => none
def toVs : List D → Option (List V)
  | [] => some []
  | x :: xs => match toV x, toVs xs with
    | some p, some ps => some (p :: ps)
    | _, _ => none
theorem Rep.toV {G : Gh} {v w : V} {d : D} (r : Rep K G v d) (h : Mr.toV d = some w) : v = w ∧ flatV w = true := by
  cases r <;> cases h <;> exact ⟨rfl, rfl⟩
theorem Reps.toVs {G : Gh} : ∀ {vs ws : List V} {ds : List D}, Reps K G vs ds → Mr.toVs ds = some ws → vs = ws ∧ ws.all flatV = true
  | _, _, _, .nil, h => by cases h; exact ⟨rfl, rfl⟩
  | _, _, _, .cons q r, h => by
    simp only [Mr.toVs] at h
    split at h
    · rename_i p ps e1 e2
      cases h
      obtain ⟨h1, h2⟩ := q.toV e1
      obtain ⟨h3, h4⟩ := Reps.toVs r e2
      subst h1 h3
      exact ⟨rfl, by rw [List.all_cons, h2, h4]; rfl⟩
    · cases h
def dInB (x : D) : D → Option Bool
  | .lst ys => match toV x, toVs ys with
    | some v, some vs => some (inV v vs)
    | _, _ => none
  | .tup ys => match toV x, toVs ys with
    | some v, some vs => some (inV v vs)
    | _, _ => none
  | _ => none
theorem inB_ok {G : Gh} {H : Hp} {x y : V} {dx dy : D} {b : Bool} (g : Sh G H) (rx : Rep K G x dx) (ry : Rep K G y dy) (e : dInB dx dy = some b) :
    ∃ p xs, y = .ref p ∧ (SqL K H p xs ∨ SqT K H p xs) ∧ flatV x = true ∧ xs.all flatV = true ∧ inV x xs = b := by
  cases ry with
  | lst hs r =>
    simp only [dInB] at e
    split at e
    · rename_i v vs e1 e2
      cases e
      obtain ⟨h1, h2⟩ := rx.toV e1
      obtain ⟨h3, h4⟩ := r.toVs e2
      subst h1 h3
      exact ⟨_, _, rfl, .inl (g.seq hs), h2, h4, rfl⟩
    · cases e
  | tup hs r =>
    simp only [dInB] at e
    split at e
    · rename_i v vs e1 e2
      cases e
      obtain ⟨h1, h2⟩ := rx.toV e1
      obtain ⟨h3, h4⟩ := r.toVs e2
      subst h1 h3
      exact ⟨_, _, rfl, .inr (g.seqT hs), h2, h4, rfl⟩
    · cases e
  | _ => simp [dInB] at e
def dIn (x y : D) : Option D := (dInB x y).map .bl
def dNotIn (x y : D) : Option D := (dInB x y).map fun c => .bl (!c)
theorem vop_in : VOp K (rIn K false) dIn := by
  intro G H x y dx dy d Q g rx ry e q
  unfold dIn at e
  rw [Option.map_eq_some_iff] at e
  obtain ⟨b, e, rfl⟩ := e
  obtain ⟨p, xs, h1, h2, h3, h4, h5⟩ := inB_ok g rx ry e
  refine ⟨p, xs, h1, h2, h3, h4, ?_⟩
  rw [h5]
  exact q _ G H (.refl g) (.bl _)
theorem vop_notIn : VOp K (rIn K true) dNotIn := by
  intro G H x y dx dy d Q g rx ry e q
  unfold dNotIn at e
  rw [Option.map_eq_some_iff] at e
  obtain ⟨b, e, rfl⟩ := e
  obtain ⟨p, xs, h1, h2, h3, h4, h5⟩ := inB_ok g rx ry e
  refine ⟨p, xs, h1, h2, h3, h4, ?_⟩
  rw [h5]
  exact q _ G H (.refl g) (.bl _)
theorem op_inG (hK : X.K = K) : OpR X (compareOp .In) (rIn K false) := by subst hK; exact op_in_seq
theorem op_notInG (hK : X.K = K) : OpR X (compareOp .NotIn) (rIn K true) := by subst hK; exact op_notIn_seq
section
variable {a b c : Expr} {ta tb tc : TE} {ma mb mc : ME O} {pos : Pos} {j : Nat}
theorem de_in (ha : DE K O Wx X a ta ma) (hb : DE K O Wx X b tb mb) (hm : behindInMarks .In b = false := by first | rfl | with_unfolding_all rfl) : DE K O Wx X (.Compare a [.In] [b] pos) (tOp (rIn K false) ta tb) (mBin O dIn ma mb) := de_cmp (op_inG ha.hK) vop_in ha hb hm
theorem de_notIn (ha : DE K O Wx X a ta ma) (hb : DE K O Wx X b tb mb) (hm : behindInMarks .NotIn b = false := by first | rfl | with_unfolding_all rfl) : DE K O Wx X (.Compare a [.NotIn] [b] pos) (tOp (rIn K true) ta tb) (mBin O dNotIn ma mb) := de_cmp (op_notInG ha.hK) vop_notIn ha hb hm
theorem dt_lt (ha : DE K O Wx X a ta ma) (hb : DE K O Wx X b tb mb) : DT K O Wx X (.Compare a [.Lt] [b] pos) (tTest (tOp (rI0 fun i j => .bl (decide (i < j))) ta tb)) (mTest O (mBin O dLt ma mb)) := dt_cmp op_lt vop_intB ha hb (nomark _)
theorem dt_gt (ha : DE K O Wx X a ta ma) (hb : DE K O Wx X b tb mb) : DT K O Wx X (.Compare a [.Gt] [b] pos) (tTest (tOp (rI0 fun i j => .bl (decide (j < i))) ta tb)) (mTest O (mBin O dGt ma mb)) := dt_cmp op_gt vop_intB ha hb (nomark _)
theorem dt_ge (ha : DE K O Wx X a ta ma) (hb : DE K O Wx X b tb mb) : DT K O Wx X (.Compare a [.GtE] [b] pos) (tTest (tOp (rI0 fun i j => .bl (decide (j ≤ i))) ta tb)) (mTest O (mBin O dGe ma mb)) := dt_cmp op_ge vop_intB ha hb (nomark _)
theorem dt_eq (hr : Room j X.A) (ha : DE K O Wx X a ta ma) (hb : DE K O Wx X b tb mb) : DT K O Wx X (.Compare a [.Eq] [b] pos) (tTest (tOp (rEqG K) ta tb)) (mTest O (mBin O dEq ma mb)) := dt_cmp (op_eqG ha.hK hr.units) vop_eq ha hb (nomark _)
theorem dt_ne (hr : Room j X.A) (ha : DE K O Wx X a ta ma) (hb : DE K O Wx X b tb mb) : DT K O Wx X (.Compare a [.NotEq] [b] pos) (tTest (tOp (rNeG K) ta tb)) (mTest O (mBin O dNe ma mb)) := dt_cmp (op_neG ha.hK hr.units) vop_ne ha hb (nomark _)
theorem dt_notIn (ha : DE K O Wx X a ta ma) (hb : DE K O Wx X b tb mb) (hm : behindInMarks .NotIn b = false := by first | rfl | with_unfolding_all rfl) : DT K O Wx X (.Compare a [.NotIn] [b] pos) (tTest (tOp (rIn K true) ta tb)) (mTest O (mBin O dNotIn ma mb)) := dt_cmp (op_notInG ha.hK) vop_notIn ha hb hm
end
section
variable {a b c : Expr} {ta tb tc : TE} {ma mb mc : ME O} {pos : Pos}
end
def dIdx : D → D → Option D
  | .lst xs, .int i => atI xs i
  | .tup xs, .int i => atI xs i
  | .str z, .int i => if z.length ≤ 100000 then (atI z.cps.toList i).map fun c => .str ⟨#[c]⟩ else none
  | _, _ => none
theorem Reps.atI {G : Gh} {vs : List V} {ds : List D} {i : Int} {d : D} (r : Reps K G vs ds) (h : L2.atI ds i = some d) : ∃ v, L2.atI vs i = some v ∧ Rep K G v d := by
  unfold L2.atI at h ⊢
  rw [r.length]
  cases e : ixN ds.length i with
  | none => rw [e] at h; cases h
  | some j =>
    rw [e] at h
    exact r.get' h
theorem vop_idx : VOp K (rIx K) dIdx := by
  intro G H x y dx dy d Q g rx ry e q
  unfold dIdx at e
  split at e
  · cases ry
    cases rx with
    | lst hs r =>
      obtain ⟨v, h1, h2⟩ := r.atI e
      exact .inl ⟨_, _, _, v, rfl, rfl, g.seq hs, h1, q _ G H (.refl g) h2⟩
  · cases ry
    cases rx with
    | tup hs r =>
      obtain ⟨v, h1, h2⟩ := r.atI e
      exact .inr (.inl ⟨_, _, _, v, rfl, rfl, g.seqT hs, h1, q _ G H (.refl g) h2⟩)
  · split at e
    · rename_i hz
      rw [Option.map_eq_some_iff] at e
      obtain ⟨c, e, rfl⟩ := e
      cases rx; cases ry
      exact .inr (.inr ⟨_, _, c, rfl, rfl, sz5 hz, e, q _ G H (.refl g) (.str _)⟩)
    · cases e
  · cases e
theorem ix_G (hK : X.K = K) : IxR X (rIx K) := by subst hK; exact ix_seq
theorem de_idx {a b : Expr} {ta tb : TE} {ma mb : ME O} {pos : Pos} (ha : DE K O Wx X a ta ma) (hb : DE K O Wx X b tb mb) (hs : PlainIx b := by exact fun _ _ => rfl) : DE K O Wx X (.Subscript a b pos) (tOp (rIx K) ta tb) (mBin O dIdx ma mb) :=
  ⟨ha.hK, ha.tk, pe_ix (ix_G ha.hK) ha.pe hb.pe hs, snd_op vop_idx ha.sn hb.sn⟩
def cutD (xs : List D) (lo hi : Option Int) : List D := (xs.drop (HT.sIx xs.length 0 lo)).take (HT.sIx xs.length xs.length hi - HT.sIx xs.length 0 lo)
theorem Reps.cut {G : Gh} {vs : List V} {ds : List D} (r : Reps K G vs ds) (lo hi : Option Int) : Reps K G (cutV vs lo hi) (cutD ds lo hi) := by
  unfold cutV cutD
  rw [r.length]
  exact (r.drop _).take _
theorem Reps.cut_whole {G : Gh} {vs : List V} {ds : List D} (r : Reps K G vs ds) {lo hi : Option Int} (z : HT.sIx vs.length 0 lo = 0 ∧ HT.sIx vs.length vs.length hi = vs.length) : cutD ds lo hi = ds := by
  unfold cutD
  rw [← r.length, z.1, z.2, List.drop_zero, Nat.sub_zero, r.length, List.take_length]
def dCut : D → Option Int → Option Int → Option D
  | .lst xs, lo, hi => some (.lst (cutD xs lo hi))
  | .tup xs, lo, hi => some (.tup (cutD xs lo hi))
  | _, _, _ => none
abbrev MO (O : Wo) := Ev → O.S → R O.S (Option Int)
def SndO (K : PySem.W.Frag) (O : Wo) (Wx : WX) (t : TO) (m : MO O) : Prop := ∀ σ ρ H0 G H s Q, Fm K O H0 σ ρ G H s → Pst K O Wx σ G H (fun _ b c => b = c) (m ρ s) Q → t σ H Q
structure DO (K : PySem.W.Frag) (O : Wo) (Wx : WX) (X : Cx) (e : Option Expr) (t : TO) (m : MO O) : Prop where
  hK : X.K = K
  pe : PO X e t
  sn : SndO K O Wx t m
def mNoPart (O : Wo) : MO O := fun _ s => .ok none s
def mPart (O : Wo) (m : ME O) : MO O := fun ρ s => (m ρ s).bind fun x s1 => match x with
  | .int i => .ok (some i) s1
  | _ => .bad
theorem do_none (c : Cn K Wx X) : DO K O Wx X none tNoPart (mNoPart O) := ⟨c.hK, po_none, fun σ ρ H0 G H s Q F h => h none G H (.refl F.gh) F.ok rfl⟩
theorem do_some {e : Expr} {te : TE} {me : ME O} (he : DE K O Wx X e te me) : DO K O Wx X (some e) (tPart te) (mPart O me) := by
  refine ⟨he.hK, po_some he.pe, fun σ ρ H0 G H s Q F h => ?_⟩
  refine he.sn σ ρ H0 G H s _ F (pst_bind h fun dx s1 _ x G1 H1 t1 k1 r1 h1 => ?_)
  cases dx with
  | int i =>
    cases r1
    exact ⟨i, rfl, h1 (some i) G1 H1 (.refl t1.gh) k1 rfl⟩
  | _ => exact (show False from h1).elim
def rSlG (K : PySem.W.Frag) : V → Option Int → Option Int → Hp → VK → Prop := fun x lo hi H Q => rSlL K x lo hi H Q ∨ rSlA K x lo hi H Q
theorem sl_G (hK : X.K = K) : SlR X (rSlG K) := by subst hK; exact sl_list.or sl_tupA
def mSlice (O : Wo) (a : ME O) (l h : MO O) : ME O := fun ρ s => (a ρ s).bind fun x s1 => (l ρ s1).bind fun lo s2 => (h ρ s2).bind fun hi s3 => R.lift (dCut x lo hi) s3
theorem de_slice {e : Expr} {lo hi : Option Expr} {te : TE} {tl th : TO} {me : ME O} {ml mh : MO O} {p2 pos : Pos} (he : DE K O Wx X e te me) (hl : DO K O Wx X lo tl ml) (hh : DO K O Wx X hi th mh) :
    DE K O Wx X (.Subscript e (.Slice lo hi none p2) pos) (tSl (rSlG K) te tl th) (mSlice O me ml mh) := by
  refine ⟨he.hK, he.tk, pe_slice (sl_G he.hK) he.pe hl.pe hh.pe, fun σ ρ H0 G H s Q F h => ?_⟩
  refine he.sn σ ρ H0 G H s _ F (pst_bind h fun dx s1 _ x G1 H1 t1 k1 r1 h1 => ?_)
  have F1 := F.tr t1 k1
  refine hl.sn σ ρ H0 G1 H1 s1 _ F1 (pst_bind h1 fun l s2 _ l' G2 H2 t2 k2 r2 h2 => ?_)
  have F2 := F1.tr t2 k2
  subst r2
  refine hh.sn σ ρ H0 G2 H2 s2 _ F2 (pst_bind h2 fun u s3 _ u' G3 H3 t3 k3 r3 h3 => ?_)
  have F3 := F2.tr t3 k3
  subst r3
  obtain ⟨d, e4, q⟩ := pst_lift F3 h3
  have rx : Rep K G3 x dx := (r1.mono t2.gg).mono t3.gg
  unfold dCut at e4
  split at e4
  · cases e4
    cases rx with
    | lst hs r => exact .inl ⟨_, _, rfl, F3.gh.seq hs, fun p n => q _ _ _ (Tr0.new F3.gh n) (new_lst F3.gh n (r.cut _ _))⟩
  · cases e4
    cases rx with
    | tup hs r =>
      refine .inr ⟨_, _, rfl, F3.gh.seqT hs, fun z => ?_, fun z p n => q _ _ _ (Tr0.new F3.gh n) (new_tup F3.gh n (r.cut _ _))⟩
      rw [r.cut_whole z] at q
      exact q _ G3 H3 (.refl F3.gh) (.tup hs r)
  · cases e4
end
end Mr
namespace Mr
open PySem PySem.Spec PyProof.Rows L2
inductive RS (S : Type) where
  | nx (ρ : Ev) (s : S) | rt (d : D) (s : S) | rn (ds : List D) (s : S) | bk (ρ : Ev) (s : S) | ct (ρ : Ev) (s : S) | err (c : Addr) (fs : List (Str × D)) (ρ : Ev) (s : S) | bad
abbrev MS (O : Wo) := Ev → O.S → RS O.S
/-- a body's frame: what holds of it, and how it came from the def's entry (G0, H0) -/
structure Fs (K : PySem.W.Frag) (O : Wo) (G0 : Gh) (H0 : Hp) (σ : L2.St) (ρ : Ev) (G : Gh) (H : Hp) (s : O.S) : Prop where
  fm : Fm K O H0 σ ρ G H s
  tr : Tr O.W G0 H0 G H
def PstS (K : PySem.W.Frag) (O : Wo) (Wx : WX) (G0 : Gh) (H0 : Hp) (G : Gh) (r : RS O.S) (Dn : Ends) : Prop :=
  match r with
  | .nx ρ s => ∀ σ G' H', Sm G G' → Fs K O G0 H0 σ ρ G' H' s → Dn.nx σ H'
  | .bk ρ s => ∀ σ G' H', Sm G G' → Fs K O G0 H0 σ ρ G' H' s → Dn.bk σ H'
  | .ct ρ s => ∀ σ G' H', Sm G G' → Fs K O G0 H0 σ ρ G' H' s → Dn.ct σ H'
  | .rt d s => ∀ v G' H', Sm G G' → Tr O.W G0 H0 G' H' → O.ok K s G' H' → Rep K G' v d → Dn.rt v H'
  | .rn ds s => ∀ p vs G' H', Sm G G' → Tr O.W G0 H0 G' H' → O.ok K s G' H' → H0 p = none → G' p = none → H' p = some (.lst vs) → Reps K G' vs ds → Dn.rt (.ref p) H'
  | .err c fs ρ s => ∀ σ dd xs G' H', Sm G G' → Fs K O G0 H0 σ ρ G' H' s → XdA H' dd xs → NwA O dd → RepF K G' xs fs → Wx (.ref c) dd σ H'
  | .bad => False
def SndS (K : PySem.W.Frag) (O : Wo) (Wx : WX) (t : TS) (m : MS O) : Prop := ∀ G0 H0 σ ρ G H s Dn, Fs K O G0 H0 σ ρ G H s → PstS K O Wx G0 H0 G (m ρ s) Dn → t Dn σ H
structure DS (K : PySem.W.Frag) (O : Wo) (Wx : WX) (X : Cx) (e : Stmt) (t : TS) (m : MS O) : Prop where
  pe : PS X e t
  sn : SndS K O Wx t m
structure DB (K : PySem.W.Frag) (O : Wo) (Wx : WX) (X : Cx) (e : List Stmt) (t : TS) (m : MS O) : Prop where
  pe : PSs X e t
  sn : SndS K O Wx t m
/-- a body's context -/
structure Cs (K : PySem.W.Frag) (Wx : WX) (X : Cx) : Prop where
  cn : Cn K Wx X
  po : PassesOwn (model X.prog X.w) X.A X.env X.xe
  hc : X.calm = true
  nd : X.N.Nodup
section
variable {K : PySem.W.Frag} {O : Wo} {Wx : WX} {X : Cx} {G0 : Gh} {H0 : Hp} {G : Gh} {H : Hp} {G1 : Gh} {H1 : Hp} {σ : L2.St} {ρ : Ev} {s s1 : O.S}
theorem PstS.shift {r : RS O.S} {Dn : Ends} (e : Sm G G1) (h : PstS K O Wx G0 H0 G r Dn) : PstS K O Wx G0 H0 G1 r Dn := by
  cases r with
  | nx ρ s => exact fun σ G' H' a b => h σ G' H' (e.trans a) b
  | bk ρ s => exact fun σ G' H' a b => h σ G' H' (e.trans a) b
  | ct ρ s => exact fun σ G' H' a b => h σ G' H' (e.trans a) b
  | rt d s => exact fun v G' H' a b => h v G' H' (e.trans a) b
  | rn ds s => exact fun p vs G' H' a b => h p vs G' H' (e.trans a) b
  | err c fs ρ s => exact fun σ dd xs G' H' a b => h σ dd xs G' H' (e.trans a) b
  | bad => exact h
theorem Fs.go (f : Fs K O G0 H0 σ ρ G H s) (t : Tr O.W G H G1 H1) (k : O.ok K s1 G1 H1) : Fs K O G0 H0 σ ρ G1 H1 s1 := ⟨f.fm.tr t k, f.tr.trans t⟩
/-- an expression's outcome becomes a statement's -/
def toS {S α : Type} (r : R S α) (ρ : Ev) (f : α → S → RS S) : RS S := match r with
  | .ok a s => f a s
  | .err c fs s => .err c fs ρ s
  | .bad => .bad
theorem pst_toS {α β : Type} {rel : Gh → β → α → Prop} {r : R O.S α} {f : α → O.S → RS O.S} {Dn : Ends} {Q1 : β → Hp → Prop} (F : Fs K O G0 H0 σ ρ G H s) (h : PstS K O Wx G0 H0 G (toS r ρ f) Dn)
    (k : ∀ a s1, r = .ok a s1 → ∀ v G1 H1, Tr O.W G H G1 H1 → O.ok K s1 G1 H1 → rel G1 v a → PstS K O Wx G0 H0 G1 (f a s1) Dn → Q1 v H1) : Pst K O Wx σ G H rel r Q1 := by
  cases r with
  | ok d s' => exact fun v G' H' t' ko q => k d s' rfl v G' H' t' ko q (PstS.shift t'.gg h)
  | err c fs s' => exact fun dd xs G' H' t' ko e n q => h σ dd xs G' H' t'.gg (F.go t' ko) e n q
  | bad => exact h
@[simp] theorem toS_ok {α : Type} (a : α) (s : O.S) (ρ : Ev) (f : α → O.S → RS O.S) : toS (R.ok a s) ρ f = f a s := rfl
@[simp] theorem toS_err {α : Type} (c : Addr) (fs : List (Str × D)) (s : O.S) (ρ : Ev) (f : α → O.S → RS O.S) : toS (R.err c fs s) ρ f = .err c fs ρ s := rfl
@[simp] theorem toS_bad {α : Type} (ρ : Ev) (f : α → O.S → RS O.S) : toS R.bad ρ f = .bad := rfl
def mNext (O : Wo) : MS O := fun ρ s => .nx ρ s
def seqS {S : Type} (r : RS S) (k : Ev → S → RS S) : RS S := match r with
  | .nx ρ1 s1 => k ρ1 s1
  | r => r
def mSeq (O : Wo) (a b : MS O) : MS O := fun ρ s => seqS (a ρ s) b
theorem db_nil : DB K O Wx X [] tNext (mNext O) := ⟨pss_nil, fun G0 H0 σ ρ G H s Dn F h => h σ G H (Sm.refl _) F⟩
theorem db_one {st : Stmt} {t : TS} {m : MS O} (h : DS K O Wx X st t m) : DB K O Wx X [st] t m := ⟨pss_one h.pe, h.sn⟩
theorem db_cons {st : Stmt} {rest : List Stmt} {t u : TS} {m n : MS O} (h1 : DS K O Wx X st t m) (h2 : DB K O Wx X rest u n) : DB K O Wx X (st :: rest) (tSeq t u) (mSeq O m n) := by
  refine ⟨pss_cons h1.pe h2.pe, fun G0 H0 σ ρ G H s Dn F h => ?_⟩
  refine h1.sn G0 H0 σ ρ G H s _ F ?_
  unfold mSeq seqS at h
  revert h
  cases m ρ s with
  | nx ρ1 s1 => exact fun h σ' G' H' e F' => h2.sn G0 H0 σ' ρ1 G' H' s1 Dn F' (h.shift e)
  | bk ρ s => exact fun h => h
  | ct ρ s => exact fun h => h
  | rt d s => exact fun h => h
  | rn ds s => exact fun h => h
  | err c fs ρ s => exact fun h => h
  | bad => exact fun h => h
def mPass (O : Wo) : MS O := fun ρ s => .nx ρ s
def mBrk (O : Wo) : MS O := fun ρ s => .bk ρ s
def mCnt (O : Wo) : MS O := fun ρ s => .ct ρ s
def mDrop (O : Wo) (m : ME O) : MS O := fun ρ s => toS (m ρ s) ρ fun _ s1 => .nx ρ s1
theorem ds_expr {e : Expr} {te : TE} {me : ME O} {pos : Pos} (he : DE K O Wx X e te me) (hs : swapsWith e none pos.line X.env = pure false := by rfl) : DS K O Wx X (.Expr e pos) (tDrop te) (mDrop O me) := by
  refine ⟨ps_expr he.pe hs, fun G0 H0 σ ρ G H s Dn F h => ?_⟩
  exact he.sn σ ρ H0 G H s _ F.fm (pst_toS F h fun d s1 _ v G1 H1 t1 k1 r1 h1 => h1 σ G1 H1 (Sm.refl _) (F.go t1 k1))
def mRet (O : Wo) (m : ME O) : MS O := fun ρ s => toS (m ρ s) ρ fun d s1 => .rt d s1
def mRetN (O : Wo) : MS O := fun ρ s => .rt .non s
theorem ds_ret {e : Expr} {te : TE} {me : ME O} {pos : Pos} (he : DE K O Wx X e te me) : DS K O Wx X (.Return (some e) pos) (tRet te) (mRet O me) := by
  refine ⟨ps_ret he.pe, fun G0 H0 σ ρ G H s Dn F h => ?_⟩
  exact he.sn σ ρ H0 G H s _ F.fm (pst_toS F h fun d s1 _ v G1 H1 t1 k1 r1 h1 => h1 v G1 H1 (Sm.refl _) (F.tr.trans t1) k1 r1)
def mIfS (O : Wo) (c : MT O) (a b : MS O) : MS O := fun ρ s => toS (c ρ s) ρ fun x s1 => if x = true then a ρ s1 else b ρ s1
theorem ds_if {c : Expr} {a b : List Stmt} {tc : TT} {ta tb : TS} {mc : MT O} {ma mb : MS O} {pos : Pos} (hc : DT K O Wx X c tc mc) (ha : DB K O Wx X a ta ma) (hb : DB K O Wx X b tb mb) : DS K O Wx X (.If c a b pos) (tIfS tc ta tb) (mIfS O mc ma mb) := by
  refine ⟨ps_if hc.pe ha.pe hb.pe, fun G0 H0 σ ρ G H s Dn F h => ?_⟩
  refine hc.sn σ ρ H0 G H s _ F.fm (pst_toS F h fun d s1 _ v G1 H1 t1 k1 r1 h1 => ?_)
  subst r1
  cases v with
  | true => exact ha.sn G0 H0 σ ρ G1 H1 s1 Dn (F.go t1 k1) h1
  | false => exact hb.sn G0 H0 σ ρ G1 H1 s1 Dn (F.go t1 k1) h1
/-- a target: what it does to the slots; is: the slots that it sets -/
def SndG (K : PySem.W.Frag) (O : Wo) (g : TG) (f : D → Ev → Option Ev) (is : List Nat) : Prop := ∀ H0 σ ρ G H (s : O.S) v d ρ' Q, Fm K O H0 σ ρ G H s → Rep K G v d → f d ρ = some ρ' →
  (∀ σ', Fm K O H0 σ' ρ' G H s → (∀ vs, (∀ i ∈ is, i ∈ vs) → wipe σ' vs = wipe σ vs) → Q σ' H) → g v σ H Q
structure DG (K : PySem.W.Frag) (O : Wo) (X : Cx) (e : Expr) (g : TG) (f : D → Ev → Option Ev) (is : List Nat) : Prop where
  pe : PG X e g
  sn : SndG K O g f is
theorem wipe_set {σ : L2.St} {i : Nat} {o : Option V} : ∀ {vs : List Nat}, i ∈ vs → wipe (σ.set i o) vs = wipe σ vs
  | [], h => by cases h
  | v :: vs, h => by
    by_cases hv : i = v
    · subst hv
      unfold wipe
      by_cases hm : i ∈ vs
      · rw [wipe_set hm]
      · have key : ∀ (ws : List Nat), i ∉ ws → wipe (σ.set i o) ws = (wipe σ ws).set i o := by
          intro ws
          induction ws with
          | nil => intro _; rfl
          | cons w ws ih =>
            intro hw
            have h1 : i ≠ w := fun e => hw (by rw [e]; exact List.mem_cons_self)
            unfold wipe
            rw [ih fun e => hw (List.mem_cons_of_mem _ e), List.set_comm _ _ h1]
        rw [key vs hm, List.set_set]
    · have hm : i ∈ vs := by
        rcases List.mem_cons.mp h with e | e
        · exact absurd e hv
        · exact e
      unfold wipe
      rw [wipe_set hm]
def fName (i : Nat) : D → Ev → Option Ev := fun d ρ => some (ρ.set i (.sh d))
theorem dg_name (i : Nat) {x : Str} {pos : Pos} (hN : X.N.Nodup) (hi : X.N[i]? = some x := by rfl) (hx : Loc X.env.scope x := by first | exact Or.inl rfl | exact Or.inr rfl) (hf : X.fn x = true ∨ X.env.scope.names.lookup x = some .local := by first | exact .inl rfl | exact .inr rfl | assumption) :
    DG K O X (.Name x pos) (gName i) (fName i) [i] := by
  refine ⟨pg_name hN hi hx hf, fun H0 σ ρ G H s v d ρ' Q F r e q => ?_⟩
  cases e
  exact q _ (F.set r) fun vs hv => wipe_set (hv i (by simp))
def SndGs (K : PySem.W.Frag) (O : Wo) (g : TGs) (f : List D → Ev → Option Ev) (is : List Nat) : Prop := ∀ H0 σ ρ G H (s : O.S) v d ρ' Q, Fm K O H0 σ ρ G H s → Reps K G v d → f d ρ = some ρ' →
  (∀ σ', Fm K O H0 σ' ρ' G H s → (∀ vs, (∀ i ∈ is, i ∈ vs) → wipe σ' vs = wipe σ vs) → Q σ' H) → g v σ H Q
structure DGs (K : PySem.W.Frag) (O : Wo) (X : Cx) (e : List Expr) (g : TGs) (f : List D → Ev → Option Ev) (is : List Nat) : Prop where
  pe : PGs X e g
  sn : SndGs K O g f is
def fNil : List D → Ev → Option Ev
  | [], ρ => some ρ
  | _ :: _, _ => none
def fCons (f : D → Ev → Option Ev) (g : List D → Ev → Option Ev) : List D → Ev → Option Ev
  | [], _ => none
  | d :: ds, ρ => (f d ρ).bind fun ρ1 => g ds ρ1
theorem dgs_nil : DGs K O X [] gNil fNil [] := by
  refine ⟨pgs_nil, fun H0 σ ρ G H s v d ρ' Q F r e q => ?_⟩
  cases r with
  | nil => cases e; exact ⟨rfl, q σ F fun _ _ => rfl⟩
  | cons _ _ => cases e
theorem dgs_cons {e : Expr} {es : List Expr} {t : TG} {u : TGs} {f : D → Ev → Option Ev} {g : List D → Ev → Option Ev} {is js : List Nat} (h1 : DG K O X e t f is) (h2 : DGs K O X es u g js)
    (hs : (assignEach (e :: es) X.env).map (·.2) = assign e X.env :: (assignEach es X.env).map (·.2) := by rfl) : DGs K O X (e :: es) (gCons t u) (fCons f g) (is ++ js) := by
  refine ⟨pgs_cons h1.pe h2.pe hs, fun H0 σ ρ G H s v d ρ' Q F r e q => ?_⟩
  cases r with
  | nil => cases e
  | @cons v d vs ds r rr =>
    simp only [fCons, Option.bind_eq_some_iff] at e
    obtain ⟨ρ1, e1, e2⟩ := e
    refine ⟨v, vs, rfl, h1.sn H0 σ ρ G H s v d ρ1 _ F r e1 fun σ1 F1 w1 => ?_⟩
    exact h2.sn H0 σ1 ρ1 G H s vs ds ρ' _ F1 rr e2 fun σ2 F2 w2 => q σ2 F2 fun ws hw => by
      rw [w2 ws fun i hi => hw i (List.mem_append_right _ hi), w1 ws fun i hi => hw i (List.mem_append_left _ hi)]
def fTup (n : Nat) (g : List D → Ev → Option Ev) : D → Ev → Option Ev
  | .tup xs, ρ => if xs.length = n then g xs ρ else none
  | _, _ => none
theorem dg_tup {es : List Expr} {k : Nat} {t : TGs} {g : List D → Ev → Option Ev} {is : List Nat} {n : Nat} {pos : Pos} (hK : X.K = K) (hc : X.calm = true) (h : DGs K O X es t g is)
    (hn : (assignEach es X.env).length = n := by rfl) (hst : (assignEach es X.env).findIdx? (·.1) = none := by rfl) : DG K O X (.Tuple es k pos) (gTup K n t) (fTup n g) is := by
  subst hK
  refine ⟨pg_tup hc h.pe hn hst, fun H0 σ ρ G H s v d ρ' Q F r e q => ?_⟩
  cases r with
  | tup hs r =>
    simp only [fTup] at e
    split at e
    · rename_i hl
      exact ⟨_, _, rfl, F.gh.seqT hs, r.length.trans hl, h.sn H0 σ ρ G H s _ _ ρ' _ F r e q⟩
    · cases e
  | _ => cases e
def mAsg (O : Wo) (m : ME O) (f : D → Ev → Option Ev) : MS O := fun ρ s => toS (m ρ s) ρ fun d s1 => match f d ρ with
  | some ρ1 => .nx ρ1 s1
  | none => .bad
theorem snd_asg {te : TE} {me : ME O} {g : TG} {f : D → Ev → Option Ev} {is : List Nat} (he : SndE K O Wx te me) (hg : SndG K O g f is) : SndS K O Wx (tAsg te g) (mAsg O me f) := by
  intro G0 H0 σ ρ G H s Dn F h
  refine he σ ρ H0 G H s _ F.fm (pst_toS F h fun d s1 _ v G1 H1 t1 k1 r1 h1 => ?_)
  have F1 := F.go t1 k1
  cases e : f d ρ with
  | none => rw [e] at h1; exact (show False from h1).elim
  | some ρ1 =>
    rw [e] at h1
    exact hg H0 σ ρ G1 H1 s1 v d ρ1 _ F1.fm r1 e fun σ' F' _ => h1 σ' G1 H1 (Sm.refl _) ⟨F', F1.tr⟩
theorem ds_set (i : Nat) {x : Str} {e : Expr} {te : TE} {me : ME O} {pos pos' : Pos} (hN : X.N.Nodup) (he : DE K O Wx X e te me) (hi : X.N[i]? = some x := by rfl) (hx : Loc X.env.scope x := by first | exact Or.inl rfl | exact Or.inr rfl) (hs : swapsWith e (some (.Name x pos')) pos.line X.env = pure false := by rfl)
    (hf : X.fn x = true ∨ X.env.scope.names.lookup x = some .local := by first | exact .inl rfl | exact .inr rfl | assumption) : DS K O Wx X (.Assign [.Name x pos'] e pos) (tAsg te (gName i)) (mAsg O me (fName i)) :=
  ⟨ps_set hN hi hx he.pe hs hf, snd_asg he.sn (dg_name (K := K) (O := O) (X := X) (pos := pos') i hN hi hx hf).sn⟩
theorem ds_asg {tg e : Expr} {te : TE} {me : ME O} {g : TG} {f : D → Ev → Option Ev} {is : List Nat} {pos : Pos} (he : DE K O Wx X e te me) (hg : DG K O X tg g f is) (hs : swapsWithSole [tg] e pos.line X.env = pure false := by rfl) (hw : swappedStores [tg] e X.env = pure none := by rfl)
    (h1 : (assignEach [tg] X.env).map (·.2) = [assign tg X.env] := by rfl) : DS K O Wx X (.Assign [tg] e pos) (tAsg te g) (mAsg O me f) := ⟨ps_asg he.pe hg.pe hs hw h1, snd_asg he.sn hg.sn⟩
/-- a, b = x, y -/
def mPar (O : Wo) (i j : Nat) (m : MA O) : MS O := fun ρ s => toS (m ρ s) ρ fun ds s1 => match ds with
  | [a, b] => .nx ((ρ.set i (.sh a)).set j (.sh b)) s1
  | _ => .bad
def mAug (O : Wo) (i : Nat) (f : D → D → Option D) (m : ME O) : MS O := fun ρ s => match ρ[i]? with
  | some (.sh x) => toS (m ρ s) ρ fun y s1 => match f x y with
    | some z => .nx (ρ.set i (.sh z)) s1
    | none => .bad
  | _ => .bad
theorem ds_aug (i : Nat) {x : Str} {e : Expr} {te : TE} {me : ME O} {op : Operator} {ti : TIp} {f : D → D → Option D} {pos pos' : Pos} (hN : X.N.Nodup) (ho : PIp X op ti) (hv : VOp K ti f) (he : DE K O Wx X e te me) (hi : X.N[i]? = some x := by rfl) (hx : Loc X.env.scope x := by first | exact Or.inl rfl | exact Or.inr rfl)
    (hf : X.fn x = true ∨ X.env.scope.names.lookup x = some .local := by first | exact .inl rfl | exact .inr rfl | assumption) : DS K O Wx X (.AugAssign (.Name x pos') op e pos) (tAug i te ti) (mAug O i f me) := by
  refine ⟨ps_aug hN hi hx he.pe ho hf, fun G0 H0 σ ρ G H s Dn F h => ?_⟩
  unfold mAug at h
  split at h
  · rename_i dx e1
    obtain ⟨v, ev, r⟩ := F.fm.get e1
    refine ⟨v, ev, he.sn σ ρ H0 G H s _ F.fm (pst_toS F h fun d s1 _ y G1 H1 t1 k1 r1 h1 => ?_)⟩
    have F1 := F.go t1 k1
    cases e2 : f dx d with
    | none => rw [e2] at h1; exact (show False from h1).elim
    | some z =>
      rw [e2] at h1
      refine hv G1 H1 v y dx d z _ F1.fm.gh (r.mono t1.gg) r1 e2 fun w G2 H2 t2 r2 => ?_
      have F2 := F1.go t2.up (F1.fm.keepW t2)
      exact h1 _ G2 H2 t2.gg ⟨F2.fm.set r2, F2.tr⟩
  · exact h.elim
/-- the iterator J gives the items, one by one -/
def ItOk (K : PySem.W.Frag) (J : It) (G : Gh) (items : List D) : Prop := ∀ G1 H, Sm G G1 → Sh G1 H → ∀ i : Nat,
  (∀ d, items[i]? = some d → J.go i H ∧ ∀ x H', J.yld i H x H' → ∃ G2, Tr0 G1 H G2 H' ∧ Rep K G2 x d) ∧ (items.length ≤ i → J.stop i H)
abbrev MI (O : Wo) := Ev → O.S → R O.S (List D)
def SndI (K : PySem.W.Frag) (O : Wo) (Wx : WX) (w : TI) (m : MI O) : Prop := ∀ σ ρ H0 G H s Q, Fm K O H0 σ ρ G H s → Pst K O Wx σ G H (fun G' J items => ItOk K J G' items) (m ρ s) Q → w σ H Q
structure DI (K : PySem.W.Frag) (O : Wo) (Wx : WX) (X : Cx) (tg e : Expr) (w : TI) (m : MI O) : Prop where
  pe : PI X tg e w
  sn : SndI K O Wx w m
theorem it_list {a : Addr} {vs : List V} {ds : List D} (hs : SqL K (fr G) a vs) (r : Reps K G vs ds) : ItOk K (Itl K a) G ds := fun G1 H e1 e2 i => by
  have h1 : SqL K H a vs := e2.seq (e1.seq hs)
  refine ⟨fun d hd => ?_, fun hl => ⟨vs, h1, by rw [r.length]; exact hl⟩⟩
  obtain ⟨v, hv, rv⟩ := r.get' hd
  refine ⟨⟨vs, v, h1, hv⟩, fun x H' y => ?_⟩
  obtain ⟨e, y⟩ := y
  subst e
  have := y vs h1
  rw [hv] at this
  cases this
  exact ⟨G1, .refl e2, rv.mono e1⟩
theorem it_tup {a : Addr} {vs : List V} {ds : List D} (hs : SqC K (fr G) a vs) (r : Reps K G vs ds) : ItOk K (Itt K a) G ds := fun G1 H e1 e2 i => by
  have h1 : SqT K H a vs := e2.seqT (e1.seqC hs)
  refine ⟨fun d hd => ?_, fun hl => ⟨vs, h1, by rw [r.length]; exact hl⟩⟩
  obtain ⟨v, hv, rv⟩ := r.get' hd
  refine ⟨⟨vs, v, h1, hv⟩, fun x H' y => ?_⟩
  obtain ⟨e, y⟩ := y
  subst e
  have := y vs h1
  rw [hv] at this
  cases this
  exact ⟨G1, .refl e2, rv.mono e1⟩
/-- the ints lo, lo + 1, .., n of them -/
def rangeD (lo : Int) (n : Nat) : List D := (List.range n).map fun (i : Nat) => .int (lo + (i : Int))
theorem it_range {lo : Int} {n : Nat} : ItOk K (Itr lo n) G (rangeD lo n) := fun G1 H e1 e2 i => by
  unfold rangeD
  refine ⟨fun d hd => ?_, fun hl => show n ≤ i by simpa using hl⟩
  rw [List.getElem?_map, Option.map_eq_some_iff] at hd
  obtain ⟨j, hj, rfl⟩ := hd
  obtain ⟨h1, h2⟩ := List.getElem?_eq_some_iff.mp hj
  rw [List.length_range] at h1
  rw [List.getElem_range] at h2
  subst h2
  refine ⟨h1, fun x H' y => ?_⟩
  obtain ⟨e, y⟩ := y
  subst e y
  exact ⟨G1, .refl e2, .int _⟩
def asList : D → Option (List D)
  | .lst xs => some xs
  | _ => none
def asTup : D → Option (List D)
  | .tup xs => some xs
  | _ => none
def mItL (O : Wo) (m : ME O) : MI O := fun ρ s => (m ρ s).bind fun x s1 => R.lift (asList x) s1
def mItT (O : Wo) (m : ME O) : MI O := fun ρ s => (m ρ s).bind fun x s1 => R.lift (asTup x) s1
def mRng1 (O : Wo) (m : MA O) : MI O := fun ρ s => (m ρ s).bind fun xs s1 => match xs with
  | [.int j] => if j ≤ 100000 ∧ -100000 ≤ j then .ok (rangeD 0 j.toNat) s1 else .bad
  | _ => .bad
theorem di_range1 {tg a : Expr} {ta : TA} {ma : MA O} {p pos : Pos} (hm : X.mg "range" = none) (ha : DA K O Wx X [a] ta ma) (hg : Gl X "range" := by rfl) (hs : starEach [a] X.env = [(false, eval a X.env)] := by rfl) : DI K O Wx X tg (.Call (.Name "range" p) [a] [] pos) (iRng1 ta) (mRng1 O ma) := by
  refine ⟨pi_range1 hg hm ha.pe hs, fun σ ρ H0 G H s Q F h => ?_⟩
  refine ha.sn σ ρ H0 G H s _ F (pst_bind h fun ds s1 _ x G1 H1 t1 k1 r1 h1 => ?_)
  split at h1
  · rename_i j
    cases r1 with
    | cons r1 r2 =>
      cases r2
      cases r1
      split at h1
      · rename_i hj
        exact ⟨_, rfl, by omega, by omega, h1 _ G1 H1 (.refl t1.gh) k1 it_range⟩
      · exact (show False from h1).elim
  · exact (show False from h1).elim
def forL (S : Type) (f : D → Ev → Option Ev) (mb : Ev → S → RS S) : List D → Ev → S → RS S
  | [], ρ, s => .nx ρ s
  | d :: ds, ρ, s => match f d ρ with
    | none => .bad
    | some ρ1 => match mb ρ1 s with
      | .nx ρ2 s2 => forL S f mb ds ρ2 s2
      | .ct ρ2 s2 => forL S f mb ds ρ2 s2
      | .bk ρ2 s2 => .nx ρ2 s2
      | r => r
def mFor (O : Wo) (mi : MI O) (f : D → Ev → Option Ev) (mb : MS O) : MS O := fun ρ s => toS (mi ρ s) ρ fun items s1 => forL O.S f mb items ρ s1
theorem ds_for {tg iter : Expr} {body : List Stmt} {wi : TI} {g : TG} {tb : TS} {mi : MI O} {f : D → Ev → Option Ev} {is : List Nat} {mb : MS O} {pos : Pos} (c : Cs K Wx X) (hi : DI K O Wx X tg iter wi mi) (hg : DG K O X tg g f is) (hb : DB K O Wx X body tb mb)
    (hs : ∀ x, foldedSetIterable iter X.env x = pure x := by intro _; rfl) : DS K O Wx X (.For tg iter body [] pos) (tFor wi g tb) (mFor O mi f mb) := by
  refine ⟨ps_for c.po c.hc hi.pe hg.pe hb.pe hs, fun G0 H0 σ ρ G H s Dn F h => ?_⟩
  refine hi.sn σ ρ H0 G H s _ F.fm (pst_toS F h fun items s1 _ J G1 H1 t1 k1 ok h1 => ?_)
  refine ⟨fun i m σ' H' => ∃ ρ' G' s', m = (items.drop i).length ∧ Sm G1 G' ∧ Fs K O G0 H0 σ' ρ' G' H' s' ∧ PstS K O Wx G0 H0 G' (forL O.S f mb (items.drop i) ρ' s') Dn, ⟨items.length, ρ, G1, s1, by simp, Sm.refl _, F.go t1 k1, by simpa using h1⟩, ?_⟩
  rintro i m σ' H' ⟨ρ', G', s', rfl, e1, F', h'⟩
  obtain ⟨ok1, ok2⟩ := ok G' H' e1 F'.fm.gh i
  cases hd : items.drop i with
  | nil =>
    rw [hd] at h'
    exact .inl ⟨ok2 (by simpa using hd), h' σ' G' H' (Sm.refl _) F'⟩
  | cons d ds =>
    have hlt : i < items.length := by
      by_cases z : i < items.length
      · exact z
      · rw [List.drop_eq_nil_of_le (by omega)] at hd; cases hd
    have hi? : items[i]? = some d := by
      have := List.drop_eq_getElem_cons hlt
      rw [hd] at this
      injection this with a b
      rw [List.getElem?_eq_getElem hlt, a]
    have hds : items.drop (i + 1) = ds := by
      have := List.drop_eq_getElem_cons hlt
      rw [hd] at this
      injection this with a b
      exact b.symm
    obtain ⟨go, yl⟩ := ok1 d hi?
    rw [hd] at h'
    refine .inr ⟨go, fun σ2 H2 => ∃ ρ2 G2 s2, Sm G1 G2 ∧ Fs K O G0 H0 σ2 ρ2 G2 H2 s2 ∧ PstS K O Wx G0 H0 G2 (forL O.S f mb ds ρ2 s2) Dn, ?_, fun x H2 y => ?_⟩
    · rintro σ2 H2 ⟨ρ2, G2, s2, a1, a2, a3⟩
      exact ⟨ds.length, by simp, ρ2, G2, s2, by rw [hds], a1, a2, by rw [hds]; exact a3⟩
    · obtain ⟨G2, t2, r2⟩ := yl x H2 y
      have F2 := F'.go t2.up (F'.fm.keepW t2)
      unfold forL at h'
      cases ef : f d ρ' with
      | none => rw [ef] at h'; exact (show False from h').elim
      | some ρ1 =>
        rw [ef] at h'
        refine hg.sn H0 σ' ρ' G2 H2 s' x d ρ1 _ F2.fm r2 ef fun σ3 F3 _ => ?_
        refine hb.sn G0 H0 σ3 ρ1 G2 H2 s' _ ⟨F3, F2.tr⟩ ?_
        have h2 := PstS.shift t2.gg h'
        revert h2
        dsimp only
        cases mb ρ1 s' with
        | nx ρ2 s2 => exact fun h2 σ4 G4 H4 a b => ⟨ρ2, G4, s2, (e1.trans t2.gg).trans a, b, h2.shift a⟩
        | ct ρ2 s2 => exact fun h2 σ4 G4 H4 a b => ⟨ρ2, G4, s2, (e1.trans t2.gg).trans a, b, h2.shift a⟩
        | bk ρ2 s2 => exact fun h2 => h2
        | rt d s => exact fun h2 => h2
        | rn ds s => exact fun h2 => h2
        | err c fs ρ s => exact fun h2 => h2
        | bad => exact fun h2 => h2
def whileL (S : Type) (mc : Ev → S → R S Bool) (mb : Ev → S → RS S) : Nat → Ev → S → RS S
  | 0, _, _ => .bad
  | n + 1, ρ, s => toS (mc ρ s) ρ fun b s1 => if b = true then match mb ρ s1 with
      | .nx ρ2 s2 => whileL S mc mb n ρ2 s2
      | .ct ρ2 s2 => whileL S mc mb n ρ2 s2
      | .bk ρ2 s2 => .nx ρ2 s2
      | r => r
    else .nx ρ s1
def mWhile (O : Wo) (fu : Ev → O.S → Nat) (mc : MT O) (mb : MS O) : MS O := fun ρ s => whileL O.S mc mb (fu ρ s) ρ s
theorem ds_while (fu : Ev → O.S → Nat) {cnd : Expr} {body : List Stmt} {tc : TT} {tb : TS} {mc : MT O} {mb : MS O} {pos : Pos} (c : Cs K Wx X) (hc : DT K O Wx X cnd tc mc) (hb : DB K O Wx X body tb mb) : DS K O Wx X (.While cnd body [] pos) (tWhile tc tb) (mWhile O fu mc mb) := by
  refine ⟨ps_while c.po hc.pe hb.pe, fun G0 H0 σ ρ G H s Dn F h => ?_⟩
  refine ⟨fun m σ' H' => ∃ ρ' G' s', Fs K O G0 H0 σ' ρ' G' H' s' ∧ PstS K O Wx G0 H0 G' (whileL O.S mc mb m ρ' s') Dn, ⟨fu ρ s, ρ, G, s, F, h⟩, ?_⟩
  rintro m σ' H' ⟨ρ', G', s', F', h'⟩
  cases m with
  | zero => exact (show False from h').elim
  | succ n =>
    unfold whileL at h'
    refine hc.sn σ' ρ' H0 G' H' s' _ F'.fm (pst_toS F' h' fun b s1 _ v G1 H1 t1 k1 r1 h1 => ?_)
    subst r1
    have F1 := F'.go t1 k1
    cases v with
    | false => exact h1 σ' G1 H1 (Sm.refl _) F1
    | true =>
      refine ⟨fun σ2 H2 => ∃ ρ2 G2 s2, Fs K O G0 H0 σ2 ρ2 G2 H2 s2 ∧ PstS K O Wx G0 H0 G2 (whileL O.S mc mb n ρ2 s2) Dn, ?_, ?_⟩
      · rintro σ2 H2 ⟨ρ2, G2, s2, a2, a3⟩
        exact ⟨n, by omega, ρ2, G2, s2, a2, a3⟩
      · refine hb.sn G0 H0 σ' ρ' G1 H1 s1 _ F1 ?_
        revert h1
        simp only [if_true]
        cases mb ρ' s1 with
        | nx ρ2 s2 => exact fun h2 σ4 G4 H4 a b => ⟨ρ2, G4, s2, b, h2.shift a⟩
        | ct ρ2 s2 => exact fun h2 σ4 G4 H4 a b => ⟨ρ2, G4, s2, b, h2.shift a⟩
        | bk ρ2 s2 => exact fun h2 => h2
        | rt d s => exact fun h2 => h2
        | rn ds s => exact fun h2 => h2
        | err c fs ρ s => exact fun h2 => h2
        | bad => exact fun h2 => h2
end
def runF (O : Wo) (n : Nat) (m : MS O) : List D → O.S → R O.S D := fun ds s => match m (ds.map .sh ++ List.replicate (n - ds.length) .no) s with
  | .nx _ s1 => .ok .non s1
  | .rt d s1 => .ok d s1
  | .rn ds s1 => .ok (.lst ds) s1
  | .err c fs _ s1 => .err c fs s1
  | _ => .bad
/-- what was kept apart never changes any more -/
theorem Tr.frz {W : Addr → Prop} {G : Gh} {H : Hp} {G' : Gh} {H' : Hp} {p : Addr} {o : HO} (t : Tr W G H G' H') (n : H p = none) (g : G' p = none) (h : H' p = some o) : Tr W G H (up G' p o) H' := by
  refine ⟨t.gg.trans (Sm.up g), fun b u e => ?_, fun b e => ?_, t.kp, t.dm, t.fz⟩
  · by_cases hb : b = p
    · subst hb; rw [up_same] at e; cases e; exact .of h
    · rw [up_ne hb] at e; exact t.gh b u e
  · by_cases hb : b = p
    · subst hb; exact .inr n
    · rw [up_ne hb] at e; exact t.gr b e
theorem sh_up {G : Gh} {H : Hp} {p : Addr} {o : HO} (g : Sh G H) (h : H p = some o) : Sh (up G p o) H := fun b u e => by
  by_cases hb : b = p
  · subst hb; rw [up_same] at e; cases e; exact .of h
  · rw [up_ne hb] at e; exact g b u e
theorem ok_up {K : PySem.W.Frag} {O : Wo} {s : O.S} {G : Gh} {H : Hp} {p : Addr} {o : HO} (k : O.ok K s G H) (g : G p = none) : O.ok K s (up G p o) H :=
  O.loc K s G H _ H (Sx.up g) (fun b n e => mk_up e) (fun _ _ => rfl) k
theorem ok_off {K : PySem.W.Frag} {O : Wo} {s : O.S} {G : Gh} {H : Hp} {p : Addr} {o : HO} (k : O.ok K s G H) (g : G p = none) (w : ¬ O.W p) : O.ok K s G (upd H p o) :=
  O.loc K s G H G _ (Sx.refl _) (fun _ _ e => e) (fun a h => upd_ne (by
    rintro rfl
    rcases h with h | ⟨n, h⟩
    · exact w h
    · exact h.none g)) k
theorem nW_of {K : PySem.W.Frag} {O : Wo} {s : O.S} {G : Gh} {H : Hp} {p : Addr} (k : O.ok K s G H) (n : H p = none) : ¬ O.W p := fun w => O.dom K s G H p k w n
theorem frz_rep {K : PySem.W.Frag} {G : Gh} {p : Addr} {vs : List V} {ds : List D} (g : G p = none) (r : Reps K G vs ds) : Rep K (up G p (.lst vs)) (.ref p) (.lst ds) :=
  .lst sqL_new (r.mono (Sm.up g))
section
variable {P : Program} {w : World} {K : PySem.W.Frag} {mg : Str → Option Value} {base : Heap} {O : Wo}
theorem start_fm {H0 : Hp} {G : Gh} {H : Hp} {s : O.S} (g : Sh G H) (wg : ∀ a, O.W a → G a = none) (ok : O.ok K s G H) {n : Nat} {N : List Str} (hn : N.length = n) : ∀ {vs : List V} {ds : List D}, Reps K G vs ds → Fm K O H0 (L2.start N vs) (ds.map .sh ++ List.replicate (n - ds.length) .no) G H s := by
  intro vs ds r
  subst hn
  have hl := r.length
  refine ⟨g, wg, ok, by simp [L2.start, hl], fun i o x a b => ?_, fun i j p x y hij a b c => ?_⟩
  · unfold L2.start at a
    by_cases hi : i < vs.length
    · rw [List.getElem?_append_left (by simpa using hi), List.getElem?_map] at a
      rw [List.getElem?_append_left (by rw [List.length_map, ← hl]; exact hi), List.getElem?_map] at b
      rw [Option.map_eq_some_iff] at a b
      obtain ⟨v, ha, rfl⟩ := a
      obtain ⟨d, hb, rfl⟩ := b
      obtain ⟨d', h1, h2⟩ := r.get ha
      rw [hb] at h1
      cases h1
      exact ⟨v, rfl, h2⟩
    · rw [List.getElem?_append_right (by rw [List.length_map, ← hl]; omega)] at b
      have := List.mem_of_getElem? b
      rw [List.mem_replicate] at this
      rw [this.2]
      trivial
  · have hx : isOwn x = false := by
      have := List.mem_of_getElem? a
      rw [List.mem_append] at this
      rcases this with q | q
      · rw [List.mem_map] at q
        obtain ⟨d, _, rfl⟩ := q
        rfl
      · rw [List.mem_replicate] at q
        rw [q.2]
        rfl
    rw [hx] at c
    cases c
theorem fo_mk {x qual : Str} {st : Stmt} {f : Addr} {fd : FuncData} {N ps : List Str} {k : Nat} {m : MS O} (F : Fun K x qual st f fd) (S : FnScope N ps (defScope st)) (hg : mg x = some (.ref f)) (hb : Binds K fd ps [])
    (hbody : ∀ (cdv : Value) (A : Around) (outer : List Env) (s : Shared) (H : Hp) (E : XK), Room k (A.deeper (envOfC qual (defScope st) s.heap.objs.size f cdv)) →
      Cs K (fun cls d _ H => E cls d H) (cxOf (L2.CX P w) P w K mg base N qual (defScope st) f cdv A outer s H E) →
      ∃ t, DB K O (fun cls d _ H => E cls d H) (cxOf (L2.CX P w) P w K mg base N qual (defScope st) f cdv A outer s H E) (defBody st) t m) : Fo P w K mg base O (k + 1) x ps.length (runF O N.length m) := by
  refine ⟨f, fd, ps, F.okX S (fun vs H Q E h => h.1) (fun cdv A outer s H vs Q E hr h => ?_), hg, F.kp, hb⟩
  obtain ⟨hl, G, ds, s0, g, wg, ok, r, q⟩ := h
  have tk : Takes (cxOf (L2.CX P w) P w K mg base N qual (defScope st) f cdv A outer s H E) (fun cls d _ H => E cls d H) := takes_of rfl rfl rfl rfl
  obtain ⟨t, hd⟩ := hbody cdv A outer s H E hr ⟨⟨rfl, tk⟩, passes_of rfl, rfl, S.nd⟩
  refine ⟨t, hd.pe, hd.sn G H _ _ G H s0 _ ⟨start_fm g wg ok rfl r, .refl g⟩ ?_⟩
  unfold runF at q
  revert q
  cases m (ds.map .sh ++ List.replicate (N.length - ds.length) .no) s0 with
  | nx ρ s1 => exact fun q σ' G' H' e F' => q .non G' H' F'.tr F'.fm.ok .non
  | rt d s1 => exact fun q v G' H' e t' k' r' => q v G' H' t' k' r'
  | rn ds s1 => exact fun q p vs G' H' e t' k' n g hp r' => q (.ref p) _ H' (t'.frz n g hp) (ok_up k' g) (frz_rep g r')
  | err c fs ρ s1 => exact fun q σ' dd xs G' H' e F' a b c' => q dd xs G' H' F'.tr F'.fm.ok a b c'
  | bk ρ s1 => exact fun q => q.elim
  | ct ρ s1 => exact fun q => q.elim
  | bad => exact fun q => q.elim
theorem Fo.imp {k n : Nat} {x : Str} {m m' : List D → O.S → R O.S D} (F : Fo P w K mg base O k x n m) (h : ∀ ds s, ds.length = n → m' ds s = .bad ∨ m ds s = m' ds s) : Fo P w K mg base O k x n m' := by
  obtain ⟨f, fd, ps, Fn, hm, kp, bi⟩ := F.ex
  refine ⟨f, fd, ps, Fn.imp fun vs H Q E q => ?_, hm, kp, bi⟩
  obtain ⟨hl, G, ds, s0, g, wg, ok, r, q⟩ := q
  refine ⟨hl, G, ds, s0, g, wg, ok, r, ?_⟩
  rcases h ds s0 (r.length.symm.trans hl) with e | e
  · rw [e] at q; exact q.elim
  · rw [e]; exact q
theorem Fo.mono {k j n : Nat} {x : Str} {m : List D → O.S → R O.S D} (F : Fo P w K mg base O k x n m) (h : k ≤ j) : Fo P w K mg base O j x n m := by
  obtain ⟨f, fd, ps, Fn, hm, kp, bi⟩ := F.ex
  exact ⟨f, fd, ps, Fn.mono h, hm, kp, bi⟩
end
end Mr
namespace Mr
open PySem PySem.Spec PyProof.Rows L2 RZ
structure Sr where
  k : Bool
  it : Addr
  l : Addr
def It01 (k : Bool) (h : Heap) (it l : Addr) (i : Nat) : Prop := match k with
  | true => h.IsListIter it l i
  | false => h.IsTupleIter it l i
def Sq01 (k : Bool) (h : Heap) (l : Addr) (xs : Array Value) : Prop := match k with
  | true => h.IsList l xs
  | false => h.IsTuple l xs
theorem It01.at {k : Bool} {h h' : Heap} {it l : Addr} {i : Nat} (x : It01 k h it l i) (e : ∀ o, h.get? it = some o → h'.get? it = some o) : It01 k h' it l i := by
  cases k
  · exact Heap.IsTupleIter.at x e
  · exact Heap.IsListIter.at x e
theorem It01.obj {k : Bool} {h : Heap} {it l : Addr} {i : Nat} (x : It01 k h it l i) : ∃ o, h.get? it = some o ∧ o.data = .fields #[.ref l, .int i 0] := by
  cases k <;> exact let ⟨o, e, _, d⟩ := x; ⟨o, e, d⟩
theorem Sq01.at {k : Bool} {h h' : Heap} {l : Addr} {xs : Array Value} (x : Sq01 k h l xs) (e : ∀ o, h.get? l = some o → h'.get? l = some o) : Sq01 k h' l xs := by
  cases k <;> exact let ⟨o, ho, r⟩ := x; ⟨o, e o ho, r⟩
def itO (k : Bool) (l : Addr) : Obj := match k with
  | true => { cls := .type "list_iterator", data := .fields #[.ref l, .int 0 0] }
  | false => { cls := .type "tuple_iterator", data := .fields #[.ref l, .int 0 0] }
abbrev tupO (xs : Array Value) : Obj := { cls := .type "tuple", data := .seq xs }
section
variable {prog : Program} {w : World} {A : Around} {E : Value → Shared → Prop} {s : Shared}
theorem next01_item {k : Bool} {it l : Addr} {i : Nat} {items : Array Value} {x : Value} {Q : Value → Shared → Prop} (hit : It01 k s.heap it l i)
    (hl : Sq01 k s.heap l items) (hx : items[i]? = some x) (hQ : ∀ h', It01 k h' it l (i + 1) → Heap.SameBut it s.heap h' → Q x { s with heap := h' }) :
    wpAny (model prog w) A (Builtin.SmallTypes.nextOf (.ref it)) Q E s := by
  cases k
  · exact nextOf_tuple_item hit hl hx hQ
  · exact wpAny_nextOf_list_item hit hl hx hQ
theorem next01_end {k : Bool} {it l : Addr} {i : Nat} {items : Array Value} {Q : Value → Shared → Prop} (hh : A.handled = none)
    (hit : It01 k s.heap it l i) (hl : Sq01 k s.heap l items) (hx : items[i]? = none)
    (hE : ∀ h' e, Heap.ExtBut it s.heap h' → (∃ o, h'.get? e = some o ∧ o.cls = .type "StopIteration") → E (.ref e) { s with heap := h' }) :
    wpAny (model prog w) A (Builtin.SmallTypes.nextOf (.ref it)) Q E s := by
  cases k
  · exact nextOf_tuple_end hh hit hl hx hE
  · exact wpAny_nextOf_list_end hh hit hl hx hE
theorem iter01 {k : Bool} {l : Addr} {items : Array Value} {Q : Value → Shared → Prop} (hl : Sq01 k s.heap l items)
    (hQ : Q (.ref s.heap.objs.size) { s with heap := s.heap.push (itO k l) }) :
    wpAny (model prog w) A (pyIter (.ref l)) Q E s := by
  cases k
  · exact wpAny_pyIter_tuple hl hQ
  · exact wpAny_pyIter_list hl hQ
end
/-- each source has one more item -/
inductive AtI (h : Heap) (i : Nat) : List Sr → List Value → Prop
  | nil : AtI h i [] []
  | cons {r : Sr} {rs : List Sr} {x : Value} {xs : List Value} {items : Array Value} : It01 r.k h r.it r.l i → Sq01 r.k h r.l items → items[i]? = some x → AtI h i rs xs → AtI h i (r :: rs) (x :: xs)
/-- some source has no more items -/
inductive EndI (h : Heap) (i : Nat) : List Sr → Prop
  | here {r : Sr} {rs : List Sr} {items : Array Value} : It01 r.k h r.it r.l i → Sq01 r.k h r.l items → items[i]? = none → EndI h i (r :: rs)
  | next {r : Sr} {rs : List Sr} {items : Array Value} {x : Value} : It01 r.k h r.it r.l i → Sq01 r.k h r.l items → items[i]? = some x → EndI h i rs → EndI h i (r :: rs)
theorem AtI.length {h : Heap} {i : Nat} {rs : List Sr} {xs : List Value} (a : AtI h i rs xs) : xs.length = rs.length := by
  induction a with
  | nil => rfl
  | cons _ _ _ _ ih => rw [List.length_cons, List.length_cons, ih]
theorem AtI.keep {h h' : Heap} {i : Nat} {rs : List Sr} {xs : List Value} (a : AtI h i rs xs) : (∀ r ∈ rs, (∀ o, h.get? r.it = some o → h'.get? r.it = some o) ∧ ∀ o, h.get? r.l = some o → h'.get? r.l = some o) → AtI h' i rs xs := by
  induction a with
  | nil => exact fun _ => .nil
  | cons h1 h2 h3 _ ih => exact fun k => .cons (h1.at (k _ List.mem_cons_self).1) (h2.at (k _ List.mem_cons_self).2) h3 (ih fun q hq => k q (List.mem_cons_of_mem _ hq))
theorem EndI.keep {h h' : Heap} {i : Nat} {rs : List Sr} (a : EndI h i rs) : (∀ r ∈ rs, (∀ o, h.get? r.it = some o → h'.get? r.it = some o) ∧ ∀ o, h.get? r.l = some o → h'.get? r.l = some o) → EndI h' i rs := by
  induction a with
  | here h1 h2 h3 => exact fun k => .here (h1.at (k _ List.mem_cons_self).1) (h2.at (k _ List.mem_cons_self).2) h3
  | next h1 h2 h3 _ ih => exact fun k => .next (h1.at (k _ List.mem_cons_self).1) (h2.at (k _ List.mem_cons_self).2) h3 (ih fun q hq => k q (List.mem_cons_of_mem _ hq))
def setFrom (a : Array Value) (k : Nat) : List Value → Array Value
  | [] => a
  | x :: xs => setFrom (a.setIfInBounds k x) (k + 1) xs
theorem setFrom_list : ∀ (xs : List Value) (a : Array Value) (pre suf : List Value), a.toList = pre ++ suf → suf.length = xs.length → (setFrom a pre.length xs).toList = pre ++ xs
  | [], a, pre, suf, h, hl => by
    cases suf with
    | nil => simpa [setFrom] using h
    | cons => cases hl
  | x :: xs, a, pre, suf, h, hl => by
    cases suf with
    | nil => cases hl
    | cons y suf =>
      have e : (a.setIfInBounds pre.length x).toList = (pre ++ [x]) ++ suf := by
        rw [Array.toList_setIfInBounds, h]
        simp
      have := setFrom_list xs _ (pre ++ [x]) suf e (by simpa using hl)
      rw [List.length_append] at this
      unfold setFrom
      rw [show pre.length + 1 = pre.length + [x].length from rfl, this]
      simp
theorem setFrom_all {xs : List Value} {a : Array Value} (h : a.size = xs.length) : setFrom a 0 xs = xs.toArray := by
  have := setFrom_list xs a [] a.toList rfl (by simpa using h)
  exact Array.toList_inj.mp (by simpa using this)
structure Apart (z TI TO : Addr) (src : List Sr) : Prop where
  TIz : TI ≠ z
  TOz : TO ≠ z
  TITO : TI ≠ TO
  it : ∀ r ∈ src, r.it ≠ z ∧ r.it ≠ TI ∧ r.it ≠ TO ∧ r.l ≠ z ∧ r.l ≠ TO
  its : src.Pairwise fun a b => a.it ≠ b.it
  lit : ∀ r ∈ src, ∀ q ∈ src, r.l ≠ q.it
section
variable {prog : Program} {w : World} {A : Around} {E : Value → Shared → Prop}
theorem zloop_item {σ : Type} {init : σ} {b : Value × Nat → σ → Sem (ForInStep σ)} {TO : Addr} {i : Nat}
    (hb : ∀ (s : Shared) (r : Sr) (x : Value) (j : Nat) (kept items : Array Value) (Q : ForInStep σ → Shared → Prop), It01 r.k s.heap r.it r.l i → Sq01 r.k s.heap r.l items → items[i]? = some x → r.it ≠ TO → s.heap.get? TO = some (tupO kept) → kept.size ≤ 1000 →
      (∀ h', It01 r.k h' r.it r.l (i + 1) → h'.get? TO = some (tupO (kept.setIfInBounds j x)) → (∀ c, c ≠ TO → c ≠ r.it → h'.get? c = s.heap.get? c) → h'.objs.size = s.heap.objs.size → Q (.yield init) { s with heap := h' }) →
      wpAny (model prog w) A (b (.ref r.it, j) init) Q E s) :
    ∀ (rs : List Sr) (xs : List Value) (k : Nat) (kept : Array Value) (s : Shared) (Q : σ → Shared → Prop), AtI s.heap i rs xs → (∀ r ∈ rs, r.it ≠ TO ∧ r.l ≠ TO) → (rs.Pairwise fun a b => a.it ≠ b.it) → (∀ r ∈ rs, ∀ q ∈ rs, r.l ≠ q.it) → s.heap.get? TO = some (tupO kept) → kept.size ≤ 1000 →
      (∀ h', (∀ r ∈ rs, It01 r.k h' r.it r.l (i + 1)) → h'.get? TO = some (tupO (setFrom kept k xs)) → (∀ c, c ≠ TO → (∀ r ∈ rs, c ≠ r.it) → h'.get? c = s.heap.get? c) → h'.objs.size = s.heap.objs.size → Q init { s with heap := h' }) →
      wpAny (model prog w) A (forIn ((rs.map fun r => Value.ref r.it).zipIdx k) init b) Q E s := by
  intro rs
  induction rs with
  | nil =>
    intro xs k kept s Q hat _ _ _ hTO _ hQ
    cases hat
    simp only [List.map_nil, List.zipIdx_nil, List.forIn_nil]
    exact wpAny_pure (hQ s.heap (fun r hr => absurd hr List.not_mem_nil) hTO (fun _ _ _ => rfl) rfl)
  | cons r rs ih =>
    intro xs k kept s Q hat ap pw li hTO hz hQ
    obtain ⟨x, xs, items, rfl, h1, h2, h3, h4⟩ : ∃ x xs' items, xs = x :: xs' ∧ It01 r.k s.heap r.it r.l i ∧ Sq01 r.k s.heap r.l items ∧ items[i]? = some x ∧ AtI s.heap i rs xs' := by
      cases hat with
      | cons h1 h2 h3 h4 => exact ⟨_, _, _, rfl, h1, h2, h3, h4⟩
    simp only [List.map_cons, List.zipIdx_cons, List.forIn_cons]
    have ar := ap r List.mem_cons_self
    have pr : ∀ {q : Sr}, q ∈ rs → r.it ≠ q.it := fun hq => List.rel_of_pairwise_cons pw hq
    refine wpAny_bind (hb s r x k kept items _ h1 h2 h3 ar.1 hTO hz fun h' i1 t1 f1 z1 => ?_)
    refine ih xs (k + 1) (kept.setIfInBounds k x) { s with heap := h' } Q (h4.keep fun q hq => ⟨fun o e => ?_, fun o e => ?_⟩) (fun q hq => ap q (List.mem_cons_of_mem _ hq)) (List.Pairwise.of_cons pw) (fun q hq q2 hq2 => li q (List.mem_cons_of_mem _ hq) q2 (List.mem_cons_of_mem _ hq2)) t1 (by simpa using hz) fun h'' i2 t2 f2 z2 => ?_
    · rw [f1 _ (ap q (List.mem_cons_of_mem _ hq)).1 (pr hq).symm]; exact e
    · rw [f1 _ (ap q (List.mem_cons_of_mem _ hq)).2 (li q (List.mem_cons_of_mem _ hq) r List.mem_cons_self)]; exact e
    · refine hQ h'' (fun q hq => ?_) t2 (fun c c1 c2 => ?_) (z2.trans z1)
      · rcases List.mem_cons.mp hq with rfl | hq
        · exact i1.at fun o e => by rw [f2 _ ar.1 fun q2 hq2 => pr hq2]; exact e
        · exact i2 q hq
      · rw [f2 c c1 fun q hq => c2 q (List.mem_cons_of_mem _ hq)]
        exact f1 c c1 (c2 r List.mem_cons_self)
theorem zloop_end {σ : Type} {init : σ} {b : Value × Nat → σ → Sem (ForInStep σ)} {TO : Addr} {i : Nat}
    (hb : ∀ (s : Shared) (r : Sr) (x : Value) (j : Nat) (kept items : Array Value) (Q : ForInStep σ → Shared → Prop), It01 r.k s.heap r.it r.l i → Sq01 r.k s.heap r.l items → items[i]? = some x → r.it ≠ TO → s.heap.get? TO = some (tupO kept) → kept.size ≤ 1000 →
      (∀ h', It01 r.k h' r.it r.l (i + 1) → h'.get? TO = some (tupO (kept.setIfInBounds j x)) → (∀ c, c ≠ TO → c ≠ r.it → h'.get? c = s.heap.get? c) → h'.objs.size = s.heap.objs.size → Q (.yield init) { s with heap := h' }) →
      wpAny (model prog w) A (b (.ref r.it, j) init) Q E s) (z : Addr) (oz : Obj)
    (he : ∀ (s : Shared) (r : Sr) (j : Nat) (items : Array Value) (Q : ForInStep σ → Shared → Prop), It01 r.k s.heap r.it r.l i → Sq01 r.k s.heap r.l items → items[i]? = none → r.it ≠ z → s.heap.get? z = some oz →
      (∀ h' e, (∀ c o, c ≠ z → c ≠ r.it → s.heap.get? c = some o → h'.get? c = some o) → (∃ o, h'.get? e = some o ∧ o.cls = .type "StopIteration") → E (.ref e) { s with heap := h' }) → wpAny (model prog w) A (b (.ref r.it, j) init) Q E s) :
    ∀ (rs : List Sr) (k : Nat) (kept : Array Value) (s : Shared) (Q : σ → Shared → Prop), EndI s.heap i rs → (∀ r ∈ rs, r.it ≠ TO ∧ r.l ≠ TO ∧ r.it ≠ z) → z ≠ TO → (rs.Pairwise fun a b => a.it ≠ b.it) → (∀ r ∈ rs, ∀ q ∈ rs, r.l ≠ q.it) → s.heap.get? TO = some (tupO kept) → kept.size ≤ 1000 → s.heap.get? z = some oz →
      (∀ h' e, (∀ c o, c ≠ z → c ≠ TO → (∀ r ∈ rs, c ≠ r.it) → s.heap.get? c = some o → h'.get? c = some o) → (∃ o, h'.get? e = some o ∧ o.cls = .type "StopIteration") → E (.ref e) { s with heap := h' }) →
      wpAny (model prog w) A (forIn ((rs.map fun r => Value.ref r.it).zipIdx k) init b) Q E s := by
  intro rs
  induction rs with
  | nil =>
    intro k kept s Q hat
    cases hat
  | cons r rs ih =>
    intro k kept s Q hat ap zT pw li hTO hz oz hE
    have hat : (∃ items, It01 r.k s.heap r.it r.l i ∧ Sq01 r.k s.heap r.l items ∧ items[i]? = none) ∨ (∃ items x, It01 r.k s.heap r.it r.l i ∧ Sq01 r.k s.heap r.l items ∧ items[i]? = some x ∧ EndI s.heap i rs) := by
      cases hat with
      | here h1 h2 h3 => exact .inl ⟨_, h1, h2, h3⟩
      | next h1 h2 h3 h4 => exact .inr ⟨_, _, h1, h2, h3, h4⟩
    simp only [List.map_cons, List.zipIdx_cons, List.forIn_cons]
    have ar := ap r List.mem_cons_self
    have pr : ∀ {q : Sr}, q ∈ rs → r.it ≠ q.it := fun hq => List.rel_of_pairwise_cons pw hq
    rcases hat with ⟨items, h1, h2, h3⟩ | ⟨items, x, h1, h2, h3, h4⟩
    · exact wpAny_bind (he s r k items _ h1 h2 h3 ar.2.2 oz fun h' e f st => hE h' e (fun c o c1 c2 c3 q => f c o c1 (c3 r List.mem_cons_self) q) st)
    refine wpAny_bind (hb s r x k kept items _ h1 h2 h3 ar.1 hTO hz fun h' i1 t1 f1 z1 => ?_)
    refine ih (k + 1) (kept.setIfInBounds k x) { s with heap := h' } Q (h4.keep fun q hq => ⟨fun o e => ?_, fun o e => ?_⟩) (fun q hq => ap q (List.mem_cons_of_mem _ hq)) zT (List.Pairwise.of_cons pw) (fun q hq q2 hq2 => li q (List.mem_cons_of_mem _ hq) q2 (List.mem_cons_of_mem _ hq2)) t1 (by simpa using hz) ?_ fun h'' e f st => ?_
    · rw [f1 _ (ap q (List.mem_cons_of_mem _ hq)).1 (pr hq).symm]; exact e
    · rw [f1 _ (ap q (List.mem_cons_of_mem _ hq)).2.1 (li q (List.mem_cons_of_mem _ hq) r List.mem_cons_self)]; exact e
    · rw [f1 _ zT (Ne.symm ar.2.2)]; exact oz
    · refine hE h'' e (fun c o c1 c2 c3 q => f c o c1 c2 (fun q2 hq2 => c3 q2 (List.mem_cons_of_mem _ hq2)) ?_) st
      rw [f1 c c2 (c3 r List.mem_cons_self)]
      exact q
abbrev frE (z TO : Addr) (src : List Sr) (h h' : Heap) : Prop := ∀ c o, c ≠ z → c ≠ TO → (∀ r ∈ src, c ≠ r.it) → h.get? c = some o → h'.get? c = some o
variable {s : Shared}
theorem zipN_step {z TI TO : Addr} {i : Nat} {σ : Type} {init : σ} {cont : Option Value → Sem (ForInStep σ)} {r : Sr} {x : Value} {j : Nat} {kept items : Array Value} {Q : ForInStep σ → Shared → Prop}
    (hcont : ∀ (s : Shared) (Q : ForInStep σ → Shared → Prop), s.heap.get? TO = some (tupO kept) → (∀ h', h'.get? TO = some (tupO (kept.setIfInBounds j x)) → Heap.SameBut TO s.heap h' → Q (.yield init) { s with heap := h' }) → wpAny (model prog w) A (cont (some x)) Q E s)
    (h1 : It01 r.k s.heap r.it r.l i) (h2 : Sq01 r.k s.heap r.l items) (h3 : items[i]? = some x) (ne : r.it ≠ TO) (hTO : s.heap.get? TO = some (tupO kept)) 
    (hQ : ∀ h', It01 r.k h' r.it r.l (i + 1) → h'.get? TO = some (tupO (kept.setIfInBounds j x)) → (∀ c, c ≠ TO → c ≠ r.it → h'.get? c = s.heap.get? c) → h'.objs.size = s.heap.objs.size → Q (.yield init) { s with heap := h' }) :
    wpAny (model prog w) A ((do let v ← (do let y ← Builtin.SmallTypes.nextOf (.ref r.it); return some y).onRaise fun _ => setField (.ref z) 0 .none; cont v)) Q E s := by
  refine wpAny_bind (wpAny_onRaise (wpAny_bind (next01_item h1 h2 h3 fun h' i1 sb => wpAny_pure ?_)))
  have hTO' : h'.get? TO = some (tupO kept) := by rw [sb.2 TO (Ne.symm ne)]; exact hTO
  refine hcont _ _ hTO' fun h'' t2 sb2 => hQ h'' (i1.at fun o e => ?_) t2 (fun c c1 c2 => ?_) ?_
  · rw [sb2.2 _ ne]; exact e
  · rw [sb2.2 c c1]; exact sb.2 c c2
  · exact sb2.1.trans sb.1
theorem zipN_next_item {z TI TO : Addr} {r0 : Sr} {rs : List Sr} {xs : List Value} {i : Nat} {kept : Array Value} {Q : Value → Shared → Prop} (ap : Apart z TI TO (r0 :: rs))
    (hz : IsZip s.heap z TI TO .none) (hTI : s.heap.get? TI = some (tupO ((r0 :: rs).map fun r => Value.ref r.it).toArray)) (hTO : s.heap.get? TO = some (tupO kept)) (hk : kept.size = (r0 :: rs).length) (hkl : (r0 :: rs).length ≤ 1000) (hat : AtI s.heap i (r0 :: rs) xs)
    (hQ : ∀ h', IsZip h' z TI TO (rawInt s.heap.objs.size) → h'.get? TO = some (tupO xs.toArray) → (∀ r ∈ (r0 :: rs), It01 r.k h' r.it r.l (i + 1)) → h'.get? s.heap.objs.size = some (tupO xs.toArray) → h'.objs.size = s.heap.objs.size + 1 →
      frE z TO (r0 :: rs) s.heap h' → Q (.ref s.heap.objs.size) { s with heap := h' }) :
    wpAny (model prog w) A (Builtin.«zip.__next__» ⟨[.ref z], []⟩) (fun fin s' => ∃ v, fin = .done (.ret v) ∧ Q v s') E s := by
  have hxl := hat.length
  show wpAny _ _ (field (.ref z) 2 >>= _) _ _ _
  refine wpAny_bind (wpAny_field hz rfl (x := .bool false) rfl ?_)
  show wpAny _ _ (field (.ref z) 3 >>= _) _ _ _
  refine wpAny_bind (wpAny_field hz rfl (x := .ref TI) rfl ?_)
  refine wpAny_bind (wpAny_seqItems hTI rfl ?_)
  show wpAny _ _ (Builtin.SmallTypes.ownedTupleIsFree (.ref z) >>= _) _ _ _
  refine wpAny_bind ?_
  unfold Builtin.SmallTypes.ownedTupleIsFree
  refine wpAny_bind (wpAny_field hz rfl (x := .none) rfl (wpAny_pure ?_))
  simp only [if_true]
  refine wpAny_bind (wpAny_rule ?_)
  refine wpAny_bind (wpAny_field hz rfl (x := .ref TO) rfl ?_)
  refine wpAny_bind (wpAny_setField_rec hz (by simp) fun h₁ hz₁ hs₁ => ?_)
  replace hz₁ : IsZip h₁ z TI TO .ellipsis := hz₁
  have e₁ : ∀ c o, c ≠ z → s.heap.get? c = some o → h₁.get? c = some o := fun c o hc e => by rw [hs₁.2 c hc]; exact e
  refine wpAny_bind ?_
  refine zloop_item (TO := TO) (i := i) ?_ (r0 :: rs) xs 0 kept { s with heap := h₁ } _ (hat.keep fun r hr => ⟨fun o => e₁ _ o (ap.it r hr).1, fun o => e₁ _ o (ap.it r hr).2.2.2.1⟩) (fun r hr => ⟨(ap.it r hr).2.2.1, (ap.it r hr).2.2.2.2⟩) ap.its ap.lit (e₁ _ _ ap.TOz hTO) (by omega) ?_
  · intro s r x j kept items Q h1 h2 h3 ne hTO hkz hQ
    refine zipN_step (TI := TI) (cont := _) ?_ h1 h2 h3 ne hTO hQ
    intro s Q hTO hQ
    refine wpAny_bind (wpAny_seqItems hTO rfl ?_)
    refine wpAny_bind (wpAny_updateSeq hTO rfl ?_ ?_ ?_)
    · refine wpAny_bind (wpAny_letGo (wpAny_pure (hQ _ ?_ (Heap.SameBut.update ..))))
      rw [Heap.get?_update_self _ hTO rfl]
      simp [Obj.mapSeq]
    · have : (1000 : Nat) ≤ sizeLine := by size_fits
      omega
    · have : (1000 : Nat) ≤ sizeLine := by size_fits
      rw [Array.size_setIfInBounds]
      omega
  intro h₅ i5 t5 f5 z5
  rw [setFrom_all (by omega)] at t5
  have hsz : h₅.objs.size = s.heap.objs.size := z5.trans hs₁.1
  have zs : ∀ r ∈ r0 :: rs, z ≠ r.it := fun r hr => (ap.it r hr).1.symm
  have hz₅ : IsZip h₅ z TI TO .ellipsis := (f5 z (Ne.symm ap.TOz) zs).trans hz₁
  refine wpAny_bind (wpAny_seqItems t5 rfl ?_)
  refine wpAny_bind (wpAny_newTuple ?_)
  show wpAny _ _ (Builtin.SmallTypes.ownedTupleHandOut (.ref z) (.ref h₅.objs.size) >>= _) _ _ _
  refine wpAny_bind ?_
  unfold Builtin.SmallTypes.ownedTupleHandOut
  have hzlt : z < h₅.objs.size := Heap.lt_size hz₅
  have hz₆ : IsZip (h₅.push (tupO xs.toArray)) z TI TO .ellipsis := Heap.get?_push_of_some _ hz₅
  refine wpAny_bind (wpAny_setField_rec hz₆ (by simp) fun h₇ hz₇ hs₇ => ?_)
  replace hz₇ : IsZip h₇ z TI TO (rawInt h₅.objs.size) := hz₇
  refine wpAny_setField_rec hz₇ (by simp) fun h₈ hz₈ hs₈ => ?_
  replace hz₈ : IsZip h₈ z TI TO (rawInt h₅.objs.size) := hz₈
  have up : ∀ c o, c ≠ z → h₅.get? c = some o → h₈.get? c = some o := fun c o c1 e => by
    rw [hs₈.2 c c1, hs₇.2 c c1]
    exact Heap.get?_push_of_some _ e
  have hT₈ : h₈.get? h₅.objs.size = some (tupO xs.toArray) := by
    rw [hs₈.2 _ (Nat.ne_of_gt hzlt), hs₇.2 _ (Nat.ne_of_gt hzlt)]
    exact Heap.get?_push_size _ rfl
  have hz8 : h₈.objs.size = h₅.objs.size + 1 := by rw [hs₈.1, hs₇.1, Heap.size_push]
  rw [hsz] at hz₈ hT₈ hz8
  refine wpAny_pure ⟨_, rfl, ?_⟩
  show Q (.ref h₅.objs.size) _
  rw [hsz]
  refine hQ h₈ hz₈ (up _ _ ap.TOz t5) (fun r hr => (i5 r hr).at fun o e => up _ o (ap.it r hr).1 e) hT₈ hz8 fun c o c1 c2 c3 e => up c o c1 ?_
  rw [f5 c c2 c3]
  exact e₁ c o c1 e
theorem zipN_next_end {z TI TO : Addr} {r0 : Sr} {rs : List Sr} {i : Nat} {kept : Array Value} {Q : Fin → Shared → Prop} (hh : A.handled = none) (ap : Apart z TI TO (r0 :: rs))
    (hz : IsZip s.heap z TI TO .none) (hTI : s.heap.get? TI = some (tupO ((r0 :: rs).map fun r => Value.ref r.it).toArray)) (hTO : s.heap.get? TO = some (tupO kept)) (hk : kept.size ≤ 1000) (hat : EndI s.heap i (r0 :: rs))
    (hE : ∀ h' e, frE z TO (r0 :: rs) s.heap h' → (∃ o, h'.get? e = some o ∧ o.cls = .type "StopIteration") → E (.ref e) { s with heap := h' }) :
    wpAny (model prog w) A (Builtin.«zip.__next__» ⟨[.ref z], []⟩) Q E s := by
  show wpAny _ _ (field (.ref z) 2 >>= _) _ _ _
  refine wpAny_bind (wpAny_field hz rfl (x := .bool false) rfl ?_)
  show wpAny _ _ (field (.ref z) 3 >>= _) _ _ _
  refine wpAny_bind (wpAny_field hz rfl (x := .ref TI) rfl ?_)
  refine wpAny_bind (wpAny_seqItems hTI rfl ?_)
  show wpAny _ _ (Builtin.SmallTypes.ownedTupleIsFree (.ref z) >>= _) _ _ _
  refine wpAny_bind ?_
  unfold Builtin.SmallTypes.ownedTupleIsFree
  refine wpAny_bind (wpAny_field hz rfl (x := .none) rfl (wpAny_pure ?_))
  simp only [if_true]
  refine wpAny_bind (wpAny_rule ?_)
  refine wpAny_bind (wpAny_field hz rfl (x := .ref TO) rfl ?_)
  refine wpAny_bind (wpAny_setField_rec hz (by simp) fun h₁ hz₁ hs₁ => ?_)
  replace hz₁ : IsZip h₁ z TI TO .ellipsis := hz₁
  have e₁ : ∀ c o, c ≠ z → s.heap.get? c = some o → h₁.get? c = some o := fun c o hc e => by rw [hs₁.2 c hc]; exact e
  refine wpAny_bind ?_
  refine zloop_end (TO := TO) (i := i) ?_ z _ ?_ (r0 :: rs) 0 kept { s with heap := h₁ } _ (hat.keep fun r hr => ⟨fun o => e₁ _ o (ap.it r hr).1, fun o => e₁ _ o (ap.it r hr).2.2.2.1⟩) (fun r hr => ⟨(ap.it r hr).2.2.1, (ap.it r hr).2.2.2.2, (ap.it r hr).1⟩) (Ne.symm ap.TOz) ap.its ap.lit (e₁ _ _ ap.TOz hTO) hk hz₁ ?_
  · intro s r x j kept items Q h1 h2 h3 ne hTO hkz hQ
    refine zipN_step (TI := TI) (cont := _) ?_ h1 h2 h3 ne hTO hQ
    intro s Q hTO hQ
    refine wpAny_bind (wpAny_seqItems hTO rfl ?_)
    refine wpAny_bind (wpAny_updateSeq hTO rfl ?_ ?_ ?_)
    · refine wpAny_bind (wpAny_letGo (wpAny_pure (hQ _ ?_ (Heap.SameBut.update ..))))
      rw [Heap.get?_update_self _ hTO rfl]
      simp [Obj.mapSeq]
    · have : (1000 : Nat) ≤ sizeLine := by size_fits
      omega
    · have : (1000 : Nat) ≤ sizeLine := by size_fits
      rw [Array.size_setIfInBounds]
      omega
  · intro s r j items Q h1 h2 h3 ne oz hE
    refine wpAny_bind (wpAny_onRaise ?_)
    show wpAny _ _ (Builtin.SmallTypes.nextOf (.ref r.it) >>= _) _ _ _
    refine wpAny_bind (next01_end hh h1 h2 h3 fun h₂ e hs₂ he => ?_)
    obtain ⟨oe, hoe, hce⟩ := he
    have hz₂ : IsZip h₂ z TI TO .ellipsis := hs₂ _ _ (Ne.symm ne) oz
    have hez : e ≠ z := fun x => by subst x; rw [hz₂] at hoe; cases hoe; simp at hce
    exact wpAny_setField_rec hz₂ (by simp) fun h₃ _ hs₃ => hE h₃ e (fun c o c1 c2 x => hs₃.extBut _ _ c1 (hs₂ _ _ c2 x)) ⟨oe, hs₃.extBut _ _ hez hoe, hce⟩
  · exact fun h' e f st => hE h' e (fun c o c1 c2 c3 q => f c o c1 c2 c3 (e₁ c o c1 q)) st
theorem pyNext_zipN_item {z TI TO : Addr} {r0 : Sr} {rs : List Sr} {xs : List Value} {i : Nat} {kept : Array Value} {Q : Option Value → Shared → Prop} (ap : Apart z TI TO (r0 :: rs))
    (hz : IsZip s.heap z TI TO .none) (hTI : s.heap.get? TI = some (tupO ((r0 :: rs).map fun r => Value.ref r.it).toArray)) (hTO : s.heap.get? TO = some (tupO kept)) (hk : kept.size = (r0 :: rs).length) (hkl : (r0 :: rs).length ≤ 1000) (hat : AtI s.heap i (r0 :: rs) xs)
    (hQ : ∀ h', IsZip h' z TI TO (rawInt s.heap.objs.size) → h'.get? TO = some (tupO xs.toArray) → (∀ r ∈ (r0 :: rs), It01 r.k h' r.it r.l (i + 1)) → h'.get? s.heap.objs.size = some (tupO xs.toArray) → h'.objs.size = s.heap.objs.size + 1 →
      frE z TO (r0 :: rs) s.heap h' → Q (some (.ref s.heap.objs.size)) { s with heap := h' }) : wpAny (model prog w) A (pyNext (.ref z)) Q E s := by
  have hT : s.TypeIs (.ref z) "zip" := ⟨_, hz, rfl⟩
  unfold pyNext
  exact wpAny_bind (wpAny_attempt (wpAny_callSpecial?_slot (name := Str.ofString "__next__") hT F.slot_zip_next
    (wpAny_call_entry F.slot_zip_next hT F.entry_zip_next
      (zipN_next_item ap hz hTI hTO hk hkl hat fun h' a1 a2 a3 a4 a5 a6 => wpAny_pure (hQ h' a1 a2 a3 a4 a5 a6)) (F.args_zip_next_1 _))))
theorem pyNext_zipN_end {z TI TO : Addr} {r0 : Sr} {rs : List Sr} {i : Nat} {kept : Array Value} {Q : Option Value → Shared → Prop} (hh : A.handled = none) (ap : Apart z TI TO (r0 :: rs))
    (hz : IsZip s.heap z TI TO .none) (hTI : s.heap.get? TI = some (tupO ((r0 :: rs).map fun r => Value.ref r.it).toArray)) (hTO : s.heap.get? TO = some (tupO kept)) (hk : kept.size ≤ 1000) (hat : EndI s.heap i (r0 :: rs))
    (hQ : ∀ h', frE z TO (r0 :: rs) s.heap h' → Q none { s with heap := h' }) : wpAny (model prog w) A (pyNext (.ref z)) Q E s := by
  have hT : s.TypeIs (.ref z) "zip" := ⟨_, hz, rfl⟩
  unfold pyNext
  refine wpAny_bind (wpAny_attempt (wpAny_callSpecial?_slot (name := Str.ofString "__next__") hT F.slot_zip_next
    (wpAny_call_entry F.slot_zip_next hT F.entry_zip_next (zipN_next_end hh ap hz hTI hTO hk hat fun h' e hk he => ?_) (F.args_zip_next_1 _))))
  obtain ⟨o, ho, hc⟩ := he
  refine wpAny_bind (wpAny_isInstance (T := "StopIteration") (b := true) ⟨o, ho, hc⟩ isSubtype_stop ?_)
  exact wpAny_pure (hQ _ hk)
end
theorem Sq01.push {k : Bool} {h : Heap} {l : Addr} {xs : Array Value} (x : Sq01 k h l xs) (o : Obj) : Sq01 k (h.push o) l xs := x.at fun _ e => Heap.get?_push_of_some _ e
abbrev zOb (ti to : Addr) : Obj := { cls := .type "zip", data := .fields #[.none, .bool false, .bool false, .ref ti, .ref to] }
theorem meets_zip2 (k1 k2 : Bool) (l1 l2 : Addr) (xs ys : Array Value) :
    Meets (Builtin.«zip.__new__» ⟨[.type "zip", .ref l1, .ref l2], []⟩) (fun _ R s => Sq01 k1 s.heap l1 xs ∧ Sq01 k2 s.heap l2 ys ∧
      R (.ok (.ret (.ref (((s.heap.push (itO k1 l1)).push (itO k2 l2)).push (tupO #[.ref s.heap.objs.size, .ref (s.heap.push (itO k1 l1)).objs.size]) |>.push (tupO #[.none, .none])).objs.size))) { s with heap := (((s.heap.push (itO k1 l1)).push (itO k2 l2)).push (tupO #[.ref s.heap.objs.size, .ref (s.heap.push (itO k1 l1)).objs.size]) |>.push (tupO #[.none, .none])).push (zOb ((s.heap.push (itO k1 l1)).push (itO k2 l2)).objs.size (((s.heap.push (itO k1 l1)).push (itO k2 l2)).push (tupO #[.ref s.heap.objs.size, .ref (s.heap.push (itO k1 l1)).objs.size])).objs.size) }) :=
  .of_wp fun prog w A R s h => by
    obtain ⟨hp, g, d, tk, os⟩ := s; obtain ⟨hl1, hl2, h⟩ := h
    have hsub := sub_zip
    have hL1 : Sq01 k1 (Shared.heap ⟨hp, g, d, tk, os⟩) l1 xs := hl1
    have hL2 : Sq01 k2 (Shared.heap ⟨hp.push (itO k1 l1), g, d, tk, os⟩) l2 ys := hl2.push _
    wp_walk using iter01 hL1, iter01 hL2
    exact ⟨_, rfl, h⟩
abbrev zi1 (h : Heap) (k1 : Bool) (l1 : Addr) : Heap := h.push (itO k1 l1)
abbrev zi2 (h : Heap) (k1 k2 : Bool) (l1 l2 : Addr) : Heap := (zi1 h k1 l1).push (itO k2 l2)
abbrev zt2 (h : Heap) (k1 k2 : Bool) (l1 l2 : Addr) : Heap := (zi2 h k1 k2 l1 l2).push (tupO #[.ref h.objs.size, .ref (zi1 h k1 l1).objs.size])
abbrev zu2 (h : Heap) (k1 k2 : Bool) (l1 l2 : Addr) : Heap := (zt2 h k1 k2 l1 l2).push (tupO #[.none, .none])
abbrev zv2 (h : Heap) (k1 k2 : Bool) (l1 l2 : Addr) : Heap := (zu2 h k1 k2 l1 l2).push (zOb (zi2 h k1 k2 l1 l2).objs.size (zt2 h k1 k2 l1 l2).objs.size)
theorem it01_new (k : Bool) (h : Heap) (l : Addr) : It01 k (h.push (itO k l)) h.objs.size l 0 := by
  cases k
  · exact ⟨_, Heap.get?_push_size _ rfl, rfl, rfl⟩
  · exact ⟨_, Heap.get?_push_size _ rfl, rfl, rfl⟩
section
variable {prog : Program} {w : World} {A : Around} {E : Value → Shared → Prop} {s : Shared}
theorem call_zip2 {k1 k2 : Bool} {l1 l2 : Addr} {xs ys : Array Value} {Q : Value → Shared → Prop} (hl1 : Sq01 k1 s.heap l1 xs) (hl2 : Sq01 k2 s.heap l2 ys)
    (h : ∀ h', IsZip h' (s.heap.objs.size + 4) (s.heap.objs.size + 2) (s.heap.objs.size + 3) .none → h'.get? (s.heap.objs.size + 2) = some (tupO #[.ref s.heap.objs.size, .ref (s.heap.objs.size + 1)]) →
      h'.get? (s.heap.objs.size + 3) = some (tupO #[.none, .none]) → It01 k1 h' s.heap.objs.size l1 0 → It01 k2 h' (s.heap.objs.size + 1) l2 0 → (∀ c o, s.heap.get? c = some o → h'.get? c = some o) → Q (.ref (s.heap.objs.size + 4)) { s with heap := h' }) :
    wpAny (model prog w) A (call (.type "zip") [.ref l1, .ref l2]) Q E s := by
  refine callType_new F.called_zip (by decide) (F.typeCall_zip_2 _ _) (F.newCall_zip_2 _ _) (fun obj => F.args_object_init_3 obj _ _) F.entry_zip_new (meets_zip2 k1 k2 l1 l2 xs ys) ⟨hl1, hl2, ?_⟩
  have z1 : (zi1 s.heap k1 l1).objs.size = s.heap.objs.size + 1 := Heap.size_push ..
  have z2 : (zi2 s.heap k1 k2 l1 l2).objs.size = s.heap.objs.size + 2 := by rw [Heap.size_push, z1]
  have z3 : (zt2 s.heap k1 k2 l1 l2).objs.size = s.heap.objs.size + 3 := by rw [Heap.size_push, z2]
  have z4 : (zu2 s.heap k1 k2 l1 l2).objs.size = s.heap.objs.size + 4 := by rw [Heap.size_push, z3]
  have g5 : (zv2 s.heap k1 k2 l1 l2).get? (zu2 s.heap k1 k2 l1 l2).objs.size = some _ := Heap.get?_push_size _ rfl
  have g4 : (zv2 s.heap k1 k2 l1 l2).get? (zt2 s.heap k1 k2 l1 l2).objs.size = some _ := Heap.get?_push_of_some _ (Heap.get?_push_size _ rfl)
  have g3 : (zv2 s.heap k1 k2 l1 l2).get? (zi2 s.heap k1 k2 l1 l2).objs.size = some _ := Heap.get?_push_of_some _ (Heap.get?_push_of_some _ (Heap.get?_push_size _ rfl))
  have g2 : It01 k2 (zv2 s.heap k1 k2 l1 l2) (zi1 s.heap k1 l1).objs.size l2 0 := (it01_new k2 _ l2).at fun o e => Heap.get?_push_of_some _ (Heap.get?_push_of_some _ (Heap.get?_push_of_some _ e))
  have g1 : It01 k1 (zv2 s.heap k1 k2 l1 l2) s.heap.objs.size l1 0 := (it01_new k1 _ l1).at fun o e => Heap.get?_push_of_some _ (Heap.get?_push_of_some _ (Heap.get?_push_of_some _ (Heap.get?_push_of_some _ e)))
  show _ ∧ _
  rw [z2, z3, z4] at g5
  rw [z1, z2] at g3
  rw [z3] at g4
  rw [z1] at g2
  rw [show (((s.heap.push (itO k1 l1)).push (itO k2 l2)).push (tupO #[.ref s.heap.objs.size, .ref (s.heap.push (itO k1 l1)).objs.size]) |>.push (tupO #[.none, .none])).objs.size = s.heap.objs.size + 4 from z4]
  exact ⟨⟨_, g5, rfl⟩, h _ g5 g3 g4 g1 g2 fun c o x => Heap.get?_push_of_some _ (Heap.get?_push_of_some _ (Heap.get?_push_of_some _ (Heap.get?_push_of_some _ (Heap.get?_push_of_some _ x))))⟩
end
end Mr
namespace Mr
open PySem PySem.Spec PyProof.Rows L2 RZ
def SqX (K : PySem.W.Frag) (H : Hp) (k : Bool) (a : Addr) (xs : List V) : Prop := match k with
  | true => SqL K H a xs
  | false => SqT K H a xs
inductive AtV (K : PySem.W.Frag) (H : Hp) (i : Nat) : List (Bool × Addr) → List V → Prop
  | nil : AtV K H i [] []
  | cons {k : Bool} {a : Addr} {ks : List (Bool × Addr)} {x : V} {xs ys : List V} : SqX K H k a xs → xs[i]? = some x → AtV K H i ks ys → AtV K H i ((k, a) :: ks) (x :: ys)
inductive EndV (K : PySem.W.Frag) (H : Hp) (i : Nat) : List (Bool × Addr) → Prop
  | here {k : Bool} {a : Addr} {ks : List (Bool × Addr)} {xs : List V} : SqX K H k a xs → xs.length ≤ i → EndV K H i ((k, a) :: ks)
  | next {k : Bool} {a : Addr} {ks : List (Bool × Addr)} {x : V} {xs : List V} : SqX K H k a xs → xs[i]? = some x → EndV K H i ks → EndV K H i ((k, a) :: ks)
section
variable {X : Cx} {pins : List (Addr × Obj)} {σ : L2.St} {H : Hp} {s : Shared}
theorem SqX.has {k : Bool} {a : Addr} {xs : List V} (I : Inv X pins σ H s) (q : SqX X.K H k a xs) : ∃ its : List Value, Vals xs its ∧ Sq01 k s.heap a its.toArray := by
  cases k
  · obtain ⟨its, rv, p, _⟩ := I.tuple q
    exact ⟨its, rv, p⟩
  · obtain ⟨its, rv, p, _⟩ := I.list q
    exact ⟨its, rv, p.isList⟩
theorem SqX.inj {k : Bool} {a : Addr} {xs ys : List V} (I : Inv X pins σ H s) (q : SqX X.K H k a xs) (r : SqX X.K H k a ys) : xs = ys := by
  cases k
  · exact I.tuple_inj q r
  · exact I.list_inj q r
theorem AtV.inj {i : Nat} {ks : List (Bool × Addr)} {xs ys : List V} (I : Inv X pins σ H s) (a : AtV X.K H i ks xs) : AtV X.K H i ks ys → ys = xs := by
  induction a generalizing ys with
  | nil => intro b; cases b; rfl
  | cons h1 h2 _ ih =>
    intro b
    cases b with
    | cons g1 g2 g3 =>
      rw [ih g3]
      have := g1.inj I h1
      subst this
      rw [h2] at g2
      cases g2
      rfl
theorem AtV.has {i : Nat} (I : Inv X pins σ H s) : ∀ {src : List Sr} {xs : List V}, (∀ r ∈ src, It01 r.k s.heap r.it r.l i) → AtV X.K H i (src.map fun r => (r.k, r.l)) xs → ∃ us, Vals xs us ∧ AtI s.heap i src us := by
  intro src
  induction src with
  | nil => intro xs _ a; cases a; exact ⟨[], .nil, .nil⟩
  | cons r rs ih =>
    intro xs hi a
    cases a with
    | cons h1 h2 h3 =>
      obtain ⟨us, v1, a1⟩ := ih (fun q hq => hi q (List.mem_cons_of_mem _ hq)) h3
      obtain ⟨its, rv, p⟩ := h1.has I
      obtain ⟨u, hu, ru⟩ := rv.get h2
      exact ⟨u :: us, .cons ru v1, .cons (hi r List.mem_cons_self) p (by simpa using hu) a1⟩
theorem EndV.has {i : Nat} (I : Inv X pins σ H s) : ∀ {src : List Sr}, (∀ r ∈ src, It01 r.k s.heap r.it r.l i) → EndV X.K H i (src.map fun r => (r.k, r.l)) → EndI s.heap i src := by
  intro src
  induction src with
  | nil => intro _ a; cases a
  | cons r rs ih =>
    intro hi a
    cases a with
    | here h1 h2 =>
      obtain ⟨its, rv, p⟩ := h1.has I
      have := rv.length
      exact .here (hi r List.mem_cons_self) p (by simp; omega)
    | next h1 h2 h3 =>
      obtain ⟨its, rv, p⟩ := h1.has I
      obtain ⟨u, hu, ru⟩ := rv.get h2
      exact .next (hi r List.mem_cons_self) p (by simpa using hu) (ih (fun q hq => hi q (List.mem_cons_of_mem _ hq)) h3)
end
def zFp (z TI TO : Addr) (src : List Sr) : List Addr := z :: TI :: TO :: src.map fun r => r.it
theorem sq01_lt {k : Bool} {h : Heap} {l : Addr} {xs : Array Value} (q : Sq01 k h l xs) : l < h.objs.size := by
  cases k <;> (obtain ⟨o, e, _⟩ := q; exact Heap.lt_size e)
theorem neA {a b : Nat} (h : a ≠ b) : @Ne Addr a b := h
theorem apart2 (k1 k2 : Bool) (n a b : Nat) (la : a < n) (lb : b < n) : Apart (n + 4) (n + 2) (n + 3) [⟨k1, n, a⟩, ⟨k2, n + 1, b⟩] := by
  refine ⟨neA (by first | omega | (dsimp only; omega)), neA (by first | omega | (dsimp only; omega)), neA (by first | omega | (dsimp only; omega)), ?_, ?_, ?_⟩
  · intro r hr
    simp only [List.mem_cons, List.not_mem_nil, or_false] at hr
    rcases hr with rfl | rfl <;> exact ⟨neA (by first | omega | (dsimp only; omega)), neA (by first | omega | (dsimp only; omega)), neA (by first | omega | (dsimp only; omega)), neA (by first | omega | (dsimp only; omega)), neA (by first | omega | (dsimp only; omega))⟩
  · exact .cons (fun r hr => by rw [List.mem_singleton] at hr; subst hr; exact neA (by first | omega | (dsimp only; omega))) (.cons (fun r hr => absurd hr List.not_mem_nil) .nil)
  · intro r hr q hq
    simp only [List.mem_cons, List.not_mem_nil, or_false] at hr hq
    rcases hr with rfl | rfl <;> rcases hq with rfl | rfl <;> exact neA (by first | omega | (dsimp only; omega))
end Mr
namespace Mr
open PySem PySem.Spec PyProof.Rows L2 RZ
section
variable {K : PySem.W.Frag} {O : Wo} {Wx : WX} {X : Cx} {G0 : Gh} {H0 : Hp} {G : Gh} {H : Hp} {G1 : Gh} {H1 : Hp} {σ : L2.St} {ρ : Ev} {s s1 : O.S}
def zipD (xs ys : List D) : List D := (xs.zip ys).map fun p => .tup [p.1, p.2]
theorem zipD_at {xs ys : List D} {i : Nat} {d : D} (h : (zipD xs ys)[i]? = some d) : ∃ a b, xs[i]? = some a ∧ ys[i]? = some b ∧ d = .tup [a, b] := by
  unfold zipD at h
  rw [List.getElem?_map, Option.map_eq_some_iff] at h
  obtain ⟨p, hp, rfl⟩ := h
  rw [List.getElem?_zip_eq_some] at hp
  exact ⟨p.1, p.2, hp.1, hp.2, rfl⟩
theorem zipD_length (xs ys : List D) : (zipD xs ys).length = min xs.length ys.length := by simp [zipD]
theorem new_pair {H : Hp} {T : Addr} {x y : V} {a b : D} (g : Sh G H) (n : H T = none) (ra : Rep K G x a) (rb : Rep K G y b) : Tr0 G H (up G T (.tup [x, y])) (upd H T (.tup [x, y])) ∧ Rep K (up G T (.tup [x, y])) (.ref T) (.tup [a, b]) :=
  ⟨Tr0.new g n, new_tup g n (.cons ra (.cons rb .nil))⟩
theorem SqX.mono {k : Bool} {a : Addr} {vs : List V} (e : Sh G H) (q : SqX K (fr G) k a vs) : SqX K H k a vs := by
  cases k
  · exact e.seqT0 q
  · exact e.seq q
def dZip : List D → Option (List D)
  | [.lst xs, .lst ys] => some (zipD xs ys)
  | [.tup xs, .tup ys] => some (zipD xs ys)
  | [.lst xs, .tup ys] => some (zipD xs ys)
  | [.tup xs, .lst ys] => some (zipD xs ys)
  | _ => none
def enumD (xs : List D) : List D := xs.zipIdx.map fun p => .tup [.int (p.2 : Int), p.1]
/-- an expression whose value is a new list, that nobody else holds -/
def PstN (K : PySem.W.Frag) (O : Wo) (Wx : WX) (σ : L2.St) (G : Gh) (H : Hp) (r : R O.S (List D)) (Q : VK) : Prop :=
  match r with
  | .ok ds s' => ∀ p vs G' H', Tr O.W G H G' H' → O.ok K s' G' H' → H p = none → G' p = none → H' p = some (.lst vs) → Reps K G' vs ds → Q (.ref p) H'
  | .err c fs s' => ∀ dd xs G' H', Tr O.W G H G' H' → O.ok K s' G' H' → XdA H' dd xs → NwA O dd → RepF K G' xs fs → Wx (.ref c) dd σ H'
  | .bad => False
def SndN (K : PySem.W.Frag) (O : Wo) (Wx : WX) (t : TE) (m : MA O) : Prop := ∀ σ ρ H0 G H s Q, Fm K O H0 σ ρ G H s → PstN K O Wx σ G H (m ρ s) Q → t σ H Q
structure DN (K : PySem.W.Frag) (O : Wo) (Wx : WX) (X : Cx) (e : Expr) (t : TE) (m : MA O) : Prop where
  hK : X.K = K
  tk : Takes X Wx
  pe : PE X e t
  sn : SndN K O Wx t m
def mLst (O : Wo) (m : MA O) : ME O := fun ρ s => (m ρ s).bind fun xs s1 => .ok (.lst xs) s1
theorem DN.de {e : Expr} {t : TE} {m : MA O} (h : DN K O Wx X e t m) : DE K O Wx X e t (mLst O m) := by
  refine ⟨h.hK, h.tk, h.pe, fun σ ρ H0 G H s Q F q => ?_⟩
  refine h.sn σ ρ H0 G H s Q F ?_
  unfold mLst at q
  revert q
  cases m ρ s with
  | ok ds s1 =>
    exact fun q p vs G' H' t k n g e r => q (.ref p) (up G' p (.lst vs)) H' (t.frz n g e) (ok_up k g) (.lst sqL_new (r.mono (Sm.up g)))
  | err c fs s1 => exact fun q => q
  | bad => exact fun q => q
/-- a hidden new object is written -/
theorem Tr.mut {W : Addr → Prop} {G : Gh} {H : Hp} {G' : Gh} {H' : Hp} {p : Addr} {o : HO} (t : Tr W G H G' H') (n : H p = none) (g : G' p = none) : Tr W G H G' (upd H' p o) := by
  refine ⟨t.gg, t.gh.upd g, t.gr, fun b u w m e => by rw [upd_ne (ne_of_none e n)]; exact t.kp b u w m e, fun b e => ?_, fun b u v e => by rw [upd_ne (ne_of_none e n)]; exact t.fz b u v e⟩
  by_cases hb : b = p
  · subst hb; exact n
  · rw [upd_ne hb] at e; exact t.dm b e
def listMax (xs : List D) : Option (List D) := if xs.length ≤ 100000 then some xs else none
def mDisp (O : Wo) (m : MA O) : MA O := fun ρ s => (m ρ s).bind fun xs s1 => R.lift (listMax xs) s1
theorem dn_list {es : List Expr} {ta : TA} {ma : MA O} {pos : Pos} (ha : DA K O Wx X es ta ma) : DN K O Wx X (.List es pos) (tLst ta) (mDisp O ma) := by
  refine ⟨ha.hK, ha.tk, pe_lst ha.pe, fun σ ρ H0 G H s Q F h => ?_⟩
  refine ha.sn σ ρ H0 G H s _ F ?_
  unfold mDisp at h
  revert h
  cases ma ρ s with
  | ok ds s1 =>
    intro h xs G1 H1 t1 k1 r1
    have F1 := F.tr t1 k1
    rw [bind_ok] at h
    unfold listMax at h
    split at h
    · rename_i hz
      refine ⟨by rw [r1.length]; exact sz5 hz, fun p np => ?_⟩
      refine h p xs G1 (upd H1 p (.lst xs)) (t1.mut (t1.dm p np) (F1.gh.free np)) ?_ (t1.dm p np) (F1.gh.free np) upd_same r1
      exact ok_off k1 (F1.gh.free np) (nW_of k1 np)
    · exact h.elim
  | err c fs s1 => exact fun h => h
  | bad => exact fun h => h
abbrev WF : WX := fun _ _ _ _ => False
def wipeE (ρ : Ev) : List Nat → Ev
  | [] => ρ
  | v :: vs => (wipeE ρ vs).set v .no
theorem Fm.clr (f : Fm K O H0 σ ρ G H s) (i : Nat) : Fm K O H0 (σ.set i none) (ρ.set i .no) G H s := by
  refine ⟨f.gh, f.wg, f.ok, by simpa using f.len, fun j o x a b => ?_, fun j k p x y hjk a b c e g => ?_⟩
  · by_cases hj : i = j
    · subst hj
      have h2 := (List.getElem?_eq_some_iff.mp b).1
      rw [List.length_set] at h2
      rw [List.getElem?_set_self h2] at b
      cases b
      trivial
    · rw [List.getElem?_set_ne hj] at a b
      exact f.sl j o x a b
  · by_cases hj : i = j
    · subst hj
      have h2 := (List.getElem?_eq_some_iff.mp a).1
      rw [List.length_set] at h2
      rw [List.getElem?_set_self h2] at a
      cases a
      cases c
    · by_cases hk : i = k
      · subst hk
        have h2 := (List.getElem?_eq_some_iff.mp b).1
        rw [List.length_set] at h2
        rw [List.getElem?_set_self h2] at b
        cases b
        cases e
      · rw [List.getElem?_set_ne hj] at a g
        rw [List.getElem?_set_ne hk] at b
        rw [List.getElem?_set_ne hk]
        exact f.ds j k p x y hjk a b c e g
theorem Fm.wipe (f : Fm K O H0 σ ρ G H s) : ∀ vs : List Nat, Fm K O H0 (L2.wipe σ vs) (wipeE ρ vs) G H s
  | [] => f
  | v :: vs => (f.wipe vs).clr v
structure DTs (K : PySem.W.Frag) (O : Wo) (Wx : WX) (X : Cx) (e : List Expr) (t : TT) (m : MT O) : Prop where
  pe : PTs X e t
  sn : SndT K O Wx t m
def mYes (O : Wo) : MT O := fun _ s => .ok true s
theorem dts_nil : DTs K O Wx X [] tYes (mYes O) := ⟨pts_nil, fun σ ρ H0 G H s Q F h => h true G H (.refl F.gh) F.ok rfl⟩
theorem dts_one {c : Expr} {t : TT} {m : MT O} (h : DT K O Wx X c t m) : DTs K O Wx X [c] t m := ⟨pts_one h.pe, h.sn⟩
def lcL (S : Type) (f : D → Ev → Option Ev) (mt : Ev → S → R S Bool) (me : Ev → S → R S D) (ρ : Ev) : List D → List D → S → R S (List D)
  | [], acc, s => .ok acc s
  | d :: ds, acc, s => match f d ρ with
    | none => .bad
    | some ρ1 => match mt ρ1 s with
      | .ok true s1 => match me ρ1 s1 with
        | .ok y s2 => if acc.length < 100000 then lcL S f mt me ρ ds (acc ++ [y]) s2 else .bad
        | _ => .bad
      | .ok false s1 => lcL S f mt me ρ ds acc s1
      | _ => .bad
def mLc (O : Wo) (mi : MI O) (f : D → Ev → Option Ev) (mt : MT O) (me : ME O) (vs : List Nat) : MA O := fun ρ s => (mi ρ s).bind fun items s1 => lcL O.S f mt me (wipeE ρ vs) items [] s1
theorem snd_lc {wi : TI} {mi : MI O} {g : TG} {f : D → Ev → Option Ev} {is vs : List Nat} {tt : TT} {mt : MT O} {te : TE} {me : ME O} (hi : SndI K O Wx wi mi) (hg : SndG K O g f is) (ht : SndT K O WF tt mt) (he : SndE K O WF te me) (hv : ∀ i ∈ is, i ∈ vs) :
    SndN K O Wx (tLc wi g tt te vs) (mLc O mi f mt me vs) := by
  intro σ ρ H0 G H s Q F h
  refine hi σ ρ H0 G H s _ F ?_
  unfold mLc at h
  revert h
  cases mi ρ s with
  | err c fs s1 => exact fun h => h
  | bad => exact fun h => h
  | ok items s1 =>
    intro h J G1 H1 t1 k1 ok Da nD
    rw [bind_ok] at h
    have F1 := F.tr t1 k1
    have nDH : H Da = none := t1.dm Da nD
    have nW : ¬ O.W Da := nW_of k1 nD
    refine ⟨fun i m H2 => ∃ G2 s2 accV acc, m = (items.drop i).length ∧ Tr O.W G1 H1 G2 H2 ∧ O.ok K s2 G2 H2 ∧ G2 Da = none ∧ H2 Da = some (.lst accV) ∧ Reps K G2 accV acc ∧ PstN K O Wx σ G H (lcL O.S f mt me (wipeE ρ vs) (items.drop i) acc s2) Q, ?_, ?_⟩
    · refine ⟨items.length, G1, s1, [], [], by simp, (Tr.refl F1.gh).mut nD (F1.gh.free nD), ?_, F1.gh.free nD, upd_same, .nil, by simpa using h⟩
      exact ok_off k1 (F1.gh.free nD) nW
    · rintro i m H2 ⟨G2, s2, accV, acc, rfl, t2, k2, g2, hD, ra, h2⟩
      obtain ⟨ok1, ok2⟩ := ok G2 H2 t2.gg t2.gh i
      have F2 : Fm K O H0 σ ρ G2 H2 s2 := F1.tr t2 k2
      cases hd : items.drop i with
      | nil =>
        rw [hd] at h2
        exact .inl ⟨ok2 (by simpa using hd), h2 Da accV G2 H2 (t1.trans t2) k2 nDH g2 hD ra⟩
      | cons d ds =>
        have hlt : i < items.length := by
          by_cases z : i < items.length
          · exact z
          · rw [List.drop_eq_nil_of_le (by omega)] at hd; cases hd
        have hi? : items[i]? = some d := by
          have := List.drop_eq_getElem_cons hlt
          rw [hd] at this
          injection this with a b
          rw [List.getElem?_eq_getElem hlt, a]
        have hds : items.drop (i + 1) = ds := by
          have := List.drop_eq_getElem_cons hlt
          rw [hd] at this
          injection this with a b
          exact b.symm
        obtain ⟨go, yl⟩ := ok1 d hi?
        rw [hd] at h2
        refine .inr ⟨go, fun H3 => ∃ G3 s3 accV acc, Tr O.W G1 H1 G3 H3 ∧ O.ok K s3 G3 H3 ∧ G3 Da = none ∧ H3 Da = some (.lst accV) ∧ Reps K G3 accV acc ∧ PstN K O Wx σ G H (lcL O.S f mt me (wipeE ρ vs) ds acc s3) Q, ?_, fun x H3 y => ?_⟩
        · rintro H3 ⟨G3, s3, aV, a, b1, b2, b3, b4, b5, b6⟩
          exact ⟨ds.length, by simp, G3, s3, aV, a, by rw [hds], b1, b2, b3, b4, b5, by rw [hds]; exact b6⟩
        · obtain ⟨G3, t3, r3⟩ := yl x H3 y
          have F3 := F2.tr0 t3
          have F3w := F3.wipe vs
          have kpD : ∀ {Ga : Gh} {Ha : Hp} {Gb : Gh} {Hb : Hp}, Tr O.W Ga Ha Gb Hb → Ga Da = none → Ha Da = some (.lst accV) → Gb Da = none ∧ Hb Da = some (.lst accV) := fun {Ga Ha Gb Hb} t a b => by
            refine ⟨?_, t.kp _ _ nW (fun n => by rw [a]; simp) b⟩
            cases e : Gb Da with
            | none => rfl
            | some z => rcases t.gr Da (by rw [e]; simp) with q | q <;> simp_all
          obtain ⟨g3, hD3⟩ := kpD t3.up g2 hD
          unfold lcL at h2
          cases ef : f d (wipeE ρ vs) with
          | none => rw [ef] at h2; exact (show False from h2).elim
          | some ρ1 =>
            rw [ef] at h2
            refine hg H0 (L2.wipe σ vs) (wipeE ρ vs) G3 H3 s2 x d ρ1 _ F3w r3 ef fun σ4 F4 w4 => ?_
            refine ⟨by rw [w4 vs hv]; exact wipe_idem σ vs, ?_⟩
            refine ht σ4 ρ1 H0 G3 H3 s2 _ F4 ?_
            revert h2
            dsimp only
            cases mt ρ1 s2 with
            | bad => exact fun h2 => h2
            | err c fs s' => exact fun h2 => (show False from h2).elim
            | ok b s5 =>
              intro h2 b' G5 H5 t5 k5 e5
              subst e5
              obtain ⟨g5, hD5⟩ := kpD t5 g3 hD3
              cases b' with
              | false =>
                rw [if_neg Bool.false_ne_true]
                exact ⟨G5, s5, accV, acc, (t2.trans t3.up).trans t5, k5, g5, hD5, (ra.mono t3.gg).mono t5.gg, h2⟩
              | true =>
                rw [if_pos rfl]
                have F5 := F4.tr t5 k5
                refine he σ4 ρ1 H0 G5 H5 s5 _ F5 ?_
                revert h2
                dsimp only
                cases me ρ1 s5 with
                | bad => exact fun h2 => h2
                | err c fs s' => exact fun h2 => (show False from h2).elim
                | ok dy s6 =>
                  intro h2 yv G6 H6 t6 k6 r6
                  obtain ⟨g6, hD6⟩ := kpD t6 g5 hD5
                  have ra6 : Reps K G6 accV acc := ((ra.mono t3.gg).mono t5.gg).mono t6.gg
                  dsimp only at h2
                  split at h2
                  · rename_i hz
                    refine ⟨accV, hD6, by rw [ra6.length]; exact sz5l hz, G6, s6, accV ++ [yv], acc ++ [dy], (((t2.trans t3.up).trans t5).trans t6).mut nD g6, ?_, g6, upd_same, ra6.append (.cons r6 .nil), h2⟩
                    exact ok_off k6 g6 nW
                  · exact (show False from h2).elim
where
  wipe_idem (σ : L2.St) (vs : List Nat) : L2.wipe (L2.wipe σ vs) vs = L2.wipe σ vs := by
    have key : ∀ ws : List Nat, (∀ i ∈ ws, i ∈ vs) → L2.wipe (L2.wipe σ ws) vs = L2.wipe σ vs := by
      intro ws
      induction ws with
      | nil => intro _; rfl
      | cons w ws ih =>
        intro hw
        show L2.wipe ((L2.wipe σ ws).set w none) vs = _
        rw [wipe_set (hw w List.mem_cons_self)]
        exact ih fun i hi => hw i (List.mem_cons_of_mem _ hi)
    exact key vs fun _ h => h
/-- [e for tg in iter if ..] -/
theorem dn_lc {elt tg iter : Expr} {ifs : List Expr} {scope : Scope} {own : List (Str × Nat)} {pos : Pos} {wi : TI} {g : TG} {tt : TT} {te : TE} {mi : MI O} {f : D → Ev → Option Ev} {is : List Nat} {mt : MT O} {me : ME O} (c : Cs K Wx X) (hi : DI K O Wx X tg iter wi mi) (ok : BlkOk X.N X.env.scope scope own)
    (hg : ∀ (s : Shared) (H : Hp) (C : Addr) (cl : List (Str × Addr)) (fp : List Addr), DG K O (X.blk s H scope (compEnvC scope cl C X.env) fp) tg g f is)
    (ht : ∀ (s : Shared) (H : Hp) (C : Addr) (cl : List (Str × Addr)) (fp : List Addr), Cn K WF (X.blk s H scope (compEnvC scope cl C X.env) fp) → DTs K O WF (X.blk s H scope (compEnvC scope cl C X.env) fp) ifs tt mt)
    (he : ∀ (s : Shared) (H : Hp) (C : Addr) (cl : List (Str × Addr)) (fp : List Addr), Cn K WF (X.blk s H scope (compEnvC scope cl C X.env) fp) → DE K O WF (X.blk s H scope (compEnvC scope cl C X.env) fp) elt te me)
    (hv : ∀ i ∈ is, i ∈ own.map (·.2) := by decide) (hs : ∀ x, foldedSetIterable iter X.env x = pure x := by intro _; rfl) : DN K O Wx X (.ListComp elt [⟨tg, iter, ifs, 0⟩] scope pos) (tLc wi g tt te (own.map (·.2))) (mLc O mi f mt me (own.map (·.2))) := by
  have cn : ∀ (s : Shared) (H : Hp) (C : Addr) (cl : List (Str × Addr)) (fp : List Addr), Cn K WF (X.blk s H scope (compEnvC scope cl C X.env) fp) := fun s H C cl fp => ⟨c.cn.hK, takes0⟩
  refine ⟨c.cn.hK, c.cn.tk, pe_lc c.hc c.nd hi.pe ok (fun s H C cl fp => (hg s H C cl fp).pe) (fun s H C cl fp => (ht s H C cl fp (cn ..)).pe) (fun s H C cl fp => (he s H C cl fp (cn ..)).pe) hs, ?_⟩
  exact snd_lc hi.sn (hg X.s_0 (fun _ => none) 0 [] []).sn (ht X.s_0 (fun _ => none) 0 [] [] (cn ..)).sn (he X.s_0 (fun _ => none) 0 [] [] (cn ..)).sn hv
end
end Mr
namespace Mr
open PySem PySem.Spec PyProof.Rows L2 RZ
section
variable {K : PySem.W.Frag} {O : Wo} {Wx : WX} {X : Cx} {G0 : Gh} {H0 : Hp} {G : Gh} {H : Hp} {G1 : Gh} {H1 : Hp} {σ : L2.St} {ρ : Ev} {s s1 : O.S}
theorem own_in {x : Sl} {o : Option V} (h : SlOk K O H0 G H o x) (hx : isOwn x = true) : ∃ p u, o = some (.ref p) ∧ H p = some u := by
  cases x with
  | own xs => obtain ⟨p, vs, a, b, _⟩ := h; exact ⟨p, _, a, b⟩
  | ownD xs => obtain ⟨p, vs, a, b, _⟩ := h; exact ⟨p, _, a, b⟩
  | ownI C xs => obtain ⟨p, dx, vs, a, b, _⟩ := h; exact ⟨p, _, a, b⟩
  | _ => cases hx
/-- slot i is set to a new thing of one's own, at p -/
theorem Fm.put (f : Fm K O H0 σ ρ G H s) (t : Tr O.W G H G1 H1) (k : O.ok K s1 G1 H1) {i : Nat} {p : Addr} {x : Sl} (np : H p = none) (ok : SlOk K O H0 G1 H1 (some (.ref p)) x) : Fm K O H0 (σ.set i (some (.ref p))) (ρ.set i x) G1 H1 s1 := by
  have f1 := f.tr t k
  have far : ∀ (j : Nat) (y : Sl), ρ[j]? = some y → isOwn y = true → σ[j]? ≠ some (some (.ref p)) := fun j y a b e => by
    obtain ⟨o, e1, e2⟩ := f.at a
    rw [e] at e1
    cases e1
    obtain ⟨q, u, e3, e4⟩ := own_in e2 b
    cases e3
    rw [np] at e4
    cases e4
  refine ⟨f1.gh, f1.wg, k, by simpa using f.len, fun j o y a b => ?_, fun j l q y z hjl a b c e g => ?_⟩
  · by_cases hj : i = j
    · subst hj
      have h1 := (List.getElem?_eq_some_iff.mp a).1
      have h2 := (List.getElem?_eq_some_iff.mp b).1
      rw [List.length_set] at h1 h2
      rw [List.getElem?_set_self h1] at a
      rw [List.getElem?_set_self h2] at b
      cases a; cases b
      exact ok
    · rw [List.getElem?_set_ne hj] at a b
      exact f1.sl j o y a b
  · by_cases hj : i = j
    · subst hj
      have hl : ¬ i = l := hjl
      have h1 := (List.getElem?_eq_some_iff.mp g).1
      rw [List.length_set] at h1
      rw [List.getElem?_set_self h1] at g
      rw [List.getElem?_set_ne hl] at b ⊢
      cases g
      exact far l z b e
    · rw [List.getElem?_set_ne hj] at a g
      by_cases hl : i = l
      · subst hl
        intro g2
        have h1 := (List.getElem?_eq_some_iff.mp g2).1
        rw [List.length_set] at h1
        rw [List.getElem?_set_self h1] at g2
        cases g2
        exact far j y a c g
      · rw [List.getElem?_set_ne hl] at b ⊢
        exact f1.ds j l q y z hjl a b c e g
/-- the thing of slot i, at p, is written -/
theorem Fm.wr (f : Fm K O H0 σ ρ G H s) {i : Nat} {p : Addr} {x y : Sl} {o : HO} (hi : ρ[i]? = some x) (hx : isOwn x = true) (hy : isOwn y = true) (hp : σ[i]? = some (some (.ref p))) (gp : G p = none) (wp : ¬ O.W p) (nx : ∀ u, H p = some u → ∀ fs, u ≠ .xd fs) (ok : SlOk K O H0 G (upd H p o) (some (.ref p)) y) :
    Fm K O H0 σ (ρ.set i y) G (upd H p o) s := by
  refine ⟨f.gh.upd gp, f.wg, ok_off f.ok gp wp, by simpa using f.len, fun j o' z a b => ?_, fun j l q z z2 hjl a b c e g => ?_⟩
  · by_cases hj : i = j
    · subst hj
      have h2 := (List.getElem?_eq_some_iff.mp b).1
      rw [List.length_set] at h2
      rw [List.getElem?_set_self h2] at b
      cases b
      rw [hp] at a
      cases a
      exact ok
    · rw [List.getElem?_set_ne hj] at b
      have q := f.sl j o' z a b
      have far : isOwn z = true → o' ≠ some (.ref p) := fun hz e => by
        subst e
        exact f.ds i j p x z hj hi b hx hz hp a
      cases z with
      | no => trivial
      | sh d => exact q
      | own xs =>
        obtain ⟨r, vs, e1, e2, e3, e4, e5, e6⟩ := q
        exact ⟨r, vs, e1, by rw [upd_ne (fun e => far rfl (by rw [e1, e]))]; exact e2, e3, e4, e5, e6⟩
      | ownD xs =>
        obtain ⟨r, vs, e1, e2, e3, e4, e5, e6⟩ := q
        exact ⟨r, vs, e1, by rw [upd_ne (fun e => far rfl (by rw [e1, e]))]; exact e2, e3, e4, e5, e6⟩
      | ownI C xs =>
        obtain ⟨r, dx, vs, e1, e2, e3, e4, e5, e6⟩ := q
        exact ⟨r, dx, vs, e1, by rw [upd_ne (fun e => far rfl (by rw [e1, e]))]; exact e2, e3, e4, e5, e6⟩
      | exc c fs =>
        obtain ⟨a', dd, xs, e1, e2, e3, e4, e5⟩ := q
        exact ⟨a', dd, xs, e1, e2, e3.kp (fun d1 _ e3 => by rw [upd_ne (fun e => nx _ (by rw [← e]; exact e3) xs rfl)]; exact e3), e4, e5⟩
  · have own_of : ∀ (j : Nat) (z : Sl), (ρ.set i y)[j]? = some z → isOwn z = true → ∃ z', ρ[j]? = some z' ∧ isOwn z' = true := fun j z a c => by
      by_cases hj : i = j
      · subst hj; exact ⟨x, hi, hx⟩
      · rw [List.getElem?_set_ne hj] at a; exact ⟨z, a, c⟩
    obtain ⟨u1, a1, c1⟩ := own_of j z a c
    obtain ⟨u2, a2, c2⟩ := own_of l z2 b e
    exact f.ds j l q u1 u2 hjl a1 a2 c1 c2 g
theorem Fs.wr (f : Fs K O G0 H0 σ ρ G H s) {i : Nat} {p : Addr} {x y : Sl} {o : HO} (hi : ρ[i]? = some x) (hx : isOwn x = true) (hy : isOwn y = true) (hp : σ[i]? = some (some (.ref p))) (gp : G p = none) (wp : ¬ O.W p) (h0 : H0 p = none) (nx : ∀ u, H p = some u → ∀ fs, u ≠ .xd fs) (ok : SlOk K O H0 G (upd H p o) (some (.ref p)) y) :
    Fs K O G0 H0 σ (ρ.set i y) G (upd H p o) s := ⟨f.fm.wr hi hx hy hp gp wp nx ok, f.tr.mut h0 gp⟩
/-- x = a new list -/
def mOwn (O : Wo) (i : Nat) (m : MA O) : MS O := fun ρ s => toS (m ρ s) ρ fun xs s1 => .nx (ρ.set i (.own xs)) s1
theorem snd_own {i : Nat} {te : TE} {me : MA O} (he : SndN K O Wx te me) : SndS K O Wx (tAsg te (gName i)) (mOwn O i me) := by
  intro G0 H0 σ ρ G H s Dn F h
  refine he σ ρ H0 G H s _ F.fm ?_
  unfold mOwn at h
  revert h
  cases me ρ s with
  | ok ds s1 =>
    intro h p vs G' H' t k n g e r
    have n0 : H0 p = none := F.tr.dm p n
    have nW : ¬ O.W p := nW_of F.fm.ok n
    exact h _ G' H' t.gg ⟨F.fm.put t k n ⟨p, vs, rfl, e, r, g, nW, n0⟩, F.tr.trans t⟩
  | err c fs s' => exact fun h dd xs G' H' t k e n r => h σ dd xs G' H' t.gg (F.go t k) e n r
  | bad => exact fun h => h
theorem ds_own (i : Nat) {x : Str} {e : Expr} {te : TE} {me : MA O} {pos pos' : Pos} (hN : X.N.Nodup) (he : DN K O Wx X e te me) (hi : X.N[i]? = some x := by rfl) (hx : Loc X.env.scope x := by first | exact Or.inl rfl | exact Or.inr rfl) (hs : swapsWith e (some (.Name x pos')) pos.line X.env = pure false := by rfl)
    (hf : X.fn x = true ∨ X.env.scope.names.lookup x = some .local := by first | exact .inl rfl | exact .inr rfl | assumption) : DS K O Wx X (.Assign [.Name x pos'] e pos) (tAsg te (gName i)) (mOwn O i me) := ⟨ps_set hN hi hx he.pe hs hf, snd_own he.sn⟩
/-- x = [.. for ..], x a local: the list is told (mAsg), or one's own (mOwn) -/
structure DLc (K : PySem.W.Frag) (O : Wo) (Wx : WX) (X : Cx) (elt tg iter : Expr) (ifs : List Expr) (scope : Scope) (pos : Pos) (t : TE) (m : MA O) : Prop where
  dn : DN K O Wx X (.ListComp elt [⟨tg, iter, ifs, 0⟩] scope pos) t m
  ps : ∀ (i : Nat) (y : Str) (py spos : Pos), X.N[i]? = some y → X.env.scope.names.lookup y = some .local → swapsWith (.ListComp elt [⟨tg, iter, ifs, 0⟩] scope pos) (some (.Name y py)) spos.line X.env = pure true →
    PS X (.Assign [.Name y py] (.ListComp elt [⟨tg, iter, ifs, 0⟩] scope pos) spos) (tAsg t (gName i))
theorem dlc {elt tg iter : Expr} {ifs : List Expr} {scope : Scope} {own : List (Str × Nat)} {pos : Pos} {wi : TI} {g : TG} {tt : TT} {te : TE} {mi : MI O} {f : D → Ev → Option Ev} {is : List Nat} {mt : MT O} {me : ME O} (c : Cs K Wx X) (hi : DI K O Wx X tg iter wi mi) (ok : BlkOk X.N X.env.scope scope own)
    (hg : ∀ (s : Shared) (H : Hp) (C : Addr) (cl : List (Str × Addr)) (fp : List Addr), DG K O (X.blk s H scope (compEnvC scope cl C X.env) fp) tg g f is)
    (ht : ∀ (s : Shared) (H : Hp) (C : Addr) (cl : List (Str × Addr)) (fp : List Addr), Cn K WF (X.blk s H scope (compEnvC scope cl C X.env) fp) → DTs K O WF (X.blk s H scope (compEnvC scope cl C X.env) fp) ifs tt mt)
    (he : ∀ (s : Shared) (H : Hp) (C : Addr) (cl : List (Str × Addr)) (fp : List Addr), Cn K WF (X.blk s H scope (compEnvC scope cl C X.env) fp) → DE K O WF (X.blk s H scope (compEnvC scope cl C X.env) fp) elt te me)
    (hv : ∀ i ∈ is, i ∈ own.map (·.2) := by decide) (hs : ∀ x, foldedSetIterable iter X.env x = pure x := by intro _; rfl) : DLc K O Wx X elt tg iter ifs scope pos (tLc wi g tt te (own.map (·.2))) (mLc O mi f mt me (own.map (·.2))) := by
  have cn : ∀ (s : Shared) (H : Hp) (C : Addr) (cl : List (Str × Addr)) (fp : List Addr), Cn K WF (X.blk s H scope (compEnvC scope cl C X.env) fp) := fun s H C cl fp => ⟨c.cn.hK, takes0⟩
  exact ⟨dn_lc c hi ok hg ht he hv hs, fun i y py spos hy hyl hsw => ps_setLc c.hc c.nd hy hyl hsw hi.pe ok (fun s H C cl fp => (hg s H C cl fp).pe) (fun s H C cl fp => (ht s H C cl fp (cn ..)).pe) (fun s H C cl fp => (he s H C cl fp (cn ..)).pe) hs⟩
theorem ds_setLc (i : Nat) {y : Str} {elt tg iter : Expr} {ifs : List Expr} {scope : Scope} {pos py spos : Pos} {t : TE} {m : MA O} (hN : X.N.Nodup) (h : DLc K O Wx X elt tg iter ifs scope pos t m) (hi : X.N[i]? = some y := by rfl) (hyl : X.env.scope.names.lookup y = some .local := by rfl)
    (hsw : swapsWith (.ListComp elt [⟨tg, iter, ifs, 0⟩] scope pos) (some (.Name y py)) spos.line X.env = pure true := by exact sw_true rfl rfl rfl (by decide +kernel))
    (hf : X.fn y = true ∨ X.env.scope.names.lookup y = some .local := by first | exact .inl rfl | exact .inr rfl | assumption) : DS K O Wx X (.Assign [.Name y py] (.ListComp elt [⟨tg, iter, ifs, 0⟩] scope pos) spos) (tAsg t (gName i)) (mAsg O (mLst O m) (fName i)) :=
  ⟨h.ps i y py spos hi hyl hsw, snd_asg h.dn.de.sn (dg_name (K := K) (O := O) (X := X) (pos := py) i hN hi (.inl hyl) hf).sn⟩
theorem ds_ownLc (i : Nat) {y : Str} {elt tg iter : Expr} {ifs : List Expr} {scope : Scope} {pos py spos : Pos} {t : TE} {m : MA O} (h : DLc K O Wx X elt tg iter ifs scope pos t m) (hi : X.N[i]? = some y := by rfl) (hyl : X.env.scope.names.lookup y = some .local := by rfl)
    (hsw : swapsWith (.ListComp elt [⟨tg, iter, ifs, 0⟩] scope pos) (some (.Name y py)) spos.line X.env = pure true := by exact sw_true rfl rfl rfl (by decide +kernel)) :
    DS K O Wx X (.Assign [.Name y py] (.ListComp elt [⟨tg, iter, ifs, 0⟩] scope pos) spos) (tAsg t (gName i)) (mOwn O i m) := ⟨h.ps i y py spos hi hyl hsw, snd_own h.dn.sn⟩
theorem not_xd_l {H : Hp} {p : Addr} {vs : List V} (h : H p = some (.lst vs)) : ∀ u, H p = some u → ∀ fs, u ≠ .xd fs := fun u e fs z => by rw [h] at e; cases e; cases z
/-- x.append(e) -/
def mAppend (O : Wo) (i : Nat) (m : ME O) : MS O := fun ρ s => match ρ[i]? with
  | some (.own xs) => toS (m ρ s) ρ fun d s1 => if xs.length < 100000 then .nx (ρ.set i (.own (xs ++ [d]))) s1 else .bad
  | _ => .bad
theorem ds_append (i : Nat) {x : Str} {e : Expr} {te : TE} {me : ME O} {p1 p2 p3 p4 : Pos} (he : DE K O Wx X e te me) (hN : X.N[i]? = some x := by rfl) (hv : Vis X.env.scope x := by first | exact Or.inl rfl | exact Or.inr (Or.inl rfl) | exact Or.inr (Or.inr rfl)) (hd : (x == ("__debug__" : Str)) = false := by decide)
    (hcd : (x == ("__classdict__" : Str)) = false := by decide) (hbase : attributeBase (.Name x p1) "append" X.env (eval (.Name x p1) X.env) = eval (.Name x p1) X.env := by rfl)
    (hfew : ((backTo p3 (starEach [e] X.env)).all (fun x => !x.1) && (backToKw p3 (keywordEach [] X.env)).all (fun x => x.1.isSome) && decide ([e].length + ([] : List Keyword).length + (if ([] : List Keyword).isEmpty then 0 else 1) < 30)) = true := by rfl)
    (hline : (p2.endLine == p3.line) = true := by rfl) (hse : starEach [e] X.env = (false, eval e X.env) :: starEach [] X.env := by rfl) (hpl : (backTo p3 (starEach [] X.env)).any (·.1) = false := by rfl)
    (hs : swapsWith (.Call (.Attribute (.Name x p1) "append" p2) [e] [] p3) none p4.line X.env = pure false := by rfl) : DS K O Wx X (.Expr (.Call (.Attribute (.Name x p1) "append" p2) [e] [] p3) p4) (tDrop (tBM K "list" rAppend (tVar i) (tCons te tNil))) (mAppend O i me) := by
  refine ⟨by rw [← he.hK]; exact ps_expr (pe_bm PySem.F.plainAttrs_list PySem.F.slot_list_append PySem.F.type_list_append mt_append (pe_var hN hv hd hcd) (pa_cons he.pe pa_nil hse) hbase hfew hline hse hpl) hs, fun G0 H0 σ ρ G H s Dn F h => ?_⟩
  unfold mAppend at h
  split at h
  · rename_i xs ei
    obtain ⟨o, eo, p, vs, rfl, hp, r, gp, wp, h0⟩ := F.fm.at ei
    refine ⟨.ref p, eo, .inl ⟨rfl, vs, .inl (.inl hp)⟩, ?_⟩
    refine he.sn σ ρ H0 G H s _ F.fm (pst_toS F h fun d s1 _ v G1 H1 t1 k1 r1 h1 => ?_)
    have F1 := F.go t1 k1
    split at h1
    · rename_i hz
      obtain ⟨o', eo', p', vs', e', hp', r', gp', wp', h0'⟩ := F1.fm.at ei
      rw [eo] at eo'
      subst e'
      cases eo'
      exact ⟨p, vs', v, rfl, rfl, hp', by rw [r'.length]; exact sz5l hz, h1 σ G1 _ (Sm.refl _) (F1.wr ei rfl rfl eo gp' wp' h0' (not_xd_l hp') ⟨p, _, rfl, upd_same, r'.append (.cons r1 .nil), gp', wp', h0'⟩)⟩
    · exact (show False from h1).elim
  · exact h.elim
/-- x[e1] = e2 -/
def mSetI (O : Wo) (i : Nat) (mi me : ME O) : MS O := fun ρ s => toS (me ρ s) ρ fun d s1 => match ρ[i]? with
  | some (.own xs) => toS (mi ρ s1) ρ fun k s2 => match k with
    | .int z => match ixN xs.length z with
      | some j => .nx (ρ.set i (.own (xs.set j d))) s2
      | none => .bad
    | _ => .bad
  | _ => .bad
theorem ds_setI (i : Nat) {x : Str} {e ei : Expr} {te ti : TE} {me mi : ME O} {p1 p2 p3 : Pos} (he : DE K O Wx X e te me) (hi : DE K O Wx X ei ti mi) (hN : X.N[i]? = some x := by rfl) (hv : Vis X.env.scope x := by first | exact Or.inl rfl | exact Or.inr (Or.inl rfl) | exact Or.inr (Or.inr rfl))
    (hd : (x == ("__debug__" : Str)) = false := by decide) (hcd : (x == ("__classdict__" : Str)) = false := by decide) (hsw : swapsWithSole [.Subscript (.Name x p1) ei p2] e p3.line X.env = pure false := by rfl) (hw : swappedStores [.Subscript (.Name x p1) ei p2] e X.env = pure none := by rfl) (h1 : (assignEach [.Subscript (.Name x p1) ei p2] X.env).map (·.2) = [assign (.Subscript (.Name x p1) ei p2) X.env] := by rfl)
    (ha : ∀ v, assign (.Subscript (.Name x p1) ei p2) X.env v = (do
      let ov ← holding [v] (eval (.Name x p1) X.env)
      let iv ← holding [v, ov] (eval ei X.env)
      standAt p2
      holding [v, ov, iv] (setItem ov iv v)
      release [v, ov, iv] []) := by intro _; rfl) : DS K O Wx X (.Assign [.Subscript (.Name x p1) ei p2] e p3) (tAsg te (gSub (tVar i) ti rSetL)) (mSetI O i mi me) := by
  refine ⟨ps_asg he.pe (pg_sub (pe_var hN hv hd hcd) hi.pe set_list ha) hsw hw h1, fun G0 H0 σ ρ G H s Dn F h => ?_⟩
  refine he.sn σ ρ H0 G H s _ F.fm (pst_toS F h fun d s1 _ v G1 H1 t1 k1 r1 h1 => ?_)
  have F1 := F.go t1 k1
  split at h1
  · rename_i xs ei
    obtain ⟨o, eo, p, vs, rfl, hp, r, gp, wp, h0⟩ := F1.fm.at ei
    refine ⟨.ref p, eo, ?_⟩
    refine hi.sn σ ρ H0 G1 H1 s1 _ F1.fm (pst_toS F1 h1 fun k s2 _ kv G2 H2 t2 k2 r2 h2 => ?_)
    have F2 := F1.go t2 k2
    cases k with
    | int z =>
      cases r2
      dsimp only at h2
      split at h2
      · rename_i j ej
        obtain ⟨o', eo', p', vs', e', hp', r', gp', wp', h0'⟩ := F2.fm.at ei
        rw [eo] at eo'
        subst e'
        cases eo'
        exact ⟨p, vs', z, j, rfl, rfl, hp', by rw [r'.length]; exact ej, h2 σ G2 _ (Sm.refl _) (F2.wr ei rfl rfl eo gp' wp' h0' (not_xd_l hp') ⟨p, _, rfl, upd_same, r'.set (r1.mono t2.gg) j, gp', wp', h0'⟩)⟩
      · exact (show False from h2).elim
    | _ => exact (show False from h2).elim
  · exact (show False from h1).elim
def frzE (i : Nat) (ρ : Ev) : Ev := match ρ[i]? with
  | some (.own xs) => ρ.set i (.sh (.lst xs))
  | _ => ρ
theorem Fm.frz (f : Fm K O H0 σ ρ G H s) (i : Nat) : ∃ G', Sm G G' ∧ Sh G' H ∧ (∀ b, G' b ≠ none → G b ≠ none ∨ H0 b = none) ∧ Fm K O H0 σ (frzE i ρ) G' H s := by
  unfold frzE
  split
  · rename_i xs ei
    obtain ⟨o, eo, p, vs, rfl, hp, r, gp, wp, h0⟩ := f.at ei
    have e1 : Sm G (up G p (.lst vs)) := Sm.up gp
    have e2 : Sh (up G p (.lst vs)) H := sh_up f.gh hp
    refine ⟨up G p (.lst vs), e1, e2, fun b e => ?_, ⟨e2, fun a w => ?_, ok_up f.ok gp, by simpa using f.len, fun j o' z a b => ?_, fun j l q z z2 hjl a b c e g => ?_⟩⟩
    · by_cases hb : b = p
      · subst hb; exact .inr h0
      · rw [up_ne hb] at e; exact .inl e
    · rw [up_ne (fun e => wp (by rw [← e]; exact w))]; exact f.wg a w
    · by_cases hj : i = j
      · subst hj
        have h2 := (List.getElem?_eq_some_iff.mp b).1
        rw [List.length_set] at h2
        rw [List.getElem?_set_self h2] at b
        cases b
        rw [eo] at a
        cases a
        exact ⟨_, rfl, .lst sqL_new (r.mono e1)⟩
      · rw [List.getElem?_set_ne hj] at b
        have q := f.sl j o' z a b
        have far : isOwn z = true → o' ≠ some (.ref p) := fun hz e => by
          subst e
          exact f.ds i j p _ z hj ei b rfl hz eo a
        cases z with
        | no => trivial
        | sh d => obtain ⟨v, q1, q2⟩ := q; exact ⟨v, q1, q2.mono e1⟩
        | own xs =>
          obtain ⟨r, vs, e1', e2', e3, e4, e5, e6⟩ := q
          exact ⟨r, vs, e1', e2', e3.mono e1, by rw [up_ne (fun e => far rfl (by rw [e1', e]))]; exact e4, e5, e6⟩
        | ownD xs =>
          obtain ⟨r, vs, e1', e2', e3, e4, e5, e6⟩ := q
          exact ⟨r, vs, e1', e2', e3.mono e1, by rw [up_ne (fun e => far rfl (by rw [e1', e]))]; exact e4, e5, e6⟩
        | ownI C xs =>
          obtain ⟨r, dx, vs, e1', e2', e3, e4, e5, e6⟩ := q
          exact ⟨r, dx, vs, e1', e2', e3.mono e1, by rw [up_ne (fun e => far rfl (by rw [e1', e]))]; exact e4, e5, e6⟩
        | exc c fs =>
          obtain ⟨a', dd, xs, q1, q2, q3, q4, q5⟩ := q
          exact ⟨a', dd, xs, q1, q2, q3, q4.mono e1, q5⟩
    · by_cases hj : i = j
      · subst hj
        have h2 := (List.getElem?_eq_some_iff.mp a).1
        rw [List.length_set] at h2
        rw [List.getElem?_set_self h2] at a
        cases a
        cases c
      · by_cases hk : i = l
        · subst hk
          have h2 := (List.getElem?_eq_some_iff.mp b).1
          rw [List.length_set] at h2
          rw [List.getElem?_set_self h2] at b
          cases b
          cases e
        · rw [List.getElem?_set_ne hj] at a
          rw [List.getElem?_set_ne hk] at b
          exact f.ds j l q z z2 hjl a b c e g
  · exact ⟨G, Sm.refl _, f.gh, fun b e => .inl e, f⟩
/-- ahead of a block: slot i's list is from now on as all others -/
def mFrz (O : Wo) (i : Nat) (m : MS O) : MS O := fun ρ s => m (frzE i ρ) s
theorem SndS.frz {t : TS} {m : MS O} (i : Nat) (h : SndS K O Wx t m) : SndS K O Wx t (mFrz O i m) := by
  intro G0 H0 σ ρ G H s Dn F q
  obtain ⟨G', e1, e2, e3, F'⟩ := F.fm.frz i
  refine h G0 H0 σ (frzE i ρ) G' H s Dn ⟨F', ?_⟩ (PstS.shift e1 q)
  refine ⟨F.tr.gg.trans e1, e2, fun b e => ?_, F.tr.kp, F.tr.dm, F.tr.fz⟩
  rcases e3 b e with q | q
  · exact F.tr.gr b q
  · exact .inr q
theorem db_frz (i : Nat) {e : List Stmt} {t : TS} {m : MS O} (h : DB K O Wx X e t m) : DB K O Wx X e t (mFrz O i m) := ⟨h.pe, h.sn.frz i⟩
/-- lent for one expression whose value is a plain scalar -/
def scalD : D → Bool
  | .non => true
  | .bl _ => true
  | .int _ => true
  | .str _ => true
  | _ => false
theorem Rep.scal {v : V} {d : D} (r : Rep K G v d) (h : scalD d = true) : ∀ G', Rep K G' v d := by
  cases r <;> first | (cases h; done) | (intro G'; constructor)
def dLen : List D → Option D
  | [.lst xs] => some (.int xs.length)
  | [.tup xs] => some (.int xs.length)
  | [.str x] => if x.length ≤ 100000 then some (.int x.length) else none
  | _ => none
theorem vcl_len : VCl K (fun xs H Q => ∃ x n, xs = [x] ∧ LenV K x H n ∧ Q (.int n) H) dLen := by
  intro G H x dx d Q g rx e q
  unfold dLen at e
  split at e
  · cases e
    cases rx with
    | cons r1 r2 =>
      cases r2
      cases r1 with
      | lst hs r => exact ⟨_, _, rfl, .inl ⟨_, g.seq hs, r.length.symm⟩, q _ G H (.refl g) (.int _)⟩
  · cases e
    cases rx with
    | cons r1 r2 =>
      cases r2
      cases r1 with
      | tup hs r => exact ⟨_, _, rfl, .inr ⟨_, g.seqT hs, r.length.symm⟩, q _ G H (.refl g) (.int _)⟩
  · split at e
    · rename_i hz
      cases e
      cases rx with
      | cons r1 r2 =>
        cases r2
        cases r1
        exact ⟨_, _, rfl, ⟨sz5 hz, rfl⟩, q _ G H (.refl g) (.int _)⟩
    · cases e
  · cases e
theorem call_lenG (hK : X.K = K) : CallR X (.builtin "len") (fun xs H Q => ∃ x n, xs = [x] ∧ LenV K x H n ∧ Q (.int n) H) := by subst hK; exact call_len
def dInt1 (f : Int → Option D) : List D → Option D
  | [.int i] => f i
  | _ => none
def dAbs : List D → Option D := dInt1 fun i => some (.int (if i < 0 then -i else i))
def dIntC : List D → Option D
  | [.int i] => some (.int i)
  | [.bl k] => some (.int (if k then 1 else 0))
  | _ => none
theorem vcl_int : VCl K (fun xs H Q => (∃ i, xs = [.int i] ∧ Q (.int i) H) ∨ ∃ k, xs = [.bl k] ∧ Q (.int (if k then 1 else 0)) H) dIntC := by
  intro G H x dx d Q g rx e q
  unfold dIntC at e
  split at e
  · cases e
    cases rx with
    | cons r1 r2 =>
      cases r2
      cases r1
      exact .inl ⟨_, rfl, q _ G H (.refl g) (.int _)⟩
  · cases e
    cases rx with
    | cons r1 r2 =>
      cases r2
      cases r1
      exact .inr ⟨_, rfl, q _ G H (.refl g) (.int _)⟩
  · cases e
/-- ints of a list of data -/
def toInts : List D → Option (List Int)
  | [] => some []
  | .int i :: xs => (toInts xs).map (i :: ·)
  | _ :: _ => none
theorem Reps.toInts {G : Gh} : ∀ {vs : List V} {ds : List D} {ns : List Int}, Reps K G vs ds → Mr.toInts ds = some ns → vs = ns.map V.int
  | _, _, _, .nil, h => by cases h; rfl
  | _, _, _, .cons q r, h => by
    cases q <;> simp only [Mr.toInts, Option.map_eq_some_iff] at h <;> first | (cases h; done) | skip
    obtain ⟨ns, h1, rfl⟩ := h
    rw [Reps.toInts r h1]
    rfl
@[simp] theorem toInts_map (ns : List Int) : Mr.toInts (ns.map D.int) = some ns := by
  induction ns with
  | nil => rfl
  | cons n ns ih => simp [Mr.toInts, ih]
def toBools : List D → Option (List Bool)
  | [] => some []
  | .bl i :: xs => (toBools xs).map (i :: ·)
  | _ :: _ => none
theorem Reps.toBools {G : Gh} : ∀ {vs : List V} {ds : List D} {ns : List Bool}, Reps K G vs ds → Mr.toBools ds = some ns → vs = ns.map V.bl
  | _, _, _, .nil, h => by cases h; rfl
  | _, _, _, .cons q r, h => by
    cases q <;> simp only [Mr.toBools, Option.map_eq_some_iff] at h <;> first | (cases h; done) | skip
    obtain ⟨ns, h1, rfl⟩ := h
    rw [Reps.toBools r h1]
    rfl
@[simp] theorem toBools_map (ns : List Bool) : Mr.toBools (ns.map D.bl) = some ns := by
  induction ns with
  | nil => rfl
  | cons n ns ih => simp [Mr.toBools, ih]
def dListOf : List D → Option D
  | [.lst xs] => some (.lst xs)
  | [.tup xs] => some (.lst xs)
  | _ => none
def rListOf (K : PySem.W.Frag) : List V → Hp → VK → Prop := fun xs H Q => ∃ p ys, xs = [.ref p] ∧ (SqL K H p ys ∨ SqT K H p ys) ∧ ∀ l, H l = none → Q (.ref l) (upd H l (.lst ys))
theorem vcl_listOf : VCl K (rListOf K) dListOf := by
  intro G H x dx d Q g rx e q
  unfold dListOf at e
  split at e
  · cases e
    cases rx with
    | cons r1 r2 =>
      cases r2
      cases r1 with
      | lst hs r => exact ⟨_, _, rfl, .inl (g.seq hs), fun p n => q _ _ _ (Tr0.new g n) (new_lst g n r)⟩
  · cases e
    cases rx with
    | cons r1 r2 =>
      cases r2
      cases r1 with
      | tup hs r => exact ⟨_, _, rfl, .inr (g.seqT hs), fun p n => q _ _ _ (Tr0.new g n) (new_lst g n r)⟩
  · cases e
theorem call_listG (hK : X.K = K) : CallR X (.type "list") (rListOf K) := by subst hK; exact call_list_of
def dTupOf : List D → Option D
  | [.lst xs] => some (.tup xs)
  | [.tup xs] => some (.tup xs)
  | _ => none
def rTupOf (K : PySem.W.Frag) : List V → Hp → VK → Prop := fun xs H Q => ∃ p ys, xs = [.ref p] ∧ ((SqL K H p ys ∧ ∀ l, H l = none → Q (.ref l) (upd H l (.tup ys))) ∨ (SqT K H p ys ∧ Q (.ref p) H))
theorem vcl_tupOf : VCl K (rTupOf K) dTupOf := by
  intro G H x dx d Q g rx e q
  unfold dTupOf at e
  split at e
  · cases e
    cases rx with
    | cons r1 r2 =>
      cases r2
      cases r1 with
      | lst hs r => exact ⟨_, _, rfl, .inl ⟨g.seq hs, fun p n => q _ _ _ (Tr0.new g n) (new_tup g n r)⟩⟩
  · cases e
    cases rx with
    | cons r1 r2 =>
      cases r2
      cases r1 with
      | tup hs r => exact ⟨_, _, rfl, .inr ⟨g.seqT hs, q _ G H (.refl g) (.tup hs r)⟩⟩
  · cases e
theorem call_tupG (hK : X.K = K) : CallR X (.type "tuple") (rTupOf K) := by subst hK; exact call_tuple_of
def tyD : D → Option String
  | .non => some "NoneType"
  | .bl _ => some "bool"
  | .int _ => some "int"
  | .str _ => some "str"
  | .lst _ => some "list"
  | .tup _ => some "tuple"
  | _ => none
theorem sqL_ty {H : Hp} {a : Addr} {xs : List V} (h : SqL K H a xs) : TyX K H (.ref a) (.type "list") := by
  rcases h with (h | ⟨o, h⟩) | ⟨o, its, n, h1, h2, _⟩
  · exact .base (.lst h)
  · exact .base (.frz h)
  · exact .kList h1 h2
theorem sqT_ty {H : Hp} {a : Addr} {xs : List V} (h : SqT K H a xs) : TyX K H (.ref a) (.type "tuple") := by
  rcases h with (h | ⟨o, h⟩) | ⟨o, its, n, h1, h2, _⟩
  · exact .base (.tup h)
  · exact .fTuple h
  · exact .kTuple h1 h2
theorem Rep.ty_of {H : Hp} {v : V} {d : D} {n : String} (g : Sh G H) (r : Rep K G v d) (h : tyD d = some n) : TyX K H v (.type n) := by
  cases r with
  | non => cases h; exact .base .non
  | bl b => cases h; exact .base (.bl b)
  | int i => cases h; exact .base (.int i)
  | str x => cases h; exact .base (.str x)
  | lst hs r => cases h; exact sqL_ty (g.seq hs)
  | tup hs r => cases h; exact sqT_ty (g.seqT hs)
  | ref a => cases h
  | ty n => cases h
  | ins _ _ => cases h
  | dct _ _ => cases h
  | obj _ => cases h
def clsNames : List D → Option (List String)
  | [] => some []
  | .ty n :: xs => (clsNames xs).map (n :: ·)
  | _ :: _ => none
theorem Reps.cls {G : Gh} : ∀ {vs : List V} {ds : List D} {ns : List String}, Reps K G vs ds → clsNames ds = some ns → Paired ClsV vs (ns.map Value.type)
  | _, _, _, .nil, h => by cases h; exact .nil
  | _, _, _, .cons q r, h => by
    cases q <;> simp only [clsNames, Option.map_eq_some_iff] at h <;> first | (cases h; done) | skip
    obtain ⟨ns, h1, rfl⟩ := h
    exact .cons (.ty _) (Reps.cls r h1)
def dIsI : List D → Option D
  | [x, .ty c] => match tyD x with
    | some n => (kitB n c).map .bl
    | none => none
  | _ => none
theorem call_isiG (hK : X.K = K) : CallR X (.builtin "isinstance") (rIsi K) := by subst hK; exact call_isi
theorem vcl_isI : VCl K (rIsi K) dIsI := by
  intro G H x dx d Q g rx e q
  unfold dIsI at e
  split at e
  · split at e
    · rename_i n en
      rw [Option.map_eq_some_iff] at e
      obtain ⟨b, eb, rfl⟩ := e
      cases rx with
      | cons r1 r2 =>
        cases r2 with
        | cons r2 r3 =>
          cases r3
          cases r2
          exact ⟨_, _, _, _, b, rfl, .ty _, r1.ty_of g en, kit_ty eb, q _ G H (.refl g) (.bl _)⟩
    · cases e
  · cases e
end
end Mr
namespace Mr
open PySem PySem.Spec PyProof.Rows L2 RZ
theorem sh_mono {G : Gh} {H H' : Hp} (g : Sh G H) (h : ∀ b o, H b = some o → H' b = some o) : Sh G H' := fun b u e => (g b u e).mono (h b)
/-- what may stand in a field: a text, an int, a tuple of ints -/
def FmtV (K : PySem.W.Frag) (x : V) (H : Hp) : Prop :=
  (∃ y : Str, x = .str y ∧ y.length ≤ 20000) ∨ (∃ i : Int, x = .int i ∧ i.natAbs.log2 < 1920) ∨
    ∃ (a : Addr) (ns : List Int), x = .ref a ∧ SqT K H a (ns.map V.int) ∧ ns.length ≤ 8 ∧ ∀ n ∈ ns, n.natAbs.log2 < 1920
/-- the base class, at L -/
structure LcT (K : PySem.W.Frag) (mg : Str → Option Value) (L : Addr) : Prop where
  gL : mg "LateCopyError" = some (.ref L)
  rd : PySem.W.readsIn K L (.type "type") = true
  fc : PySem.W.findCls K (.ref L) (.type "type") "__init__" = some (.val (.builtin "ValueError.__init__"))
  sp : PySem.W.specialIn K (.ref L) "__getattribute__" = some (some (.builtin "type.__getattribute__"))
/-- an error's __init__(self, f1, ..): the fields are stored -/
def spIni (K : PySem.W.Frag) (C : Addr) (fs : List Str) : Sp := fun vs H Q _ => ∃ (a : Addr) (ws : List V), vs = .ref a :: ws ∧ ws.length = fs.length ∧ H a = some (exo a C none) ∧ (∀ v ∈ ws, FmtV K v H) ∧
  ∀ (dx : Addr) (H' : Hp), H dx = none → dx ≠ a → (∀ b, b ≠ a → b ≠ dx → H' b = H b) → H' a = some (exo a C (some dx)) → H' dx = some (exd dx (fs.zip ws).reverse) → Q .non H'
/-- what the written part says of an error class -/
structure ErT (P : Program) (w : World) (K : PySem.W.Frag) (mg : Str → Option Value) (base : Heap) (x : Str) (C : Addr) (fs : List Str) : Prop where
  gC : mg x = some (.ref C)
  T : OexC K C
  xf : XfC K C
  no : ∀ f ∈ fs, PySem.W.findIn K (.ref C) f = some none
  ini : ∃ fI fd, PySem.W.findIn K (.ref C) "__init__" = some (some (.ref fI)) ∧ PySem.W.typeIn K (.ref fI) = some (.type "function") ∧ FnOk P w K mg base CX0 1 fI fd ("self" :: fs) (spIni K C fs) ∧ Binds K fd ("self" :: fs) []
section
variable {P : Program} {w : World} {K : PySem.W.Frag} {mg : Str → Option Value} {base : Heap} {C L : Addr}
end
section
variable {K : PySem.W.Frag} {O : Wo} {Wx : WX} {X : Cx} {G0 : Gh} {H0 : Hp} {G : Gh} {H : Hp} {G1 : Gh} {H1 : Hp} {σ : L2.St} {ρ : Ev} {s s1 : O.S}
theorem Reps.mem {vs : List V} {ds : List D} (r : Reps K G vs ds) : ∀ v ∈ vs, ∃ d ∈ ds, Rep K G v d := by
  induction vs generalizing ds with
  | nil => intro v h; cases h
  | cons w vs ih =>
    cases r with
    | cons q r =>
      intro v h
      rcases List.mem_cons.mp h with e | e
      · subst e; exact ⟨_, List.mem_cons_self, q⟩
      · obtain ⟨d, h1, h2⟩ := ih r v e
        exact ⟨d, List.mem_cons_of_mem _ h1, h2⟩
theorem RepF.append : ∀ {a b : List (Str × V)} {c d : List (Str × D)}, RepF K G a c → RepF K G b d → RepF K G (a ++ b) (c ++ d)
  | _, _, _, _, .nil, r => r
  | _, _, _, _, .cons h r, q => .cons h (r.append q)
theorem RepF.reverse {a : List (Str × V)} {c : List (Str × D)} (r : RepF K G a c) : RepF K G a.reverse c.reverse := by
  induction a generalizing c with
  | nil => cases r; exact .nil
  | cons p a ih =>
    cases r with
    | cons h r =>
      rw [List.reverse_cons, List.reverse_cons]
      exact (ih r).append (.cons h .nil)
/-- the world with an exception in hand -/
def Wo.hold (O : Wo) (a : Addr) (cls : Value) (d : Option Addr) : Wo := { O with ec := fun a' d' c => a' = a ∧ d = d' ∧ cls = .ref c }
def noExc : Sl → Bool
  | .exc _ _ => false
  | _ => true
theorem slok_hold {a : Addr} {cls : Value} {d : Option Addr} {o : Option V} {x : Sl} (hx : noExc x = true) : SlOk K (O.hold a cls d) H0 G H o x ↔ SlOk K O H0 G H o x := by
  cases x <;> first | exact Iff.rfl | cases hx
theorem Fs.hold {i : Nat} {a c : Addr} {dd : Option Addr} {fs : List (Str × D)} {xs : List (Str × V)} (f : Fs K O G0 H0 σ ρ G H s) (hn : ρ.all noExc = true) (hd : XdA H dd xs) (nW : NwA O dd) (r : RepF K G xs fs) :
    Fs K (O.hold a (.ref c) dd) G0 H0 (σ.set i (some (.ref a))) (ρ.set i (.exc c fs)) G H s := by
  refine ⟨⟨f.fm.gh, f.fm.wg, f.fm.ok, by simpa using f.fm.len, fun j o x e1 e2 => ?_, fun j k p x y hjk e1 e2 c1 c2 e3 => ?_⟩, f.tr⟩
  · by_cases hj : i = j
    · subst hj
      have h1 := (List.getElem?_eq_some_iff.mp e1).1
      have h2 := (List.getElem?_eq_some_iff.mp e2).1
      rw [List.length_set] at h1 h2
      rw [List.getElem?_set_self h1] at e1
      rw [List.getElem?_set_self h2] at e2
      cases e1; cases e2
      exact ⟨a, dd, xs, rfl, ⟨rfl, rfl, rfl⟩, hd, r, nW⟩
    · rw [List.getElem?_set_ne hj] at e1 e2
      exact (slok_hold (List.all_eq_true.mp hn x (List.mem_of_getElem? e2))).mpr (f.fm.sl j o x e1 e2)
  · by_cases hj : i = j
    · subst hj
      have h2 := (List.getElem?_eq_some_iff.mp e1).1
      rw [List.length_set] at h2
      rw [List.getElem?_set_self h2] at e1
      cases e1
      cases c1
    · by_cases hk : i = k
      · subst hk
        have h2 := (List.getElem?_eq_some_iff.mp e2).1
        rw [List.length_set] at h2
        rw [List.getElem?_set_self h2] at e2
        cases e2
        cases c2
      · rw [List.getElem?_set_ne hj] at e1 e3
        rw [List.getElem?_set_ne hk] at e2
        rw [List.getElem?_set_ne hk]
        exact f.fm.ds j k p x y hjk e1 e2 c1 c2 e3
def clrS {S : Type} (i : Nat) : RS S → RS S
  | .nx ρ s => if (ρ.set i .no).all noExc = true then .nx (ρ.set i .no) s else .bad
  | .bk ρ s => if (ρ.set i .no).all noExc = true then .bk (ρ.set i .no) s else .bad
  | .ct ρ s => if (ρ.set i .no).all noExc = true then .ct (ρ.set i .no) s else .bad
  | .rt d s => .rt d s
  | .rn ds s => .rn ds s
  | _ => .bad
end
end Mr
namespace Mr
open PySem PySem.Spec PyProof.Rows L2 RZ
structure Dr where
  xs : List Int
  n : Int
  zs : List Int
  k : Int
  st : List Ob
theorem ObOk.loc {K : PySem.W.Frag} {G G' : Gh} {H H' : Hp} {a : Addr} {o : Ob} (e : Sm G G') (h : H' a = H a) (q : ObOk K G H a o) : ObOk K G' H' a o := by
  cases o with
  | lst xs => obtain ⟨vs, h1, h2⟩ := q; exact ⟨vs, h.trans h1, h2.mono e⟩
  | dct xs => obtain ⟨vs, h1, h2⟩ := q; exact ⟨vs, h.trans h1, h2.mono e⟩
  | dlk xs => obtain ⟨od, vs, h1, h2⟩ := q; exact ⟨od, vs, h.trans h1, h2.mono e⟩
  | ins C xs => obtain ⟨dx, vs, h1, h2⟩ := q; exact ⟨dx, vs, h.trans h1, h2.mono e⟩
  | dcT xs => obtain ⟨vs, h1, h2⟩ := q; exact ⟨vs, h.trans h1, h2.mono e⟩
  | dcX hf xs => obtain ⟨vs, h1, h2⟩ := q; exact ⟨vs, h.trans h1, h2.mono e⟩
theorem StOk.loc {K : PySem.W.Frag} {G G' : Gh} {H H' : Hp} {st : List Ob} (e : Sx G G') (nm : ∀ b n, Mkk G' b n → Mkk G b n) (h : ∀ a, (∃ n, Mkk G a n) → H' a = H a) (q : StOk K G H st) : StOk K G' H' st where
  at_ := fun n o ho => by
    obtain ⟨a, h1, h2⟩ := q.at_ n o ho
    exact ⟨a, h1.mono e, h2.loc e.m (h a ⟨n, h1.mk⟩)⟩
  lt := fun a n ha => q.lt a n (nm a n ha)
  inj := fun a b n ha hb => q.inj a b n (nm a n ha) (nm b n hb)
theorem StOk.off {K : PySem.W.Frag} {G : Gh} {H : Hp} {st : List Ob} {p : Addr} {o : HO} (q : StOk K G H st) (g : G p = none) : StOk K G (upd H p o) st :=
  q.loc (Sx.refl _) (fun _ _ e => e) fun a ⟨n, h⟩ => upd_ne (fun z => h.none (by rw [z]; exact g))
/-- the world of a source at d, its lists at a and b; and the store -/
abbrev DrW (d a b : Addr) : Wo where
  S := Dr
  W := fun p => p = d ∨ p = a ∨ p = b
  ok := fun K s G H => (H d = some (.lst [.ref a, .int s.n, .ref b, .int s.k]) ∧ H a = some (.lst (s.xs.map V.int)) ∧ H b = some (.lst (s.zs.map V.int))) ∧ d ≠ a ∧ d ≠ b ∧ a ≠ b ∧ StOk K G H s.st
  ec := fun _ _ _ => False
  sf := fun _ => True
  st := Dr.st
  wi := fun s l => { s with st := l }
  loc := fun K s G H G' H' e nm h k => by
    refine ⟨⟨?_, ?_, ?_⟩, k.2.1, k.2.2.1, k.2.2.2.1, k.2.2.2.2.loc e nm fun a w => h a (.inr w)⟩
    · rw [h d (.inl (.inl rfl))]; exact k.1.1
    · rw [h a (.inl (.inr (.inl rfl)))]; exact k.1.2.1
    · rw [h b (.inl (.inr (.inr rfl)))]; exact k.1.2.2
  dom := fun K s G H p k w => by
    rcases w with rfl | rfl | rfl
    · rw [k.1.1]; simp
    · rw [k.1.2.1]; simp
    · rw [k.1.2.2]; simp
  sto := fun K s G H k => k.2.2.2.2
  stu := fun K s G H G' H' l k h q => by
    refine ⟨⟨?_, ?_, ?_⟩, k.2.1, k.2.2.1, k.2.2.2.1, q⟩
    · rw [h d (.inl rfl)]; exact k.1.1
    · rw [h a (.inr (.inl rfl))]; exact k.1.2.1
    · rw [h b (.inr (.inr rfl))]; exact k.1.2.2
section
variable {K : PySem.W.Frag} {Wx : WX} {X : Cx} {d a b : Addr} {G0 : Gh} {H0 : Hp} {G : Gh} {H : Hp} {G1 : Gh} {H1 : Hp} {σ : L2.St} {ρ : Ev} {s s1 : Dr}
/-- slot i holds the source -/
def isDr (d : Addr) (i : Nat) (ρ : Ev) : Bool := match ρ[i]? with
  | some (.sh (.ref p)) => decide (p = d)
  | _ => false
theorem isDr_at {i : Nat} (F : Fm K (DrW d a b) H0 σ ρ G H s) (h : isDr d i ρ = true) : σ[i]? = some (some (.ref d)) := by
  unfold isDr at h
  split at h
  · rename_i p e
    have hp := of_decide_eq_true h
    subst hp
    obtain ⟨v, ev, r⟩ := F.get e
    cases r
    exact ev
  · cases h
theorem dr_at {j : Int} {v : V} (F : Fm K (DrW d a b) H0 σ ρ G H s) (h : atI [V.ref a, .int s.n, .ref b, .int s.k] j = some v) {Q : VK} (q : Q v H) : rIx K (.ref d) (.int j) H Q :=
  .inl ⟨d, _, j, v, rfl, rfl, .inl (.inl F.ok.1.1), h, q⟩
/-- d[1], d[3] -/
def mDrI (d a b : Addr) (i : Nat) (j : Int) : ME (DrW d a b) := fun ρ s => if isDr d i ρ = true then (if j = 1 then .ok (.int s.n) s else if j = 3 then .ok (.int s.k) s else .bad) else .bad
theorem de_drI (i : Nat) {x : Str} {j : Int} {jj : Nat} {p1 p2 pos : Pos} (c : Cn K Wx X) (hN : X.N[i]? = some x := by rfl) (hv : Vis X.env.scope x := by first | exact Or.inl rfl | exact Or.inr (Or.inl rfl) | exact Or.inr (Or.inr rfl)) (hd : (x == ("__debug__" : Str)) = false := by decide)
    (hcd : (x == ("__classdict__" : Str)) = false := by decide) : DE K (DrW d a b) Wx X (.Subscript (.Name x p1) (.Constant (.int j) jj p2) pos) (tOp (rIx K) (tVar i) (tC (.int j))) (mDrI d a b i j) := by
  refine ⟨c.hK, c.tk, pe_ix (ix_G c.hK) (pe_var hN hv hd hcd) pe_int (fun _ _ => rfl), fun σ ρ H0 G H s Q F h => ?_⟩
  unfold mDrI at h
  split at h
  · rename_i hi
    refine ⟨.ref d, isDr_at F hi, ?_⟩
    split at h
    · rename_i e
      subst e
      exact dr_at F rfl (h _ G H (.refl F.gh) F.ok (.int _))
    · split at h
      · rename_i e
        subst e
        exact dr_at F rfl (h _ G H (.refl F.gh) F.ok (.int _))
      · exact (show False from h).elim
  · exact (show False from h).elim
/-- the list of d[0], of d[2] -/
def drL (s : Dr) (j : Int) : Option (List Int) := if j = 0 then some s.xs else if j = 2 then some s.zs else none
theorem drL_at {j : Int} {ns : List Int} (F : Fm K (DrW d a b) H0 σ ρ G H s) (h : drL s j = some ns) : ∃ p, atI [V.ref a, .int s.n, .ref b, .int s.k] j = some (.ref p) ∧ H p = some (.lst (ns.map V.int)) := by
  unfold drL at h
  split at h
  · rename_i e
    subst e
    cases h
    exact ⟨a, rfl, F.ok.1.2.1⟩
  · split at h
    · rename_i e
      subst e
      cases h
      exact ⟨b, rfl, F.ok.1.2.2⟩
    · cases h
/-- d[j] != [] -/
def mDrNe (d a b : Addr) (i : Nat) (j : Int) : MT (DrW d a b) := fun ρ s => if isDr d i ρ = true then (match drL s j with
  | some ns => .ok (!ns.isEmpty) s
  | none => .bad) else .bad
theorem dpAll_ints {H : Hp} : ∀ ns : List Int, DpAll K H (ns.map V.int) (ns.map PyData.int)
  | [] => .nil
  | n :: ns => .cons (.int n) (dpAll_ints ns)
theorem shaped_ints (ns : List Int) : SeqAt.shaped (.list (ns.map PyData.int)) = true := by
  have h1 : ∀ ns : List Int, PyData.canLayAll0 (ns.map PyData.int) = true := by
    intro ns
    induction ns with
    | nil => simp [PyData.canLayAll0]
    | cons n ns ih => simp [PyData.canLayAll0, PyData.canLay0, ih]
  have h2 : (PyData.list (ns.map PyData.int)).depth ≤ 64 := by
    have h3 : ∀ ns : List Int, PyData.depthAll (ns.map PyData.int) ≤ 1 := by
      intro ns
      induction ns with
      | nil => simp [PyData.depthAll]
      | cons n ns ih => simp [PyData.depthAll, PyData.depth]; exact ih
    have := h3 ns
    simp only [PyData.depth]
    omega
  unfold SeqAt.shaped
  simp [PyData.canLay0, h1, h2]
theorem dt_drNe (i : Nat) {x : Str} {j : Int} {jj k : Nat} {p1 p2 p3 p4 pos : Pos} (c : Cn K Wx X) (hr : Room k X.A) (hN : X.N[i]? = some x := by rfl) (hv : Vis X.env.scope x := by first | exact Or.inl rfl | exact Or.inr (Or.inl rfl) | exact Or.inr (Or.inr rfl)) (hd : (x == ("__debug__" : Str)) = false := by decide)
    (hcd : (x == ("__classdict__" : Str)) = false := by decide) : DT K (DrW d a b) Wx X (.Compare (.Subscript (.Name x p1) (.Constant (.int j) jj p2) p3) [.NotEq] [.List [] p4] pos) (tTest (tOp (rNeG K) (tOp (rIx K) (tVar i) (tC (.int j))) (tLst tNil))) (mDrNe d a b i j) := by
  refine ⟨c.hK, c.tk, pt_cmpR (op_neG c.hK hr.units) (pe_ix (ix_G c.hK) (pe_var hN hv hd hcd) pe_int (fun _ _ => rfl)) (pe_lst pa_nil) (nomark _), fun σ ρ H0 G H s Q F h => ?_⟩
  unfold mDrNe at h
  split at h
  · rename_i hi
    refine ⟨.ref d, isDr_at F hi, ?_⟩
    split at h
    · rename_i ns e
      obtain ⟨p, e1, e2⟩ := drL_at F e
      refine dr_at F e1 ⟨Nat.zero_le _, fun q nq => ?_⟩
      have t := Tr0.hid (o := .lst []) F.gh nq
      have pq : p ≠ q := ne_of_none e2 nq
      refine .inr ⟨.list (ns.map .int), .list [], .lst (.inl (.inl (by rw [upd_ne pq]; exact e2))) (dpAll_ints ns), .lst (.inl (.inl upd_same)) .nil, shaped_ints ns, shaped_ints [], _, rfl, ?_⟩
      have ev : (!PyData.eqv (.list (ns.map PyData.int)) (.list [])) = !ns.isEmpty := by
        cases ns <;> simp [PyData.eqv, PyData.eqvAll]
      rw [ev]
      exact h _ G _ t.up (F.keepW t) rfl
    · exact (show False from h).elim
  · exact (show False from h).elim
/-- d[j][e] -/
def mDrIx (d a b : Addr) (i : Nat) (j : Int) (m : ME (DrW d a b)) : ME (DrW d a b) := fun ρ s => if isDr d i ρ = true then (match drL s j with
  | some ns => (m ρ s).bind fun z s1 => match z with
    | .int z => R.lift ((atI ns z).map .int) s1
    | _ => .bad
  | none => .bad) else .bad
theorem atI_map {ns : List Int} {z n : Int} (h : atI ns z = some n) : atI (ns.map V.int) z = some (.int n) := by
  unfold atI at h ⊢
  rw [List.length_map]
  cases e : ixN ns.length z with
  | none => rw [e] at h; cases h
  | some j =>
    rw [e] at h
    have h' : ns[j]? = some n := h
    show (ns.map V.int)[j]? = some (.int n)
    rw [List.getElem?_map, h']
    rfl
theorem de_drIx (i : Nat) {x : Str} {j : Int} {jj : Nat} {e : Expr} {te : TE} {me : ME (DrW d a b)} {p1 p2 p3 pos : Pos} (he : DE K (DrW d a b) Wx X e te me) (hw : ∀ ρ s z s1, me ρ s = .ok z s1 → s1 = s) (hN : X.N[i]? = some x := by rfl) (hv : Vis X.env.scope x := by first | exact Or.inl rfl | exact Or.inr (Or.inl rfl) | exact Or.inr (Or.inr rfl)) (hd : (x == ("__debug__" : Str)) = false := by decide)
    (hcd : (x == ("__classdict__" : Str)) = false := by decide) (hs : PlainIx e := by exact fun _ _ => rfl) : DE K (DrW d a b) Wx X (.Subscript (.Subscript (.Name x p1) (.Constant (.int j) jj p2) p3) e pos) (tOp (rIx K) (tOp (rIx K) (tVar i) (tC (.int j))) te) (mDrIx d a b i j me) := by
  refine ⟨he.hK, he.tk, pe_ix (ix_G he.hK) (pe_ix (ix_G he.hK) (pe_var hN hv hd hcd) pe_int (fun _ _ => rfl)) he.pe hs, fun σ ρ H0 G H s Q F h => ?_⟩
  unfold mDrIx at h
  split at h
  · rename_i hi
    refine ⟨.ref d, isDr_at F hi, ?_⟩
    split at h
    · rename_i ns ed
      obtain ⟨p, e1, e2⟩ := drL_at F ed
      refine dr_at F e1 ?_
      refine he.sn σ ρ H0 G H s _ F (pst_bind h fun z s1 em zv G1 H1 t1 k1 r1 h1 => ?_)
      have hs1 := hw _ _ _ _ em
      subst hs1
      have F1 := F.tr t1 k1
      cases z with
      | int z =>
        cases r1
        dsimp only at h1
        cases ea : atI ns z with
        | none => rw [ea] at h1; exact (show False from h1).elim
        | some n =>
          rw [ea] at h1
          obtain ⟨p', e1', e2'⟩ := drL_at F1 ed
          rw [e1] at e1'
          cases e1'
          exact .inl ⟨p, _, z, .int n, rfl, rfl, .inl (.inl e2'), atI_map ea, h1 _ G1 H1 (.refl t1.gh) k1 (.int _)⟩
      | _ => exact (show False from h1).elim
    · exact (show False from h).elim
  · exact (show False from h).elim
/-- len(d[j]) -/
def mDrLen (d a b : Addr) (i : Nat) (j : Int) : ME (DrW d a b) := fun ρ s => if isDr d i ρ = true then (match drL s j with
  | some ns => .ok (.int ns.length) s
  | none => .bad) else .bad
theorem de_drLen (i : Nat) {x : Str} {j : Int} {jj : Nat} {p p1 p2 p3 pos : Pos} (c : Cn K Wx X) (hm : X.mg "len" = none) (hN : X.N[i]? = some x := by rfl) (hv : Vis X.env.scope x := by first | exact Or.inl rfl | exact Or.inr (Or.inl rfl) | exact Or.inr (Or.inr rfl)) (hd : (x == ("__debug__" : Str)) = false := by decide)
    (hcd : (x == ("__classdict__" : Str)) = false := by decide) (hg : Gl X "len" := by rfl) (he : starEach [.Subscript (.Name x p1) (.Constant (.int j) jj p2) p3] X.env = (false, eval (.Subscript (.Name x p1) (.Constant (.int j) jj p2) p3) X.env) :: starEach [] X.env := by rfl) (hpl : (backTo pos (starEach [] X.env)).any (·.1) = false := by rfl) :
    DE K (DrW d a b) Wx X (.Call (.Name "len" p) [.Subscript (.Name x p1) (.Constant (.int j) jj p2) p3] [] pos) (tCB (fun xs H Q => ∃ x n, xs = [x] ∧ LenV K x H n ∧ Q (.int n) H) (tCons (tOp (rIx K) (tVar i) (tC (.int j))) tNil)) (mDrLen d a b i j) := by
  refine ⟨c.hK, c.tk, pe_callB (call_lenG c.hK) hg hm PySem.boot_len (pa_cons (pe_ix (ix_G c.hK) (pe_var hN hv hd hcd) pe_int (fun _ _ => rfl)) pa_nil he) (by decide) (by decide) he hpl, fun σ ρ H0 G H s Q F h => ?_⟩
  unfold mDrLen at h
  split at h
  · rename_i hi
    refine ⟨.ref d, isDr_at F hi, ?_⟩
    split at h
    · rename_i ns e
      obtain ⟨p, e1, e2⟩ := drL_at F e
      refine dr_at F e1 ⟨_, ns.length, rfl, .inl ⟨_, .inl (.inl e2), by simp⟩, h _ G H (.refl F.gh) F.ok (.int _)⟩
    · exact (show False from h).elim
  · exact (show False from h).elim
/-- the source's own list is written -/
theorem Fs.drw0 (F : Fs K (DrW d a b) G0 H0 σ ρ G H s) (n k : Int) : Fs K (DrW d a b) G0 H0 σ ρ G (upd H d (.lst [.ref a, .int n, .ref b, .int k])) { s with n := n, k := k } := by
  have hd := F.fm.ok
  have t : Tr (DrW d a b).W G H G (upd H d (.lst [.ref a, .int n, .ref b, .int k])) := by
    refine ⟨Sm.refl _, F.fm.gh.upd (F.fm.wg d (.inl rfl)), fun c e => .inl e, fun c u w m e => ?_, fun c e => ?_, fun c u v e => ?_⟩
    · rw [upd_ne (fun z => w (.inl z))]; exact e
    · by_cases hc : c = d
      · subst hc; rw [upd_same] at e; cases e
      · rw [upd_ne hc] at e; exact e
    · rw [upd_ne (fun z => by subst z; rw [hd.1.1] at e; cases e)]; exact e
  refine F.go t ⟨⟨upd_same, ?_, ?_⟩, hd.2.1, hd.2.2.1, hd.2.2.2.1, hd.2.2.2.2.off (F.fm.wg d (.inl rfl))⟩
  · rw [upd_ne (Ne.symm hd.2.1)]; exact hd.1.2.1
  · rw [upd_ne (Ne.symm hd.2.2.1)]; exact hd.1.2.2
/-- d[1] = e, d[3] = e -/
def mDrSet (d a b : Addr) (i : Nat) (j : Int) (m : ME (DrW d a b)) : MS (DrW d a b) := fun ρ s => toS (m ρ s) ρ fun z s1 => if isDr d i ρ = true then (match z with
  | .int z => if j = 1 then .nx ρ { s1 with n := z } else if j = 3 then .nx ρ { s1 with k := z } else .bad
  | _ => .bad) else .bad
theorem ds_drSet (i : Nat) {x : Str} {j : Int} {jj : Nat} {e : Expr} {te : TE} {me : ME (DrW d a b)} {p1 p2 p3 pos : Pos} (he : DE K (DrW d a b) Wx X e te me) (hN : X.N[i]? = some x := by rfl) (hv : Vis X.env.scope x := by first | exact Or.inl rfl | exact Or.inr (Or.inl rfl) | exact Or.inr (Or.inr rfl)) (hd : (x == ("__debug__" : Str)) = false := by decide)
    (hcd : (x == ("__classdict__" : Str)) = false := by decide) (hs : swapsWith e (some (.Subscript (.Name x p1) (.Constant (.int j) jj p2) p3)) pos.line X.env = pure false := by rfl) :
    DS K (DrW d a b) Wx X (.Assign [.Subscript (.Name x p1) (.Constant (.int j) jj p2) p3] e pos) (tAsg te (gSub (tVar i) (tC (.int j)) rSetL)) (mDrSet d a b i j me) := by
  refine ⟨ps_asg he.pe (pg_sub (pe_var hN hv hd hcd) pe_int set_list) hs, fun G0 H0 σ ρ G H s Dn F h => ?_⟩
  refine he.sn σ ρ H0 G H s _ F.fm (pst_toS F h fun z s1 _ zv G1 H1 t1 k1 r1 h1 => ?_)
  have F1 := F.go t1 k1
  split at h1
  · rename_i hi
    refine ⟨.ref d, isDr_at F1.fm hi, ?_⟩
    cases z with
    | int z =>
      cases r1
      dsimp only at h1
      have drw : ∀ n k, Fs K (DrW d a b) G0 H0 σ ρ G1 (upd H1 d (.lst [.ref a, .int n, .ref b, .int k])) { s1 with n := n, k := k } := fun n k => F1.drw0 n k
      split at h1
      · rename_i e
        subst e
        exact ⟨d, _, 1, 1, rfl, rfl, F1.fm.ok.1.1, rfl, h1 σ G1 _ (Sm.refl _) (drw z s1.k)⟩
      · split at h1
        · rename_i e
          subst e
          exact ⟨d, _, 3, 3, rfl, rfl, F1.fm.ok.1.1, rfl, h1 σ G1 _ (Sm.refl _) (drw s1.n z)⟩
        · exact (show False from h1).elim
    | _ => exact (show False from h1).elim
  · exact (show False from h1).elim
/-- d[1] = d[0].pop(0) -/
def mDrPop (d a b : Addr) (i : Nat) : MS (DrW d a b) := fun ρ s => if isDr d i ρ = true then (match s.xs with
  | [] => .bad
  | x :: xs => .nx ρ { s with n := x, xs := xs }) else .bad
theorem ds_drPop (i : Nat) {x : Str} {j1 j2 j3 : Nat} {p1 p2 p3 p4 p5 p6 p7 p8 p9 pos : Pos} (c : Cn K Wx X) (hN : X.N[i]? = some x := by rfl) (hv : Vis X.env.scope x := by first | exact Or.inl rfl | exact Or.inr (Or.inl rfl) | exact Or.inr (Or.inr rfl)) (hd : (x == ("__debug__" : Str)) = false := by decide)
    (hcd : (x == ("__classdict__" : Str)) = false := by decide)
    (hps : PS X (.Assign [.Subscript (.Name x p1) (.Constant (.int 1) j1 p2) p3] (.Call (.Attribute (.Subscript (.Name x p4) (.Constant (.int 0) j2 p5) p6) "pop" p7) [.Constant (.int 0) j3 p8] [] p9) pos) (tAsg (tBM X.K "list" rPopAt (tOp (rIx X.K) (tVar i) (tC (.int 0))) (tCons (tC (.int 0)) tNil)) (gSub (tVar i) (tC (.int 1)) rSetL)) := by
      exact ps_asg (pe_bm PySem.F.plainAttrs_list PySem.F.slot_list_pop PySem.F.type_list_pop mt_popAt (pe_ix (ix_G rfl) (pv _) pe_int (fun _ _ => rfl)) (pa_cons pe_int pa_nil)) (pg_sub (pv _) pe_int set_list)) :
    DS K (DrW d a b) Wx X (.Assign [.Subscript (.Name x p1) (.Constant (.int 1) j1 p2) p3] (.Call (.Attribute (.Subscript (.Name x p4) (.Constant (.int 0) j2 p5) p6) "pop" p7) [.Constant (.int 0) j3 p8] [] p9) pos)
      (tAsg (tBM K "list" rPopAt (tOp (rIx K) (tVar i) (tC (.int 0))) (tCons (tC (.int 0)) tNil)) (gSub (tVar i) (tC (.int 1)) rSetL)) (mDrPop d a b i) := by
  refine ⟨by rw [← c.hK]; exact hps, fun G0 H0 σ ρ G H s Dn F h => ?_⟩
  unfold mDrPop at h
  split at h
  · rename_i hi
    obtain ⟨xs, n, zs, k, st⟩ := s
    dsimp only at h
    cases xs with
    | nil => exact (show False from h).elim
    | cons y ys =>
      have ok := F.fm.ok
      have ed := isDr_at F.fm hi
      refine ⟨.ref d, ed, dr_at F.fm (v := .ref a) rfl ⟨.inl ⟨rfl, _, .inl (.inl ok.1.2.1)⟩, a, _, 0, 0, .int y, rfl, rfl, ok.1.2.1, by decide, by decide, (ixN_seq (j := 0) (by simp [ixN])).1, rfl, ?_⟩⟩
      have hda : (upd H a (.lst (((y :: ys).map V.int).eraseIdx 0))) d = some (.lst [.ref a, .int n, .ref b, .int k]) := by
        rw [upd_ne ok.2.1]; exact ok.1.1
      refine ⟨.ref d, ed, d, _, 1, 1, rfl, rfl, hda, rfl, ?_⟩
      have wgd := F.fm.wg d (.inl rfl)
      have wga := F.fm.wg a (.inr (.inl rfl))
      have t : Tr (DrW d a b).W G H G (upd (upd H a (.lst (ys.map V.int))) d (.lst [.ref a, .int y, .ref b, .int k])) := by
        refine ⟨Sm.refl _, (F.fm.gh.upd wga).upd wgd, fun c e => .inl e, fun c u w m e => ?_, fun c e => ?_, fun c u v e => ?_⟩
        · rw [upd_ne (fun z => w (.inl z)), upd_ne (fun z => w (.inr (.inl z)))]; exact e
        · by_cases hc : c = d
          · subst hc; rw [upd_same] at e; cases e
          · rw [upd_ne hc] at e
            by_cases hc2 : c = a
            · subst hc2; rw [upd_same] at e; cases e
            · rw [upd_ne hc2] at e; exact e
        · rw [upd_ne (fun z => by subst z; rw [ok.1.1] at e; cases e), upd_ne (fun z => by subst z; rw [ok.1.2.1] at e; cases e)]; exact e
      refine h σ G _ (Sm.refl _) (F.go t ⟨⟨upd_same, ?_, ?_⟩, ok.2.1, ok.2.2.1, ok.2.2.2.1, (ok.2.2.2.2.off wga).off wgd⟩)
      · rw [upd_ne (Ne.symm ok.2.1), upd_same]; rfl
      · rw [upd_ne (Ne.symm ok.2.2.1), upd_ne (Ne.symm ok.2.2.2.1)]; exact ok.1.2.2
  · exact (show False from h).elim
end
end Mr
namespace Mr
open PySem PySem.Spec PyProof.Rows L2 RZ
def putP {β : Type} (kvs : List (Key × β)) (k : Key) (v : β) : List (Key × β) := if (kvs.any fun kv => decide (kv.1 = k)) = true then kvs.map (fun kv => if kv.1 = k then (kv.1, v) else kv) else kvs ++ [(k, v)]
def valP {β : Type} (kvs : List (Key × β)) (k : Key) : Option β := (kvs.find? fun kv => decide (kv.1 = k)).map (·.2)
def mergeP {β : Type} (kvs more : List (Key × β)) : List (Key × β) := more.foldl (fun acc kv => putP acc kv.1 kv.2) kvs
def toKey : D → Option Key
  | .int i => some (.inl i)
  | .str x => some (.inr x)
  | _ => none
section
variable {K : PySem.W.Frag} {O : Wo} {Wx : WX} {X : Cx} {G0 : Gh} {H0 : Hp} {G : Gh} {H : Hp} {G1 : Gh} {H1 : Hp} {σ : L2.St} {ρ : Ev} {s s1 : O.S}
theorem Rep.key {v : V} {d : D} {k : Key} (r : Rep K G v d) (h : toKey d = some k) : v = kV k := by
  cases r <;> cases h <;> rfl
theorem RepK.any {vs : List (Key × V)} {ds : List (Key × D)} (r : RepK K G vs ds) (k : Key) : (vs.any fun kv => decide (kv.1 = k)) = ds.any fun kv => decide (kv.1 = k) := by
  induction vs generalizing ds with
  | nil => cases r; rfl
  | cons p vs ih =>
    cases r with
    | cons h r => rw [List.any_cons, List.any_cons, ih r]
theorem RepK.mapK {v : V} {d : D} (q : Rep K G v d) (k : Key) : ∀ {vs : List (Key × V)} {ds : List (Key × D)}, RepK K G vs ds → RepK K G (vs.map (fun kv => if kv.1 = k then (kv.1, v) else kv)) (ds.map (fun kv => if kv.1 = k then (kv.1, d) else kv))
  | _, _, .nil => .nil
  | (f, _) :: _, _, .cons h r => by
    rw [List.map_cons, List.map_cons]
    by_cases e : f = k
    · subst e
      simp only [if_true]
      exact .cons q (r.mapK q f)
    · simp only [e, if_false]
      exact .cons h (r.mapK q k)
theorem RepK.append : ∀ {a b : List (Key × V)} {c d : List (Key × D)}, RepK K G a c → RepK K G b d → RepK K G (a ++ b) (c ++ d)
  | _, _, _, _, .nil, r => r
  | _, _, _, _, .cons h r, q => .cons h (r.append q)
theorem RepK.put {v : V} {d : D} {k : Key} {vs : List (Key × V)} {ds : List (Key × D)} (r : RepK K G vs ds) (q : Rep K G v d) : RepK K G (putK vs k v) (putP ds k d) := by
  unfold putK putP
  rw [r.any k]
  split
  · exact r.mapK q k
  · exact r.append (.cons q .nil)
theorem RepK.merge : ∀ {ms vs : List (Key × V)} {es ds : List (Key × D)}, RepK K G ms es → RepK K G vs ds → RepK K G (mergeK vs ms) (mergeP ds es)
  | _, _, _, _, .nil, r => r
  | _, _, _, _, .cons h m, r => m.merge (r.put h)
theorem RepK.val {vs : List (Key × V)} {ds : List (Key × D)} {k : Key} {d : D} (r : RepK K G vs ds) (h : valP ds k = some d) : ∃ v, valV vs k = some v ∧ Rep K G v d := by
  induction vs generalizing ds with
  | nil => cases r; cases h
  | cons p vs ih =>
    cases r with
    | @cons f v e vs ds q r =>
      unfold valP at h
      rw [List.find?_cons] at h
      unfold valV
      rw [List.find?_cons]
      by_cases hf : f = k
      · subst hf
        simp only [decide_true] at h ⊢
        cases h
        exact ⟨v, rfl, q⟩
      · simp only [hf, decide_false] at h ⊢
        exact ih r h
theorem RepK.length {vs : List (Key × V)} {ds : List (Key × D)} (r : RepK K G vs ds) : vs.length = ds.length := by
  induction vs generalizing ds with
  | nil => cases r; rfl
  | cons p vs ih =>
    cases r with
    | cons q r => rw [List.length_cons, List.length_cons, ih r]
abbrev MP (O : Wo) := Ev → O.S → R O.S (List (D × D))
def pairR (K : PySem.W.Frag) (G : Gh) : List (V × V) → List (D × D) → Prop
  | [], [] => True
  | (x, y) :: ps, (a, b) :: ds => Rep K G x a ∧ Rep K G y b ∧ pairR K G ps ds
  | _, _ => False
theorem pairR.mono (e : Sm G G1) : ∀ {ps : List (V × V)} {ds : List (D × D)}, pairR K G ps ds → pairR K G1 ps ds
  | [], [], _ => trivial
  | (x, y) :: ps, (a, b) :: ds, h => ⟨h.1.mono e, h.2.1.mono e, pairR.mono e h.2.2⟩
  | [], _ :: _, h => h.elim
  | _ :: _, [], h => h.elim
def SndP (K : PySem.W.Frag) (O : Wo) (Wx : WX) (t : List (TE × TE)) (m : MP O) : Prop := ∀ σ ρ H0 G H s Q, Fm K O H0 σ ρ G H s → Pst K O Wx σ G H (pairR K) (m ρ s) Q → tPairs t σ H Q
structure DPs (K : PySem.W.Frag) (O : Wo) (Wx : WX) (X : Cx) (pos : Pos) (ks : List (Option Expr)) (vs : List Expr) (t : List (TE × TE)) (m : MP O) : Prop where
  hK : X.K = K
  tk : Takes X Wx
  pe : PPs X pos ks vs t
  sn : SndP K O Wx t m
end
end Mr
namespace Mr
open PySem PySem.Spec PyProof.Rows L2 RZ
section
variable {K : PySem.W.Frag} {O : Wo} {Wx : WX} {X : Cx} {G0 : Gh} {H0 : Hp} {G : Gh} {H : Hp} {G1 : Gh} {H1 : Hp} {σ : L2.St} {ρ : Ev} {s s1 : O.S}
def asSeq : D → Option (List D)
  | .lst xs => some xs
  | .tup xs => some xs
  | _ => none
def iSeq (K : PySem.W.Frag) (tl : TE) : TI := fun σ H R => tl σ H fun x H1 => ∃ a, x = .ref a ∧ (((∃ xs, SqL K H1 a xs) ∧ R (Itl K a) H1) ∨ ((∃ xs, SqT K H1 a xs) ∧ R (Itt K a) H1))
theorem pi_seq {tg l : Expr} {tl : TE} (hl : PE X l tl) : PI X tg l (iSeq X.K tl) := by
  refine ⟨fun pins s σ H R I h => ?_⟩
  refine thn (hl.run pins s σ H _ I h) fun v s1 ⟨x, H1, I1, r1, q1⟩ => ?_
  obtain ⟨a, e, q1⟩ := q1
  subst e
  cases r1
  rcases q1 with ⟨⟨xs, hq⟩, q⟩ | ⟨⟨xs, hq⟩, q⟩
  · obtain ⟨its, rv, p, hz⟩ := I1.list hq
    refine wpAny_pyIter_list p.isList ?_
    refine ⟨s1.heap.objs.size, [s1.heap.objs.size], _, _, H1, rfl, I1.kept (t' := s1.toks) fun b o e => Heap.get?_push_of_some _ e, turn_list a _, ⟨_, Heap.get?_push_size _ rfl, rfl, rfl⟩, fun b hb => ?_, q⟩
    have e : b = s1.heap.objs.size := by simpa using hb
    subst e
    exact I1.fpOk (Nat.le_refl _) (I1.hok.fresh (Nat.le_refl _))
  · obtain ⟨its, rv, p, hz⟩ := I1.tuple hq
    refine wpAny_pyIter_tuple (show s1.heap.IsTuple a its.toArray from p) ?_
    refine ⟨s1.heap.objs.size, [s1.heap.objs.size], _, _, H1, rfl, I1.kept (t' := s1.toks) fun b o e => Heap.get?_push_of_some _ e, turn_tuple a _, ⟨_, Heap.get?_push_size _ rfl, rfl, rfl⟩, fun b hb => ?_, q⟩
    have e : b = s1.heap.objs.size := by simpa using hb
    subst e
    exact I1.fpOk (Nat.le_refl _) (I1.hok.fresh (Nat.le_refl _))
def mItS (O : Wo) (m : ME O) : MI O := fun ρ s => (m ρ s).bind fun x s1 => R.lift (asSeq x) s1
theorem di_seq {tg e : Expr} {te : TE} {me : ME O} (he : DE K O Wx X e te me) : DI K O Wx X tg e (iSeq K te) (mItS O me) := by
  refine ⟨by have := he.hK; subst this; exact pi_seq he.pe, fun σ ρ H0 G H s Q F h => ?_⟩
  refine he.sn σ ρ H0 G H s _ F (pst_bind h fun dx s1 _ x G1 H1 t1 k1 r1 h1 => ?_)
  cases r1 with
  | lst hs r => exact ⟨_, rfl, .inl ⟨⟨_, t1.gh.seq hs⟩, h1 _ G1 H1 (.refl t1.gh) k1 (it_list hs r)⟩⟩
  | tup hs r => exact ⟨_, rfl, .inr ⟨⟨_, t1.gh.seqT hs⟩, h1 _ G1 H1 (.refl t1.gh) k1 (it_tup hs r)⟩⟩
  | _ => exact (show False from h1).elim
structure GC (K : PySem.W.Frag) (mg : Str → Option Value) (x : Str) (v : V) (d : D) : Prop where
  ex : ∃ u, mg x = some u ∧ RelV v u ∧ ∀ G, Rep K G v d
theorem GC.de {x : Str} {v : V} {d : D} {pos : Pos} (h : GC K X.mg x v d) (c : Cn K Wx X) (hg : Gl X x := by rfl) (hdb : (x == ("__debug__" : Str)) = false := by decide) : DE K O Wx X (.Name x pos) (tC v) (mC O d) := by
  obtain ⟨u, hm, r, q⟩ := h.ex
  exact de_glob c hm r q hg hdb
theorem gc_int {mg : Str → Option Value} {x : Str} {i : Int} {t : Tok} (hm : mg x = some (.int i t)) : GC K mg x (.int i) (.int i) := ⟨_, hm, ⟨_, rfl⟩, fun _ => .int i⟩
theorem Fo.never {P : Program} {w : World} {mg : Str → Option Value} {base : Heap} {k n : Nat} {x : Str} {f : Addr} {fd : FuncData} {ps : List Str} (hm : mg x = some (.ref f)) (kp : PySem.W.keepIn K (.ref f) = true) (b : Binds K fd ps []) (hn : ps.length = n) : Fo P w K mg base O k x n (fun _ _ => .bad) :=
  ⟨f, fd, ps, ⟨fun vs H Q E h => by rw [hn]; exact h.1, fun A outer s H args us vs Q E hr he hb hv h => by
    obtain ⟨_, G, ds, s0, _, _, _, _, q⟩ := h
    exact (show False from q).elim⟩, hm, kp, b⟩
def tEx {ι : Type} (u : ι → TS) : TS := fun D σ H => ∃ o, u o D σ H
theorem pss_ex {ι : Type} {sts : List Stmt} {u : ι → TS} (h : ∀ o, PSs X sts (u o)) : PSs X sts (tEx u) := ⟨fun pins s σ H D I q => by
  obtain ⟨o, q⟩ := q
  exact (h o).run pins s σ H D I q⟩
end
/-- the world in which nothing but the store is changed -/
abbrev W0 : Wo where
  S := List Ob
  W := fun _ => False
  ok := fun K s G H => StOk K G H s
  ec := fun _ _ _ => False
  sf := fun _ => True
  st := fun s => s
  wi := fun _ l => l
  loc := fun K s G H G' H' e nm h k => k.loc e nm fun a w => h a (.inr w)
  dom := fun _ _ _ _ _ _ w => w.elim
  sto := fun _ _ _ _ k => k
  stu := fun _ _ _ _ _ _ _ _ _ q => q
/-- all that stands in H is known for good -/
def gf (H : Hp) : Gh := fun a => (H a).map .fro
theorem gf_some {H : Hp} {a : Addr} {o : HO} : gf H a = some (.fro o) ↔ H a = some o := by
  unfold gf
  cases H a <;> simp
theorem gf_mk {H : Hp} {a : Addr} {n : Nat} : gf H a ≠ some (.mk n) := by
  unfold gf
  cases H a <;> simp
theorem gf_Mk {H : Hp} {a : Addr} {n : Nat} : ¬ Mkk (gf H) a n := by
  rintro (h | ⟨o, h⟩)
  · exact gf_mk h
  · unfold gf at h
    cases e : H a <;> simp [e] at h
theorem gf_none {H : Hp} {a : Addr} : H a = none → gf H a = none := by
  intro h
  unfold gf
  rw [h]
  rfl
theorem fr_gf {H : Hp} : fr (gf H) = H := by
  funext a
  unfold fr gf
  cases H a <;> rfl
theorem gf_sh {H H1 : Hp} (e : Same H H1) : Sh (gf H) H1 := fun b u h => by
  cases u with
  | fro o => exact .of (e b o (gf_some.mp h))
  | mk n => exact absurd h gf_mk
  | mkf n o => exact absurd (.inr ⟨o, h⟩) gf_Mk
theorem gf_st {K : PySem.W.Frag} {H H1 : Hp} : StOk K (gf H) H1 [] := ⟨fun n o h => by simp at h, fun a n h => absurd h gf_Mk, fun a b n h => absurd h gf_Mk⟩
def DrRaw (d a b : Addr) (s : Dr) (H : Hp) : Prop := (H d = some (.lst [.ref a, .int s.n, .ref b, .int s.k]) ∧ H a = some (.lst (s.xs.map V.int)) ∧ H b = some (.lst (s.zs.map V.int))) ∧ d ≠ a ∧ d ≠ b ∧ a ≠ b
/-- the promise of _law_draws: a new source -/
def spDraws (K : PySem.W.Frag) : Sp := fun vs H Q _ => ∃ (l : Addr) (ns : List Int), vs = [.ref l] ∧ SqL K H l (ns.map V.int) ∧ ns.length ≤ 1000 ∧
  ∀ (H' : Hp) (d a b : Addr), Same H H' → H d = none → H a = none → H b = none → DrRaw d a b ⟨ns.filter (fun n => decide (10 ^ 18 ≤ n)), 0, ns.filter (fun n => decide (n < 10 ^ 18)), 0, []⟩ H' → Q (.ref d) H'
section
variable {K : PySem.W.Frag}
theorem lc_filter {f : Nat} {mt : MT W0} {p : Int → Bool} {ρ : Ev} (hf : f < ρ.length) (hm : ∀ n : Int, mt (ρ.set f (.sh (.int n))) [] = .ok (p n) []) : ∀ (ns : List Int) (acc : List D), acc.length + ns.length ≤ 1000 →
    lcL W0.S (fName f) mt (mVar W0 f) ρ (ns.map D.int) acc [] = .ok (acc ++ (ns.filter p).map D.int) []
  | [], acc, _ => by simp [lcL]
  | n :: ns, acc, h => by
    rw [List.length_cons] at h
    rw [List.map_cons]
    simp only [lcL, fName, hm]
    cases hp : p n with
    | true =>
      have hv : mVar W0 f (ρ.set f (.sh (.int n))) [] = .ok (.int n) [] := by
        unfold mVar
        rw [List.getElem?_set_self hf]
      dsimp only
      rw [hv]
      dsimp only
      rw [if_pos (by omega), lc_filter hf hm ns (acc ++ [D.int n]) (by simp; omega)]
      simp [List.filter_cons, hp]
    | false =>
      dsimp only
      rw [lc_filter hf hm ns acc (by omega)]
      simp [List.filter_cons, hp]
/-- [[..], 0, [..], 0] -/
theorem draws_read {t1 t2 : TE} {m1 m2 : MA W0} {ns : List Int} {l : Addr} {H : Hp} {Q : VK} {E : XK} {σ : L2.St} {Wx : WX} (hlen : σ.length = 2) (h1 : SndN K W0 Wx t1 m1) (h2 : SndN K W0 Wx t2 m2) (es : σ[0]? = some (some (.ref l))) (hs : SqL K H l (ns.map V.int))
    (e1 : m1 [.sh (.lst (ns.map D.int)), .no] [] = .ok ((ns.filter (fun n => decide (10 ^ 18 ≤ n))).map D.int) []) (e2 : m2 [.sh (.lst (ns.map D.int)), .no] [] = .ok ((ns.filter (fun n => decide (n < 10 ^ 18))).map D.int) [])
    (q : ∀ (H' : Hp) (d a b : Addr), Same H H' → H d = none → H a = none → H b = none → DrRaw d a b ⟨ns.filter (fun n => decide (10 ^ 18 ≤ n)), 0, ns.filter (fun n => decide (n < 10 ^ 18)), 0, []⟩ H' → Q (.ref d) H') :
    tRet (tLst (tCons t1 (tCons (tC (.int 0)) (tCons t2 (tCons (tC (.int 0)) tNil))))) { nx := fun _ H' => Q .non H', rt := Q } σ H := by
  have F : Fm K W0 H σ [.sh (.lst (ns.map D.int)), .no] (gf H) H [] := by
    refine ⟨gf_sh (Same.refl _), fun _ w => w.elim, gf_st, hlen, fun i o x a b => ?_, fun i j p x y hij a b c => ?_⟩
    · match i, b with
      | 0, b =>
        cases b
        rw [es] at a
        cases a
        exact ⟨_, rfl, .lst (by rw [fr_gf]; exact hs) (.ints ns)⟩
      | 1, b => cases b; trivial
      | _ + 2, b => simp at b
    · match i, a with
      | 0, a => cases a; cases c
      | 1, a => cases a; cases c
      | _ + 2, a => simp at a
  refine h1 σ _ H (gf H) H [] _ F ?_
  rw [e1]
  intro p vs G1 H1 t1 k1 np gp hp r1
  have ev1 := r1.of_ints
  subst ev1
  have F1 := F.tr t1 k1
  refine h2 σ _ H G1 H1 [] _ F1 ?_
  rw [e2]
  intro p2 vs2 G2 H2 t2 _ np2 gp2 hp2 r2
  have ev2 := r2.of_ints
  subst ev2
  have hp' : H2 p = some (.lst ((ns.filter (fun n => decide (10 ^ 18 ≤ n))).map V.int)) := t2.kp _ _ (fun z => z) (fun n => by rw [gp]; simp) hp
  refine ⟨Nat.le_trans (by decide : 4 ≤ 1000) (by decide), fun d nd => ?_⟩
  have n1 : H1 d = none := t2.dm d nd
  have dp : d ≠ p := fun e => by rw [e, hp'] at nd; cases nd
  have dp2 : d ≠ p2 := fun e => by rw [e, hp2] at nd; cases nd
  have pp : p ≠ p2 := fun e => by rw [← e, hp] at np2; cases np2
  refine q _ d p p2 (fun b o e => ?_) (t1.dm d n1) np (t1.dm p2 np2) ⟨⟨upd_same, by rw [upd_ne dp.symm]; exact hp', by rw [upd_ne dp2.symm]; exact hp2⟩, dp, dp2, pp⟩
  have e2 : H2 b = some o := t2.kp b o (fun z => z) (fun n q => by rw [t1.gg b _ (gf_some.mpr e)] at q; cases q) (t1.kp b o (fun z => z) (fun n q => gf_mk q) e)
  rw [upd_ne (ne_of_none e2 nd)]
  exact e2
end
end Mr
namespace Mr
open PySem PySem.Spec PyProof.Rows L2 RZ
theorem draws_m1 {ns : List Int} (h : ns.length ≤ 1000) : mLc W0 (mItS W0 (mVar W0 0)) (fName 1) (mTest W0 (mBin W0 dGe (mVar W0 1) (mBin W0 dPow (mC W0 (.int 10)) (mC W0 (.int 18))))) (mVar W0 1) [1] [.sh (.lst (ns.map D.int)), .no] [] = .ok ((ns.filter (fun n => decide (10 ^ 18 ≤ n))).map D.int) [] := by
  have e := lc_filter (f := 1) (mt := mTest W0 (mBin W0 dGe (mVar W0 1) (mBin W0 dPow (mC W0 (.int 10)) (mC W0 (.int 18))))) (p := fun n => decide (10 ^ 18 ≤ n)) (ρ := [.sh (.lst (ns.map D.int)), .no]) (by simp) (fun n => by
    simp [mTest, mBin, mVar, mC, dPow, dInt2, CPowG, dGe, dBool]) ns [] (by simpa using h)
  rw [List.nil_append] at e
  exact e
theorem draws_m2 {ns : List Int} (h : ns.length ≤ 1000) : mLc W0 (mItS W0 (mVar W0 0)) (fName 1) (mTest W0 (mBin W0 dLt (mVar W0 1) (mBin W0 dPow (mC W0 (.int 10)) (mC W0 (.int 18))))) (mVar W0 1) [1] [.sh (.lst (ns.map D.int)), .no] [] = .ok ((ns.filter (fun n => decide (n < 10 ^ 18))).map D.int) [] := by
  have e := lc_filter (f := 1) (mt := mTest W0 (mBin W0 dLt (mVar W0 1) (mBin W0 dPow (mC W0 (.int 10)) (mC W0 (.int 18))))) (p := fun n => decide (n < 10 ^ 18)) (ρ := [.sh (.lst (ns.map D.int)), .no]) (by simp) (fun n => by
    simp [mTest, mBin, mVar, mC, dPow, dInt2, CPowG, dLt, dBool]) ns [] (by simpa using h)
  rw [List.nil_append] at e
  exact e
/-- the frame of a law behind its first line -/
theorem law_fm {K : PySem.W.Frag} {ns : List Int} {l d a b : Addr} {H H1 : Hp} {s0 : Dr} {n : Nat} {σ : L2.St} (hS : SqL K H l (ns.map V.int)) (sm : Same H H1) (nd : H d = none) (na : H a = none) (nb : H b = none) (ok : DrRaw d a b s0 H1) (e9 : s0.st = []) (hl : σ.length = n + 2) (e0 : σ[0]? = some (some (.ref l))) (e1 : σ[1]? = some (some (.ref d))) :
    Fs K (DrW d a b) (gf H) H1 σ (.sh (.lst (ns.map D.int)) :: .sh (.ref d) :: List.replicate n .no) (gf H) H1 s0 := by
  refine ⟨⟨gf_sh sm, fun p w => ?_, ⟨ok.1, ok.2.1, ok.2.2.1, ok.2.2.2, by rw [e9]; exact gf_st⟩, by simp [hl], fun i o x u v => ?_, fun i j p x y hij u v c => ?_⟩, .refl (gf_sh sm)⟩
  · rcases w with rfl | rfl | rfl
    · exact gf_none nd
    · exact gf_none na
    · exact gf_none nb
  · match i, v with
    | 0, v =>
      cases v
      rw [e0] at u
      cases u
      exact ⟨_, rfl, .lst (by rw [fr_gf]; exact hS) (.ints ns)⟩
    | 1, v =>
      cases v
      rw [e1] at u
      cases u
      exact ⟨_, rfl, .ref d⟩
    | i + 2, v =>
      have := List.mem_of_getElem? (show (List.replicate n Sl.no)[i]? = some x from v)
      rw [List.mem_replicate] at this
      rw [this.2]
      trivial
  · match i, u with
    | 0, u => cases u; cases c
    | 1, u => cases u; cases c
    | i + 2, u =>
      have := List.mem_of_getElem? (show (List.replicate n Sl.no)[i]? = some x from u)
      rw [List.mem_replicate] at this
      rw [this.2] at c
      cases c
def spLaw (K : PySem.W.Frag) : Sp := fun vs H Q _ => ∃ (l : Addr) (ns : List Int), vs = [.ref l] ∧ SqL K H l (ns.map V.int) ∧ ns.length ≤ 63 ∧ ∀ H', Q (.bl true) H'
end Mr
namespace Mr
open PySem PySem.Spec PyProof.Rows L2
theorem noCX {P : Program} {w : World} {O : List Env} {H : Hp} {s : Shared} {e : Value} {s' : Shared} (z : L2.CX P w O H s (fun _ _ _ => False) e s') : False := by
  unfold L2.CX at z
  simp at z
end Mr
namespace Mr
open PySem PySem.Spec PyProof.Rows L2 RZ
theorem eAdd (i j : Int) : dAdd (.int i) (.int j) = some (.int (i + j)) := rfl
theorem eSub (i j : Int) : dSub (.int i) (.int j) = some (.int (i - j)) := rfl
theorem eMul (i j : Int) : dMul (.int i) (.int j) = if CMulG i j then some (.int (i * j)) else none := rfl
theorem eDiv (i j : Int) : dDiv (.int i) (.int j) = if CDivG i j then some (.int (i.fdiv j)) else none := rfl
theorem eMod (i j : Int) : dMod (.int i) (.int j) = if CModG i j then some (.int (i.fmod j)) else none := rfl
theorem ePow (i j : Int) : dPow (.int i) (.int j) = if CPowG i j then some (.int (i ^ j.toNat)) else none := rfl
theorem eNeg (i : Int) : dNeg (.int i) = some (.int (-i)) := rfl
theorem eLt (i j : Int) : dLt (.int i) (.int j) = some (.bl (decide (i < j))) := rfl
theorem eLe (i j : Int) : dLe (.int i) (.int j) = some (.bl (decide (i ≤ j))) := rfl
theorem eGt (i j : Int) : dGt (.int i) (.int j) = some (.bl (decide (j < i))) := rfl
theorem eGe (i j : Int) : dGe (.int i) (.int j) = some (.bl (decide (j ≤ i))) := rfl
theorem eEqI (i j : Int) : dEq (.int i) (.int j) = some (.bl (decide (i = j))) := rfl
theorem eNeI (i j : Int) : dNe (.int i) (.int j) = some (.bl (!decide (i = j))) := rfl
theorem eEqS (i j : Str) : dEq (.str i) (.str j) = some (.bl (decide (i = j))) := rfl
theorem eEqB (i j : Bool) : dEq (.bl i) (.bl j) = some (.bl (decide (i = j))) := rfl
theorem eNeB (i j : Bool) : dNe (.bl i) (.bl j) = some (.bl (!decide (i = j))) := rfl
theorem eIdxL (xs : List D) (i : Int) : dIdx (.lst xs) (.int i) = atI xs i := rfl
theorem eIdxT (xs : List D) (i : Int) : dIdx (.tup xs) (.int i) = atI xs i := rfl
theorem eBool (b : Bool) : dBool (.bl b) = some b := rfl
theorem eAbs (i : Int) : dAbs [.int i] = some (.int (if i < 0 then -i else i)) := rfl
theorem lg_of {n k : Nat} (h : n < 2 ^ k) (hk : 0 < k) : n.log2 < k := by
  by_cases e : n = 0
  · subst e; rw [Nat.log2_zero]; exact hk
  · exact (Nat.log2_lt e).mpr h
theorem lg4 {x : Int} (h1 : -(10 ^ 200) < x) (h2 : x < 10 ^ 200) : x.natAbs.log2 < 700 := by
  refine lg_of (k := 700) ?_ (by decide)
  have e : (10 : Int) ^ 200 = ((10 ^ 200 : Nat) : Int) := by decide +kernel
  have h3 : x.natAbs < 10 ^ 200 := by rw [e] at h1 h2; omega
  exact Nat.lt_trans h3 (by decide +kernel)
theorem mulG {i j : Int} (h1 : -(10 ^ 200) < i) (h2 : i < 10 ^ 200) (h3 : -(10 ^ 200) < j) (h4 : j < 10 ^ 200) : CMulG i j := ⟨Nat.lt_trans (lg4 h1 h2) (by decide), Nat.lt_trans (lg4 h3 h4) (by decide)⟩
theorem divG {i j : Int} (h0 : j ≠ 0) (h3 : -(10 ^ 200) < j) (h4 : j < 10 ^ 200) : CDivG i j := ⟨h0, Nat.lt_trans (lg4 h3 h4) (by decide)⟩
theorem atI_ok {α : Type} {xs : List α} {i : Int} (h0 : 0 ≤ i) (h1 : i < xs.length) : ∃ x, atI xs i = some x ∧ x ∈ xs := by
  unfold atI ixN
  rw [if_pos h0, if_pos h1]
  have h2 : i.toNat < xs.length := by omega
  exact ⟨xs[i.toNat], by simp [List.getElem?_eq_getElem h2], List.getElem_mem h2⟩
theorem isDr0 (d : Addr) (ρ : Ev) : isDr d 0 (.sh (.ref d) :: ρ) = true := by simp [isDr]
/-- what every law keeps of its source: b bounds the number of draws -/
structure Ok (b : Int) (s : Dr) : Prop where
  xs : ∀ x ∈ s.xs, 0 < x
  n : 0 ≤ s.n
  k : 0 ≤ s.k
  kb : s.k ≤ b
theorem Ok.mono {b c : Int} {s : Dr} (h : Ok b s) (hc : b ≤ c) : Ok c s := ⟨h.xs, h.n, h.k, Int.le_trans h.kb hc⟩
theorem Ok.start (ns : List Int) : Ok 0 ⟨ns.filter (fun n => decide (10 ^ 18 ≤ n)), 0, ns.filter (fun n => decide (n < 10 ^ 18)), 0, []⟩ :=
  ⟨fun x hx => by have := (List.mem_filter.mp hx).2; simp at this; omega, Int.le_refl _, Int.le_refl _, Int.le_refl _⟩
end Mr
namespace Mr
open PySem PySem.Spec PyProof.Rows L2 RZ
structure IsC (K : PySem.W.Frag) (C : Addr) : Prop where
  cl : (PySem.W.clsIn K C).isSome = true
  ga : PySem.W.findIn K (.ref C) "__getattribute__" = some (some (.builtin "BaseException.__getattribute__"))
  gt : PySem.W.findIn K (.ref C) "__getattr__" = some none
  sb : PySem.W.subIn K (.ref C) (.type "BaseException") = some true
  ca : PySem.W.findIn K (.ref C) "__class__" = some (some (.builtin "object.__class__"))
  gs : PySem.W.specialIn K (.builtin "object.__class__") "__get__" = some (some (.builtin "getset_descriptor.__get__"))
  tk : PySem.W.takesIn K (.builtin "object.__class__") = some true
  mr : PySem.W.mroIn K C (.type "object") = some true
section
variable {K : PySem.W.Frag} {O : Wo} {Wx : WX} {X : Cx}
end
def spX (K : PySem.W.Frag) (O : Wo) (a : Addr) (cls : Value) (d : Option Addr) (m : Addr → List (Str × D) → O.S → R O.S D) : Sp := fun vs H Q E => vs = [.ref a] ∧ ∃ (G : Gh) (c : Addr) (fs : List (Str × D)) (xs : List (Str × V)) (s : O.S),
  cls = .ref c ∧ XdA H d xs ∧ RepF K G xs fs ∧ NwA O d ∧ Sh G H ∧ (∀ p, O.W p → G p = none) ∧ O.ok K s G H ∧ PstF K O G H (m c fs s) Q E
structure FoX (P : Program) (w : World) (K : PySem.W.Frag) (mg : Str → Option Value) (base : Heap) (O : Wo) (k : Nat) (x : Str) (m : Addr → List (Str × D) → O.S → R O.S D) : Prop where
  ex : ∃ f fd ps, ps.length = 1 ∧ (∀ (A : Around) (outer : List Env) (s : Shared) (H : Hp) (args : Args) (us : List Value) (vs : List V) (Q : VK) (E : XK) (a : Addr) (oe : Obj) (cls : Value) (d : Option Addr), L2H.RoomH k A → L2H.PinOk outer H s (a, oe) → Zc cls d oe → (∃ vs, oe.data = .fields vs) →
      Env0 P w K mg base A outer s H → BindsTo s fd args (ps.zip us) → Vals vs us → spX K O a cls d m vs H Q E → codeAny (model P w) A (.call (.ref f) args) (CR (L2.CX P w) outer P w H s Q E) s) ∧ mg x = some (.ref f) ∧ PySem.W.keepIn K (.ref f) = true ∧ Binds K fd ps []
section
variable {P : Program} {w : World} {K : PySem.W.Frag} {mg : Str → Option Value} {base : Heap} {O : Wo}
variable {X : Cx}
end
end Mr
namespace Mr
open PySem PySem.Spec PyProof.Rows L2 RZ
end Mr
namespace Mr
open PySem PySem.Spec PyProof.Rows L2
inductive Er where
  | ViewError | AxisError | LengthError | PositionError | OrderError | BroadcastError | StrideError | IndexRangeError | ShapeError | BufferMissing | CellError | CountError | NoSnapshot | OperatorError | FaultError | StepError | InputError | ParseError | SessionError
  deriving DecidableEq
inductive Cl where
  | Pages | Memory | Scope | PlainHouse | LateHouse | Run | Survey | Layout | Flat | Code | Translation | Session
  deriving DecidableEq
structure Ca where
  c : Er → Addr
  es : List Er
  L : Addr
  v : Addr
  k : Cl → Addr
  hw : Key → Int := fun _ => 0
structure Ad extends Ca where
  d : Addr
  a : Addr
  b : Addr
/-- which error class stands there -/
def Ca.cl (A : Ca) (x : Addr) : Option Er := A.es.find? fun e => decide (A.c e = x)
def Ca.t (A : Ca) (h : Er) (x : Addr) : Option Bool := (A.cl x).map fun e => decide (e = h)
def Ca.Inj (A : Ca) : Prop := ∀ e ∈ A.es, ∀ f ∈ A.es, A.c e = A.c f → e = f
end Mr
namespace S
open PySem PySem.Spec PyProof.Rows L2 Mr
abbrev O (A : Ad) : Wo := DrW A.d A.a A.b
theorem take_hw {d a b : Addr} : ∀ ρ s z s1, (mBin (DrW d a b) dMod (mDrI d a b 0 3) (mDrLen d a b 0 2)) ρ s = .ok z s1 → s1 = s := by
  intro ρ s z s1 h
  unfold mBin mDrI mDrLen drL at h
  by_cases hi : isDr d 0 ρ = true
  · simp [hi] at h
    cases hd : dMod (.int s.k) (.int s.zs.length) with
    | none => rw [hd] at h; cases h
    | some y => rw [hd] at h; cases h; rfl
  · simp [hi] at h
end S
namespace Mr
open PySem PySem.Spec PyProof.Rows L2 RZ
structure ClT (K : PySem.W.Frag) (mg : Str → Option Value) (x : Str) (C : Addr) (fs : List Str) : Prop where
  gC : mg x = some (.ref C)
  cl : Cls K C
  mks : PySem.W.makesIn K C = true
  kp : PySem.W.keepIn K (.ref C) = true
  no : ∀ f ∈ fs, NoAttr K C f
section
variable {K : PySem.W.Frag} {O : Wo} {Wx : WX} {X : Cx} {G : Gh}
theorem RepF.none : ∀ {a : List (Str × V)} {c : List (Str × D)} {f : Str}, RepF K G a c → c.lookup f = none → a.lookup f = none
  | _, _, f, .nil, _ => rfl
  | _, _, f, .cons (f := g) h r, e => by
    rw [List.lookup_cons] at e ⊢
    split at e
    · cases e
    · exact RepF.none r e
theorem RepF.length : ∀ {a : List (Str × V)} {c : List (Str × D)}, RepF K G a c → a.length = c.length
  | _, _, .nil => rfl
  | _, _, .cons h r => by rw [List.length_cons, List.length_cons, r.length]
def putD (f : Str) (v : D) : List (Str × D) → List (Str × D)
  | [] => [(f, v)]
  | (g, x) :: r => if g = f then (g, v) :: r else (g, x) :: putD f v r
theorem RepF.put {f : Str} {v : V} {d : D} (q : Rep K G v d) : ∀ {a : List (Str × V)} {c : List (Str × D)}, RepF K G a c → RepF K G (putF f v a) (putD f d c)
  | _, _, .nil => .cons q .nil
  | _, _, .cons (f := g) h r => by
    unfold putF putD
    split
    · exact .cons q r
    · exact .cons h (RepF.put q r)
structure FoM (P : Program) (w : World) (K : PySem.W.Frag) (mg : Str → Option Value) (base : Heap) (O : Wo) (C : Addr) (k : Nat) (x : Str) (n : Nat) (m : List D → O.S → R O.S D) : Prop where
  ex : ∃ f fd ps, FnOk P w K mg base (L2.CX P w) k f fd ps (spM K O n m) ∧ Meth K C x f ∧ Binds K fd ps []
section
variable {k : Nat} {C f : Addr} {fd : FuncData} {ps : List Str} {m : Str} {sp : Sp} {E : L2.St → XK} {o e : Expr} {es : List Expr} {ta : TE} {t : TA} {apos pos : Pos}
end
section
variable {C : Addr} {k j n : Nat} {x cx : Str} {fs : List Str} {m : List D → O.S → R O.S D} {o e : Expr} {es : List Expr} {to : TE} {ta : TA} {mo : ME O} {ma : MA O} {apos pos : Pos}
end
abbrev Wo.self (O : Wo) (x : Addr) : Wo := { O with sf := fun a => a = x }
/-- the promise of __init__ -/
def PstI (K : PySem.W.Frag) (O : Wo) (C x dx : Addr) (G : Gh) (H1 : Hp) (r : R O.S (List (Str × D))) (Q : VK) (E : XK) : Prop :=
  match r with
  | .ok fs s' => ∀ vs G' H', Tr O.W G H1 G' H' → O.ok K s' G' H' → H' x = some (.ins C dx vs) → RepF K G' vs fs → G' x = none → Q .non H'
  | .err c fs s' => ∀ dd xs G' H', Tr O.W G H1 G' H' → O.ok K s' G' H' → XdA H' dd xs → NwA O dd → RepF K G' xs fs → E (.ref c) dd H'
  | .bad => False
def spI (K : PySem.W.Frag) (O : Wo) (C : Addr) (n : Nat) (m : List D → O.S → R O.S (List (Str × D))) : Sp := fun vs H Q E => ∃ (x dx : Addr) (ws : List V) (H1 : Hp) (G : Gh) (ds : List D) (s : O.S),
  vs = .ref x :: ws ∧ ws.length = n ∧ H = upd (upd H1 dx (.own x)) x (.ins C dx []) ∧ H1 x = none ∧ H1 dx = none ∧ dx ≠ x ∧ Sh G H1 ∧ (∀ a, O.W a → G a = none) ∧ O.ok K s G H1 ∧ Reps K G ws ds ∧ (∀ dx', PstI K O C x dx' G H1 (m ds s) Q E)
structure FoI (P : Program) (w : World) (K : PySem.W.Frag) (mg : Str → Option Value) (base : Heap) (O : Wo) (C : Addr) (k n : Nat) (m : List D → O.S → R O.S (List (Str × D))) : Prop where
  ex : ∃ f fd ps, FnOk P w K mg base (L2.CX P w) k f fd ps (spI K O C n m) ∧ Mk K C f ∧ Binds K fd ps []
end
section
variable {P : Program} {w : World} {K : PySem.W.Frag} {mg : Str → Option Value} {base : Heap} {O : Wo}
theorem spM_self {y : Addr} {n : Nat} {m : List D → O.S → R O.S D} {vs : List V} {H : Hp} {Q : VK} {E : XK} (h : spM K (O.self y) n m vs H Q E) : spM K O n m vs H Q E := by
  obtain ⟨hl, G, ds, s0, g, wg, ok, r, q⟩ := h
  refine ⟨hl, G, ds, s0, g, wg, ok, r, ?_⟩
  revert q
  unfold PstF
  cases m ds s0 <;> exact fun q => q
theorem Fo.self {k n : Nat} {x : Str} {m : List D → O.S → R O.S D} (F : Fo P w K mg base O k x n m) (y : Addr) : Fo P w K mg base (O.self y) k x n m := by
  obtain ⟨f, fd, ps, Fn, hm, kp, bi⟩ := F.ex
  exact ⟨f, fd, ps, Fn.imp fun vs H Q E q => spM_self q, hm, kp, bi⟩
theorem FoM.self {C : Addr} {k n : Nat} {x : Str} {m : List D → O.S → R O.S D} (F : FoM P w K mg base O C k x n m) (y : Addr) : FoM P w K mg base (O.self y) C k x n m := by
  obtain ⟨f, fd, ps, Fn, hm, bi⟩ := F.ex
  exact ⟨f, fd, ps, Fn.imp fun vs H Q E q => spM_self q, hm, bi⟩
end
end Mr
namespace Mr
open PySem PySem.Spec PyProof.Rows L2 RZ
section
variable {K : PySem.W.Frag} {O : Wo} {Wx : WX} {X : Cx}
theorem kept_at {W : Addr → Prop} {p : Addr} {o : HO} (nW : ¬ W p) {Ga : Gh} {Ha : Hp} {Gb : Gh} {Hb : Hp} (t : Tr W Ga Ha Gb Hb) (a : Ga p = none) (b : Ha p = some o) : Gb p = none ∧ Hb p = some o := by
  refine ⟨?_, t.kp _ _ nW (fun n => by rw [a]; simp) b⟩
  cases e : Gb p with
  | none => rfl
  | some z => rcases t.gr p (by rw [e]; simp) with q | q <;> simp_all
theorem Fm.h0 {H0 H0' : Hp} {G : Gh} {H : Hp} {σ : L2.St} {ρ : Ev} {s : O.S} (f : Fm K O H0 σ ρ G H s) (h : ∀ p, H p ≠ none → H0 p = none → H0' p = none) : Fm K O H0' σ ρ G H s := by
  refine ⟨f.gh, f.wg, f.ok, f.len, fun i o x a b => ?_, f.ds⟩
  have q := f.sl i o x a b
  cases x with
  | no => trivial
  | sh d => exact q
  | own xs => obtain ⟨p, vs, e1, e2, e3, e4, e5, e6⟩ := q; exact ⟨p, vs, e1, e2, e3, e4, e5, h p (by rw [e2]; simp) e6⟩
  | ownD xs => obtain ⟨p, vs, e1, e2, e3, e4, e5, e6⟩ := q; exact ⟨p, vs, e1, e2, e3, e4, e5, h p (by rw [e2]; simp) e6⟩
  | ownI C xs => obtain ⟨p, dx, vs, e1, e2, e3, e4, e5, e6, e7⟩ := q; exact ⟨p, dx, vs, e1, e2, e3, e4, e5, h p (by rw [e2]; simp) e6, e7⟩
  | exc c fs => exact q
theorem Fm.off {H0 : Hp} {G : Gh} {H : Hp} {σ : L2.St} {ρ : Ev} {s : O.S} {p : Addr} {z z' : List V} (f : Fm K O H0 σ ρ G H s) (hD : H p = some (.lst z)) (h0 : H0 p ≠ none) (gD : G p = none) (nW : ¬ O.W p) : Fm K O H0 σ ρ G (upd H p (.lst z')) s := by
  have ne : ∀ {r : Addr}, H0 r = none → r ≠ p := fun {r} e q => h0 (by rw [← q]; exact e)
  refine ⟨f.gh.upd gD, f.wg, ok_off f.ok gD nW, f.len, fun i o x a b => ?_, f.ds⟩
  have q := f.sl i o x a b
  cases x with
  | no => trivial
  | sh d => exact q
  | own xs => obtain ⟨r, vs, e1, e2, e3, e4, e5, e6⟩ := q; exact ⟨r, vs, e1, by rw [upd_ne (ne e6)]; exact e2, e3, e4, e5, e6⟩
  | ownD xs => obtain ⟨r, vs, e1, e2, e3, e4, e5, e6⟩ := q; exact ⟨r, vs, e1, by rw [upd_ne (ne e6)]; exact e2, e3, e4, e5, e6⟩
  | ownI C xs => obtain ⟨r, dx, vs, e1, e2, e3, e4, e5, e6⟩ := q; exact ⟨r, dx, vs, e1, by rw [upd_ne (ne e6.1)]; exact e2, e3, e4, e5, e6⟩
  | exc c fs =>
    obtain ⟨a', dd, xs, e1, e2, e3, e4, e5⟩ := q
    exact ⟨a', dd, xs, e1, e2, e3.kp (fun d1 _ e3 => by rw [upd_ne (fun e => by rw [e, hD] at e3; cases e3)]; exact e3), e4, e5⟩
end
end Mr
namespace Mr
open PySem PySem.Spec PyProof.Rows L2 RZ
section
variable {prog : Program} {w : World} {A : Around} {E : Value → Shared → Prop} {s : Shared}
end
section
variable {K : PySem.W.Frag} {O : Wo} {Wx : WX} {X : Cx}
structure DLc2 (K : PySem.W.Frag) (O : Wo) (Wx : WX) (X : Cx) (elt tg iter tg1 iter1 : Expr) (ifs ifs1 : List Expr) (scope : Scope) (pos : Pos) (t : TE) (m : MA O) : Prop where
  dn : DN K O Wx X (.ListComp elt [⟨tg, iter, ifs, 0⟩, ⟨tg1, iter1, ifs1, 0⟩] scope pos) t m
  ps : ∀ (i : Nat) (y : Str) (py spos : Pos), X.N[i]? = some y → X.env.scope.names.lookup y = some .local → swapsWith (.ListComp elt [⟨tg, iter, ifs, 0⟩, ⟨tg1, iter1, ifs1, 0⟩] scope pos) (some (.Name y py)) spos.line X.env = pure true →
    PS X (.Assign [.Name y py] (.ListComp elt [⟨tg, iter, ifs, 0⟩, ⟨tg1, iter1, ifs1, 0⟩] scope pos) spos) (tAsg t (gName i))
theorem DGet.r {H : Hp} {a : Addr} {kvs : List (Key × V)} {k : Key} (e : Rd H a (.dK kvs)) : DGet H a (kV k) (valV kvs k) := .inl ⟨kvs, k, e, rfl, rfl⟩
theorem RepK.val0 {G : Gh} {k : Key} : ∀ {vs : List (Key × V)} {ds : List (Key × D)}, RepK K G vs ds → valP ds k = none → valV vs k = none
  | _, _, .nil, _ => rfl
  | _, _, .cons (f := f) (v := v) (d := d) (vs := vs) (ds := ds) q r, h => by
    unfold valP at h
    unfold valV
    rw [List.find?_cons] at h ⊢
    by_cases hd : f = k
    · simp [hd] at h
    · simp only [decide_eq_false hd] at h ⊢
      exact RepK.val0 r h
theorem RepK.isSome {G : Gh} {vs : List (Key × V)} {ds : List (Key × D)} (r : RepK K G vs ds) (k : Key) : (valV vs k).isSome = (valP ds k).isSome := by
  cases e : valP ds k with
  | none => rw [r.val0 e]; rfl
  | some d => obtain ⟨v, e1, _⟩ := r.val e; rw [e1]; rfl
end
end Mr
namespace Mr
open PySem PySem.Spec PyProof.Rows L2 RZ
section
variable {K : PySem.W.Frag} {O : Wo} {Wx : WX} {X : Cx}
theorem sh_put {G : Gh} {H : Hp} {p : Addr} {o : HO} (g : Sh G H) : Sh (up G p o) (upd H p o) := fun b u e => by
  by_cases hb : b = p
  · subst hb; rw [up_same] at e; cases e; exact .of upd_same
  · rw [up_ne hb] at e; exact (g b u e).cong (upd_ne hb)
theorem Tr.lockN {W : Addr → Prop} {G : Gh} {H : Hp} {G' : Gh} {H' : Hp} {p : Addr} {o o' : HO} (t : Tr W G H G' H') (n : H p = none) (h : H' p = some o) (g : G' p = none) : Tr W G H (up G' p o') (upd H' p o') := by
  refine ⟨t.gg.trans (Sm.up g), sh_put t.gh, fun b e => ?_, fun b u w m e => by rw [upd_ne (ne_of_none e n)]; exact t.kp b u w m e, fun b e => ?_, fun b u v e => by rw [upd_ne (ne_of_none e n)]; exact t.fz b u v e⟩
  · by_cases hb : b = p
    · subst hb; exact .inr n
    · rw [up_ne hb] at e; exact t.gr b e
  · by_cases hb : b = p
    · subst hb; exact n
    · rw [upd_ne hb] at e; exact t.dm b e
section
variable {x : Str} {e : Expr} {te : TE} {me : ME O} {p1 pos : Pos} {j : Nat}
end
def mLenO (O : Wo) (i : Nat) : ME O := fun ρ s => match ρ[i]? with
  | some (.own xs) => .ok (.int xs.length) s
  | _ => .bad
def mIdxO (O : Wo) (i : Nat) (m : ME O) : ME O := fun ρ s => match ρ[i]? with
  | some (.own xs) => (m ρ s).bind fun k s1 => match k with
    | .int j => R.lift (L2.atI xs j) s1
    | _ => .bad
  | _ => .bad
section
variable {x : Str} {p p1 pos : Pos}
theorem de_lenO (i : Nat) (c : Cn K Wx X) (hm : X.mg "len" = none) (hN : X.N[i]? = some x := by rfl) (hv : Vis X.env.scope x := by first | exact Or.inl rfl | exact Or.inr (Or.inl rfl) | exact Or.inr (Or.inr rfl)) (hd : (x == ("__debug__" : Str)) = false := by decide)
    (hcd : (x == ("__classdict__" : Str)) = false := by decide) (hg : Gl X "len" := by rfl) (he : starEach [.Name x p1] X.env = (false, eval (.Name x p1) X.env) :: starEach [] X.env := by rfl) (hpl : (backTo pos (starEach [] X.env)).any (·.1) = false := by rfl) :
    DE K O Wx X (.Call (.Name "len" p) [.Name x p1] [] pos) (tCB (fun xs H Q => ∃ x n, xs = [x] ∧ LenV K x H n ∧ Q (.int n) H) (tCons (tVar i) tNil)) (mLenO O i) := by
  refine ⟨c.hK, c.tk, pe_callB (call_lenG c.hK) hg hm PySem.boot_len (pa_cons (pe_var hN hv hd hcd) pa_nil he) (by decide) (by decide) he hpl, fun σ ρ H0 G H s Q F h => ?_⟩
  unfold mLenO at h
  split at h
  · rename_i xs ei
    obtain ⟨o, eo, p, vs, rfl, hp, r, gp, wp, h0⟩ := F.at ei
    exact ⟨.ref p, eo, .ref p, xs.length, rfl, .inl ⟨vs, .inl (.inl hp), r.length.symm⟩, h _ G H (.refl F.gh) F.ok (.int _)⟩
  · exact (show False from h).elim
theorem de_idxO (i : Nat) {ei : Expr} {ti : TE} {mi : ME O} (hi : DE K O Wx X ei ti mi) (hN : X.N[i]? = some x := by rfl) (hv : Vis X.env.scope x := by first | exact Or.inl rfl | exact Or.inr (Or.inl rfl) | exact Or.inr (Or.inr rfl)) (hd : (x == ("__debug__" : Str)) = false := by decide)
    (hcd : (x == ("__classdict__" : Str)) = false := by decide) (hs : PlainIx ei := by exact fun _ _ => rfl) : DE K O Wx X (.Subscript (.Name x p1) ei pos) (tOp (rIx K) (tVar i) ti) (mIdxO O i mi) := by
  refine ⟨hi.hK, hi.tk, pe_ix (ix_G hi.hK) (pe_var hN hv hd hcd) hi.pe hs, fun σ ρ H0 G H s Q F h => ?_⟩
  unfold mIdxO at h
  split at h
  · rename_i xs ei
    obtain ⟨o, eo, p, vs, rfl, hp, r, gp, wp, h0⟩ := F.at ei
    refine ⟨.ref p, eo, ?_⟩
    refine hi.sn σ ρ H0 G H s _ F (pst_bind h fun k s1 _ kv G1 H1 t1 k1 r1 h1 => ?_)
    have F1 := F.tr t1 k1
    obtain ⟨o', eo', p', vs', e', hp', r', gp', wp', h0'⟩ := F1.at ei
    rw [eo] at eo'
    subst e'
    cases eo'
    cases r1 with
    | int j =>
      dsimp only at h1
      cases ea : L2.atI xs j with
      | none => rw [ea] at h1; exact (show False from h1).elim
      | some d =>
        rw [ea] at h1
        obtain ⟨v, e1, e2⟩ := r'.atI ea
        exact .inl ⟨p, vs', j, v, rfl, rfl, .inl (.inl hp'), e1, h1 v G1 H1 (.refl t1.gh) k1 e2⟩
    | _ => exact (show False from h1).elim
  · exact (show False from h).elim
end
section
variable {a b : Expr} {ta tb : TE} {ma mb : ME O} {pos : Pos} {j : Nat}
end
end
end Mr
namespace Mr
open PySem PySem.Spec PyProof.Rows L2 RZ
section
variable {K : PySem.W.Frag} {O : Wo} {Wx : WX} {X : Cx} {G0 : Gh} {H0 : Hp} {G : Gh} {H : Hp} {G1 : Gh} {H1 : Hp} {σ : L2.St} {ρ : Ev} {s s1 : O.S}
theorem newL {ds : List D} {vs : List V} {Q : VK} {p : Addr} (t1 : Tr O.W G H G1 H1) (k1 : O.ok K s1 G1 H1) (gh : Sh G1 H1) (h : PstN K O Wx σ G H (.ok ds s1) Q) (r : Reps K G1 vs ds) (np : H1 p = none) : Q (.ref p) (upd H1 p (.lst vs)) := by
  refine h p vs G1 (upd H1 p (.lst vs)) (t1.mut (t1.dm p np) (gh.free np)) ?_ (t1.dm p np) (gh.free np) upd_same r
  exact ok_off k1 (gh.free np) (nW_of k1 np)
end
end Mr
namespace Mr
open PySem PySem.Spec PyProof.Rows L2 RZ
section
variable {K : PySem.W.Frag} {O : Wo} {Wx : WX} {X : Cx} {G0 : Gh} {H0 : Hp} {G : Gh} {H : Hp} {G1 : Gh} {H1 : Hp} {σ : L2.St} {ρ : Ev} {s s1 : O.S}
/-- a rule of the kit does what f says -/
def OwnR (K : PySem.W.Frag) (r : V → List V → Hp → VK → Prop) (f : List D → List D → Option (D × List D)) : Prop :=
  ∀ {G : Gh} {H : Hp} {l : Addr} {vs ws : List V} {xs ds ys : List D} {d : D} {Q : VK}, Reps K G vs xs → Reps K G ws ds → f xs ds = some (d, ys) → H l = some (.lst vs) →
    (∀ y vs', Rep K G y d → Reps K G vs' ys → Q y (upd H l (.lst vs'))) → r (.ref l) ws H Q
end
end Mr
namespace Mr
open PySem PySem.Spec PyProof.Rows L2 RZ
section
variable {K : PySem.W.Frag} {O : Wo} {Wx : WX} {X : Cx} {G0 : Gh} {H0 : Hp} {G : Gh} {H : Hp} {G1 : Gh} {H1 : Hp} {σ : L2.St} {ρ : Ev} {s s1 : O.S}
/-- return a new list -/
def mRetNew (O : Wo) (m : MA O) : MS O := fun ρ s => toS (m ρ s) ρ fun ds s1 => .rn ds s1
theorem ds_retNew {e : Expr} {te : TE} {me : MA O} {pos : Pos} (he : DN K O Wx X e te me) : DS K O Wx X (.Return (some e) pos) (tRet te) (mRetNew O me) := by
  refine ⟨ps_ret he.pe, fun G0 H0 σ ρ G H s Dn F h => ?_⟩
  refine he.sn σ ρ H0 G H s _ F.fm ?_
  unfold mRetNew at h
  revert h
  cases me ρ s with
  | ok ds s1 => exact fun h p vs G' H' t k n g e r => h p vs G' H' t.gg (F.tr.trans t) k (F.tr.dm p n) g e r
  | err c fs s' => exact fun h dd xs G' H' t k e n r => h σ dd xs G' H' t.gg (F.go t k) e n r
  | bad => exact fun h => h
def runN (O : Wo) (n : Nat) (m : MS O) : List D → O.S → R O.S (List D) := fun ds s => match m (ds.map .sh ++ List.replicate (n - ds.length) .no) s with
  | .rn ds s1 => .ok ds s1
  | .err c fs _ s1 => .err c fs s1
  | _ => .bad
def PstFN (K : PySem.W.Frag) (O : Wo) (G : Gh) (H : Hp) (r : R O.S (List D)) (Q : VK) (E : XK) : Prop :=
  match r with
  | .ok ds s' => ∀ p vs G' H', Tr O.W G H G' H' → O.ok K s' G' H' → H p = none → G' p = none → H' p = some (.lst vs) → Reps K G' vs ds → Q (.ref p) H'
  | .err c fs s' => ∀ dd xs G' H', Tr O.W G H G' H' → O.ok K s' G' H' → XdA H' dd xs → NwA O dd → RepF K G' xs fs → E (.ref c) dd H'
  | .bad => False
def spN (K : PySem.W.Frag) (O : Wo) (n : Nat) (m : List D → O.S → R O.S (List D)) : Sp := fun vs H Q E => vs.length = n ∧ ∃ G ds s, Sh G H ∧ (∀ a, O.W a → G a = none) ∧ O.ok K s G H ∧ Reps K G vs ds ∧ PstFN K O G H (m ds s) Q E
def mCallN (O : Wo) (n : Nat) (m : List D → O.S → R O.S (List D)) (a : MA O) : MA O := fun ρ s => (a ρ s).bind fun xs s1 => if xs.length = n then m xs s1 else .bad
theorem pstN_tr {r : R O.S (List D)} {Q : VK} (t : Tr O.W G H G1 H1) (h : PstN K O Wx σ G H r Q) : PstN K O Wx σ G1 H1 r Q := by
  cases r with
  | ok ds s' => exact fun p vs G' H' t' k n g e r => h p vs G' H' (t.trans t') k (t.dm p n) g e r
  | err c fs s' => exact fun dd xs G' H' t' k e n r => h dd xs G' H' (t.trans t') k e n r
  | bad => exact h
theorem pstN_bind {α β : Type} {rel : Gh → β → α → Prop} {r : R O.S α} {f : α → O.S → R O.S (List D)} {Q : VK} {Q1 : β → Hp → Prop} (h : PstN K O Wx σ G H (r.bind f) Q)
    (k : ∀ a s1, r = .ok a s1 → ∀ v G1 H1, Tr O.W G H G1 H1 → O.ok K s1 G1 H1 → rel G1 v a → PstN K O Wx σ G1 H1 (f a s1) Q → Q1 v H1) : Pst K O Wx σ G H rel r Q1 := by
  cases r with
  | ok d s' => exact fun v G' H' t' ko q => k d s' rfl v G' H' t' ko q (pstN_tr t' h)
  | err c fs s' => exact h
  | bad => exact h
theorem call_sndN {n : Nat} {m : List D → O.S → R O.S (List D)} {ta : TA} {ma : MA O} (h : SndA K O Wx ta ma) : SndN K O Wx (tCallS (spN K O n m) (WE Wx) ta) (mCallN O n m ma) := by
  intro σ ρ H0 G H s Q F hq
  refine h σ ρ H0 G H s _ F (pstN_bind hq fun ds s1 _ xs G1 H1 t1 k1 r1 h1 => ?_)
  have F1 := F.tr t1 k1
  by_cases e : ds.length = n
  · rw [if_pos e] at h1
    refine ⟨by rw [r1.length]; exact e, G1, ds, s1, F1.gh, F1.wg, F1.ok, r1, ?_⟩
    revert h1
    cases m ds s1 <;> exact fun h1 => h1
  · rw [if_neg e] at h1
    exact (show False from h1).elim
structure FoN (P : Program) (w : World) (K : PySem.W.Frag) (mg : Str → Option Value) (base : Heap) (O : Wo) (k : Nat) (x : Str) (n : Nat) (m : List D → O.S → R O.S (List D)) : Prop where
  ex : ∃ f fd ps, FnOk P w K mg base (L2.CX P w) k f fd ps (spN K O n m) ∧ mg x = some (.ref f) ∧ PySem.W.keepIn K (.ref f) = true ∧ Binds K fd ps []
theorem dn_call {k j n : Nat} {x : Str} {m : List D → O.S → R O.S (List D)} {e : Expr} {es : List Expr} {ta : TA} {ma : MA O} {p pos : Pos} (F : FoN X.prog X.w X.K X.mg X.base O k x n m) (hr : Room j X.A) (hk : k ≤ j) (ha : DA K O Wx X (e :: es) ta ma)
    (hg : Gl X x := by rfl) (hdb : (x == ("__debug__" : Str)) = false := by decide) (he : starEach (e :: es) X.env = (false, eval e X.env) :: starEach es X.env := by rfl) (hpl : (backTo pos (starEach es X.env)).any (·.1) = false := by rfl) :
    DN K O Wx X (.Call (.Name x p) (e :: es) [] pos) (tCallS (spN K O n m) (WE Wx) ta) (mCallN O n m ma) := by
  obtain ⟨f, fd, ps, Fn, hm, kp, bi⟩ := F.ex
  refine ⟨ha.hK, ha.tk, ?_, call_sndN ha.sn⟩
  have := ha.hK
  subst this
  exact pe_callS Fn (hr.mono hk) hg hm kp bi (fun σ => passAt ha.tk σ) ha.pe hdb he hpl
structure FoMN (P : Program) (w : World) (K : PySem.W.Frag) (mg : Str → Option Value) (base : Heap) (O : Wo) (C : Addr) (k : Nat) (x : Str) (n : Nat) (m : List D → O.S → R O.S (List D)) : Prop where
  ex : ∃ f fd ps, FnOk P w K mg base (L2.CX P w) k f fd ps (spN K O n m) ∧ Meth K C x f ∧ Binds K fd ps []
end
section
variable {P : Program} {w : World} {K : PySem.W.Frag} {mg : Str → Option Value} {base : Heap} {O : Wo}
theorem fnN_mk {x qual : Str} {st : Stmt} {f : Addr} {fd : FuncData} {N ps : List Str} {k : Nat} {m : MS O} (F : Fun K x qual st f fd) (S : FnScope N ps (defScope st))
    (hbody : ∀ (cdv : Value) (A : Around) (outer : List Env) (s : Shared) (H : Hp) (E : XK), Room k (A.deeper (envOfC qual (defScope st) s.heap.objs.size f cdv)) →
      Cs K (fun cls d _ H => E cls d H) (cxOf (L2.CX P w) P w K mg base N qual (defScope st) f cdv A outer s H E) →
      ∃ t, DB K O (fun cls d _ H => E cls d H) (cxOf (L2.CX P w) P w K mg base N qual (defScope st) f cdv A outer s H E) (defBody st) t m) : FnOk P w K mg base (L2.CX P w) (k + 1) f fd ps (spN K O ps.length (runN O N.length m)) := by
  refine F.okX S (fun vs H Q E h => h.1) (fun cdv A outer s H vs Q E hr h => ?_)
  obtain ⟨hl, G, ds, s0, g, wg, ok, r, q⟩ := h
  have tk : Takes (cxOf (L2.CX P w) P w K mg base N qual (defScope st) f cdv A outer s H E) (fun cls d _ H => E cls d H) := takes_of rfl rfl rfl rfl
  obtain ⟨t, hd⟩ := hbody cdv A outer s H E hr ⟨⟨rfl, tk⟩, passes_of rfl, rfl, S.nd⟩
  refine ⟨t, hd.pe, hd.sn G H _ _ G H s0 _ ⟨start_fm g wg ok rfl r, .refl g⟩ ?_⟩
  unfold runN at q
  revert q
  cases m (ds.map .sh ++ List.replicate (N.length - ds.length) .no) s0 with
  | nx ρ s1 => exact fun q => q.elim
  | rt d s1 => exact fun q => q.elim
  | rn ds s1 => exact fun q p vs G' H' e t' k' n g hp r' => q p vs G' H' t' k' n g hp r'
  | err c fs ρ s1 => exact fun q σ' dd xs G' H' e F' a b c' => q dd xs G' H' F'.tr F'.fm.ok a b c'
  | bk ρ s1 => exact fun q => q.elim
  | ct ρ s1 => exact fun q => q.elim
  | bad => exact fun q => q.elim
end
end Mr
namespace Mr
open PySem PySem.Spec PyProof.Rows L2 RZ
abbrev lstO (acc : Array Value) (c : Nat) : Obj := { cls := .type "list", dict := none, data := .seq acc c, slots := #[] }
/-- how an iterator I fills a list at S: J before each turn, Fin at the end -/
structure Fill (prog : Program) (w : World) (A : Around) (S I : Addr) (T : String) (n : Nat) (J : Nat → Array Value → Heap → Prop) (Fin : Array Value → Heap → Prop) : Prop where
  ne : S ≠ I
  ty : ∀ i acc h, J i acc h → ∃ o, h.get? I = some o ∧ o.cls = .type T
  sz : ∀ i acc h, J i acc h → acc.size = i
  st : ∀ i acc h h', J i acc h → (∀ b, b ≠ S → h'.get? b = h.get? b) → h'.objs.size = h.objs.size → J i acc h'
  item : ∀ i acc (s : Shared) c (Q : Option Value → Shared → Prop) (E : Value → Shared → Prop), i < n → J i acc s.heap → s.heap.get? S = some (lstO acc c) →
    (∀ v h', J (i + 1) (acc.push v) h' → h'.get? S = some (lstO acc c) → Q (some v) { s with heap := h' }) → wpAny (model prog w) A (pyNext (.ref I)) Q E s
  done : ∀ acc (s : Shared) c (Q : Option Value → Shared → Prop) (E : Value → Shared → Prop), J n acc s.heap → s.heap.get? S = some (lstO acc c) →
    (∀ h', Fin acc h' → h'.get? S = some (lstO acc c) → Q none { s with heap := h' }) → wpAny (model prog w) A (pyNext (.ref I)) Q E s
  self : ∀ i acc (s : Shared) (Q : Value → Shared → Prop) (E : Value → Shared → Prop), J i acc s.heap → Q (.ref I) s → wpAny (model prog w) A (pyIter (.ref I)) Q E s
section
variable {prog : Program} {w : World} {A : Around} {R : Result → Shared → Prop} {S I : Addr} {T : String} {n : Nat} {J : Nat → Array Value → Heap → Prop} {Fin : Array Value → Heap → Prop}
theorem fill_loop (W : Fill prog w A.in1 S I T n J Fin) (hn : n ≤ sizeLine) (res : Value) :
    ∀ (k i : Nat) (s : Shared) (acc : Array Value) (c : Nat), n - i = k → i ≤ n → J i acc s.heap → s.heap.get? S = some (lstO acc c) →
    (∀ h' acc' c', Fin acc' h' → h'.get? S = some (lstO acc' c') → R (.ok (.ret res)) { s with heap := h' }) →
    codeAny (model prog w) A (.builtin "list.extend.loop" ⟨[.ref S, .ref I, res], []⟩) R s := by
  intro k
  induction k with
  | zero =>
    intro i s acc c hk hi hst hS hR
    have hin : i = n := by omega
    subst hin
    refine codeAny_builtin F.entry_extend_loop ?_
    rw [Around.under_plainId F.plain_extend_loop _]
    show wpAny _ A.in1 (pyNext (.ref I) >>= _) _ _ s
    exact wpAny_bind (W.done acc s c _ _ hst hS fun h' f hS' => wpAny_pure (hR h' acc c f hS'))
  | succ k ih =>
    intro i s acc c hk hi hst hS hR
    have hlt : i < n := by omega
    have hz := W.sz i acc _ hst
    refine codeAny_builtin F.entry_extend_loop ?_
    rw [Around.under_plainId F.plain_extend_loop _]
    show wpAny _ A.in1 (pyNext (.ref I) >>= _) _ _ s
    refine wpAny_bind (W.item i acc s c _ _ hlt hst hS fun v h' hJ hS' => ?_)
    show wpAny _ A.in1 (updateSeq S (·.push v) >>= _) _ _ _
    refine wpAny_bind ?_
    refine wpAny_updateSeq hS' rfl (wpAny_pure ⟨plainId_quiet F.plain_extend_loop _, ih (i + 1) _ (acc.push v) _ (by omega) hlt (W.st _ _ _ _ hJ (fun b hb => Heap.get?_update_other _ _ (Ne.symm hb)) (Heap.SameBut.update ..).1) (Heap.get?_update_self _ hS' rfl) fun h'' acc' c' f hS'' => hR h'' acc' c' f hS''⟩) (by rw [hz]; omega) (by show (acc.push v).size ≤ sizeLine + 1; rw [Array.size_push, hz]; omega)
theorem fill_extend (W : Fill prog w A.in1 S I T n J Fin) (hT1 : (Value.type T == Value.type "list") = false) (hT2 : (Value.type T == Value.type "tuple") = false) (nolen : typeLookup (.type T) "__len__" = pure none) (nohint : typeLookup (.type T) "__length_hint__" = pure none) (hn : n ≤ sizeLine) (res : Value) {s : Shared} {c₀ : Nat} (hst : J 0 #[] s.heap)
    (hS : s.heap.get? S = some (lstO #[] c₀)) (hR : ∀ h' acc' c', Fin acc' h' → h'.get? S = some (lstO acc' c') → R (.ok (.ret res)) { s with heap := h' }) :
    wpAny (model prog w) A.in1 (Builtin.List.listExtendWith (.ref S) (.ref I) res)
      (fun fin s' => match fin with | .done f => R (.ok f) s' | .again c' => c'.quiet = true ∧ codeAny (model prog w) A c' R s') (fun e s' => R (.error e) s') s := by
  have ht : s.TypeIs (.ref I) T := W.ty 0 _ _ hst
  unfold Builtin.List.listExtendWith
  refine wpAny_bind (wpAny_typeOf ht ?_)
  have h1 : Builtin.List.listSameRef (.ref S) (.ref I) = false := by simp [Builtin.List.listSameRef, W.ne]
  simp only [h1, hT1, hT2, Bool.or_false, Bool.false_eq_true, if_false]
  refine wpAny_bind (W.self 0 _ _ _ _ hst ?_)
  refine wpAny_bind (wpAny_holding ?_)
  unfold Builtin.List.listLengthHint
  refine wpAny_bind (wpAny_specialOf ht nolen ?_)
  show wpAny _ A.in1 (specialOf (Value.ref I) (Str.ofString "__length_hint__") >>= _) _ _ _
  refine wpAny_bind (wpAny_specialOf ht nohint ?_)
  refine wpAny_pure ?_
  show wpAny _ A.in1 (rule "list.extend.makes-room" >>= fun _ => Builtin.List.listTouch (.ref S) >>= fun _ =>
    again (.builtin "list.extend.loop" ⟨[.ref S, .ref I, res], []⟩)) _ _ _
  refine wpAny_bind (wpAny_rule ?_)
  refine wpAny_bind ?_
  show wpAny _ A.in1 (updateSeq S (·.push .none) >>= fun _ => updateSeq S (·.pop)) _ _ _
  refine wpAny_bind (wpAny_updateSeq hS rfl ?_)
  have hS₂ := Heap.get?_update_self (Obj.mapSeq (·.push Value.none)) hS rfl
  refine wpAny_updateSeq (hz := by seq_fits) hS₂ rfl ?_
  have hS₃ := Heap.get?_update_self (Obj.mapSeq (·.pop)) hS₂ rfl
  refine wpAny_pure ⟨plainId_quiet F.plain_extend_loop _, fill_loop W hn _ n 0 _ _ _ rfl (Nat.zero_le _) (W.st _ _ _ _ hst (fun b hb => (Heap.get?_update_other _ _ (Ne.symm hb)).trans (Heap.get?_update_other _ _ (Ne.symm hb))) ?_) hS₃ fun h' acc' c' f hS' => hR h' acc' c' f hS'⟩
  exact (Heap.SameBut.update ..).1.trans (Heap.SameBut.update ..).1
theorem fill_init (W : Fill prog w A.in1 S I T n J Fin) (hT1 : (Value.type T == Value.type "list") = false) (hT2 : (Value.type T == Value.type "tuple") = false) (nolen : typeLookup (.type T) "__len__" = pure none) (nohint : typeLookup (.type T) "__length_hint__" = pure none) (hn : n ≤ sizeLine) {s : Shared} (hst : J 0 #[] s.heap)
    (hS : s.heap.get? S = some { cls := .type "list", data := .seq #[] }) (hR : ∀ h' acc' c', Fin acc' h' → h'.get? S = some (lstO acc' c') → R (.ok (.ret .none)) { s with heap := h' }) :
    wpAny (model prog w) A.in1 (Builtin.«list.__init__» ⟨[.ref S, .ref I], []⟩)
      (fun fin s' => match fin with | .done f => R (.ok f) s' | .again c' => c'.quiet = true ∧ codeAny (model prog w) A c' R s') (fun e s' => R (.error e) s') s := by
  show wpAny _ A.in1 (do let old ← Builtin.List.listItems (.ref S); Builtin.List.listUpdate (.ref S) (fun _ => #[]); letGo old.toList.reverse; Builtin.List.listExtendWith (.ref S) (.ref I) .none) _ _ s
  refine wpAny_bind ?_
  unfold Builtin.List.listItems
  refine wpAny_bind (wpAny_seqItems hS rfl (wpAny_pure ?_))
  show wpAny _ A.in1 (updateSeq S (fun _ => #[]) >>= fun _ => letGo (#[] : Array Value).toList.reverse >>= fun _ => Builtin.List.listExtendWith (.ref S) (.ref I) .none) _ _ s
  refine wpAny_bind (wpAny_updateSeq hS rfl ?_)
  have hS₂ := Heap.get?_update_self (Obj.mapSeq (fun _ => (#[] : Array Value))) hS rfl
  refine wpAny_bind (wpAny_letGo ?_)
  exact fill_extend W hT1 hT2 nolen nohint hn .none (W.st _ _ _ _ hst (fun b hb => Heap.get?_update_other _ _ (Ne.symm hb)) (Heap.SameBut.update ..).1) hS₂ fun h' acc' c' f hS' => hR h' acc' c' f hS'
end
theorem nolen_zip : typeLookup (.type "zip") "__len__" = pure none := by rw [typeLookup_type, builtinLookup_eq_fast]; kernel_rfl
theorem nohint_zip : typeLookup (.type "zip") "__length_hint__" = pure none := by rw [typeLookup_type, builtinLookup_eq_fast]; kernel_rfl
theorem call_list_zip {prog : Program} {w : World} {A : Around} {E : Value → Shared → Prop} {s : Shared} {I : Addr} {n : Nat} {J : Nat → Array Value → Heap → Prop} {Fin : Array Value → Heap → Prop} {Q : Value → Shared → Prop}
    (W : Fill prog w A.in1.in1 s.heap.objs.size I "zip" n J Fin) (hn : n ≤ sizeLine) (hst : J 0 #[] (s.heap.push { cls := .type "list", data := .seq #[] }))
    (hQ : ∀ h' acc' c', Fin acc' h' → h'.get? s.heap.objs.size = some (lstO acc' c') → Q (.ref s.heap.objs.size) { s with heap := h' }) :
    wpAny (model prog w) A (call (.type "list") [.ref I]) Q E s := by
  refine callType_codes (Q₁ := fun obj s₁ => obj = .ref s.heap.objs.size ∧ s₁ = { s with heap := s.heap.push { cls := .type "list", data := .seq #[] } }) F.called_list (F.typeCall_list_1 _) F.entry_list_init
    (code_list_new _ ⟨rfl, rfl⟩) fun obj s₁ h₁ => ?_
  obtain ⟨rfl, rfl⟩ := h₁
  have hS : (s.heap.push { cls := .type "list", data := .seq #[] }).get? s.heap.objs.size = some { cls := .type "list", data := .seq #[] } := Heap.get?_push_size _ rfl
  exact ⟨⟨_, hS, rfl⟩, F.args_list_init_2 _ _, fill_init (A := A.in1) W (by decide) (by decide) nolen_zip nohint_zip hn hst hS fun h' acc' c' f hS' => ⟨rfl, hQ h' acc' c' f hS'⟩⟩
end Mr
namespace Mr
open PySem PySem.Spec PyProof.Rows L2 RZ
abbrev IsZipF (h : Heap) (z TI TO a0 : Addr) (f : Bool) : Prop :=
  h.get? z = some { cls := .type "zip", dict := none, data := .fields #[rawInt a0, .bool f, .bool false, .ref TI, .ref TO], slots := #[] }
section
variable {prog : Program} {w : World} {A : Around} {E : Value → Shared → Prop}
theorem zloop2_item {σ : Type} {enc : Array Value → σ} {b : Value → σ → Sem (ForInStep σ)} {i : Nat}
    (hb : ∀ (s : Shared) (r : Sr) (x : Value) (items acc : Array Value) (Q : ForInStep σ → Shared → Prop), It01 r.k s.heap r.it r.l i → Sq01 r.k s.heap r.l items → items[i]? = some x →
      (∀ h', It01 r.k h' r.it r.l (i + 1) → Heap.SameBut r.it s.heap h' → Q (.yield (enc (acc.push x))) { s with heap := h' }) → wpAny (model prog w) A (b (.ref r.it) (enc acc)) Q E s) :
    ∀ (rs : List Sr) (xs : List Value) (acc : Array Value) (s : Shared) (Q : σ → Shared → Prop), AtI s.heap i rs xs → (rs.Pairwise fun a b => a.it ≠ b.it) → (∀ r ∈ rs, ∀ q ∈ rs, r.l ≠ q.it) →
      (∀ h', (∀ r ∈ rs, It01 r.k h' r.it r.l (i + 1)) → (∀ c, (∀ r ∈ rs, c ≠ r.it) → h'.get? c = s.heap.get? c) → h'.objs.size = s.heap.objs.size → Q (enc (acc ++ xs.toArray)) { s with heap := h' }) →
      wpAny (model prog w) A (forIn (rs.map fun r => Value.ref r.it) (enc acc) b) Q E s := by
  intro rs
  induction rs with
  | nil =>
    intro xs acc s Q hat _ _ hQ
    cases hat
    simp only [List.map_nil, List.forIn_nil]
    refine wpAny_pure ?_
    have := hQ s.heap (fun r hr => absurd hr List.not_mem_nil) (fun _ _ => rfl) rfl
    simpa using this
  | cons r rs ih =>
    intro xs acc s Q hat pw li hQ
    obtain ⟨x, xs, items, rfl, h1, h2, h3, h4⟩ : ∃ x xs' items, xs = x :: xs' ∧ It01 r.k s.heap r.it r.l i ∧ Sq01 r.k s.heap r.l items ∧ items[i]? = some x ∧ AtI s.heap i rs xs' := by
      cases hat with
      | cons h1 h2 h3 h4 => exact ⟨_, _, _, rfl, h1, h2, h3, h4⟩
    simp only [List.map_cons, List.forIn_cons]
    have pr : ∀ {q : Sr}, q ∈ rs → r.it ≠ q.it := fun hq => List.rel_of_pairwise_cons pw hq
    refine wpAny_bind (hb s r x items acc _ h1 h2 h3 fun h' i1 sb => ?_)
    refine ih xs (acc.push x) { s with heap := h' } Q (h4.keep fun q hq => ⟨fun o e => ?_, fun o e => ?_⟩) (List.Pairwise.of_cons pw) (fun q hq q2 hq2 => li q (List.mem_cons_of_mem _ hq) q2 (List.mem_cons_of_mem _ hq2)) fun h'' i2 f2 z2 => ?_
    · rw [sb.2 _ (pr hq).symm]; exact e
    · rw [sb.2 _ (li q (List.mem_cons_of_mem _ hq) r List.mem_cons_self)]; exact e
    · have ea : acc.push x ++ xs.toArray = acc ++ (x :: xs).toArray := by
        apply Array.toList_inj.mp
        simp
      rw [ea]
      refine hQ h'' (fun q hq => ?_) (fun c c2 => ?_) (z2.trans sb.1)
      · rcases List.mem_cons.mp hq with rfl | hq
        · exact i1.at fun o e => by rw [f2 _ fun q2 hq2 => pr hq2]; exact e
        · exact i2 q hq
      · rw [f2 c fun q hq => c2 q (List.mem_cons_of_mem _ hq)]
        exact sb.2 c (c2 r List.mem_cons_self)
theorem zloop2_end {σ : Type} {enc : Array Value → σ} {b : Value → σ → Sem (ForInStep σ)} {i : Nat}
    (hb : ∀ (s : Shared) (r : Sr) (x : Value) (items acc : Array Value) (Q : ForInStep σ → Shared → Prop), It01 r.k s.heap r.it r.l i → Sq01 r.k s.heap r.l items → items[i]? = some x →
      (∀ h', It01 r.k h' r.it r.l (i + 1) → Heap.SameBut r.it s.heap h' → Q (.yield (enc (acc.push x))) { s with heap := h' }) → wpAny (model prog w) A (b (.ref r.it) (enc acc)) Q E s)
    (he : ∀ (s : Shared) (r : Sr) (items acc : Array Value) (Q : ForInStep σ → Shared → Prop), It01 r.k s.heap r.it r.l i → Sq01 r.k s.heap r.l items → items[i]? = none →
      (∀ h' e, Heap.ExtBut r.it s.heap h' → (∃ o, h'.get? e = some o ∧ o.cls = .type "StopIteration") → E (.ref e) { s with heap := h' }) → wpAny (model prog w) A (b (.ref r.it) (enc acc)) Q E s) :
    ∀ (rs : List Sr) (acc : Array Value) (s : Shared) (Q : σ → Shared → Prop), EndI s.heap i rs → (rs.Pairwise fun a b => a.it ≠ b.it) → (∀ r ∈ rs, ∀ q ∈ rs, r.l ≠ q.it) →
      (∀ h' e, (∀ c o, (∀ r ∈ rs, c ≠ r.it) → s.heap.get? c = some o → h'.get? c = some o) → (∃ o, h'.get? e = some o ∧ o.cls = .type "StopIteration") → E (.ref e) { s with heap := h' }) →
      wpAny (model prog w) A (forIn (rs.map fun r => Value.ref r.it) (enc acc) b) Q E s := by
  intro rs
  induction rs with
  | nil =>
    intro acc s Q hat
    cases hat
  | cons r rs ih =>
    intro acc s Q hat pw li hE
    have hat : (∃ items, It01 r.k s.heap r.it r.l i ∧ Sq01 r.k s.heap r.l items ∧ items[i]? = none) ∨ (∃ items x, It01 r.k s.heap r.it r.l i ∧ Sq01 r.k s.heap r.l items ∧ items[i]? = some x ∧ EndI s.heap i rs) := by
      cases hat with
      | here h1 h2 h3 => exact .inl ⟨_, h1, h2, h3⟩
      | next h1 h2 h3 h4 => exact .inr ⟨_, _, h1, h2, h3, h4⟩
    simp only [List.map_cons, List.forIn_cons]
    have pr : ∀ {q : Sr}, q ∈ rs → r.it ≠ q.it := fun hq => List.rel_of_pairwise_cons pw hq
    rcases hat with ⟨items, h1, h2, h3⟩ | ⟨items, x, h1, h2, h3, h4⟩
    · exact wpAny_bind (he s r items acc _ h1 h2 h3 fun h' e f st => hE h' e (fun c o c3 q => f c o (c3 r List.mem_cons_self) q) st)
    refine wpAny_bind (hb s r x items acc _ h1 h2 h3 fun h' i1 sb => ?_)
    refine ih (acc.push x) { s with heap := h' } Q (h4.keep fun q hq => ⟨fun o e => ?_, fun o e => ?_⟩) (List.Pairwise.of_cons pw) (fun q hq q2 hq2 => li q (List.mem_cons_of_mem _ hq) q2 (List.mem_cons_of_mem _ hq2)) fun h'' e f st => ?_
    · rw [sb.2 _ (pr hq).symm]; exact e
    · rw [sb.2 _ (li q (List.mem_cons_of_mem _ hq) r List.mem_cons_self)]; exact e
    · refine hE h'' e (fun c o c3 q => f c o (fun q2 hq2 => c3 q2 (List.mem_cons_of_mem _ hq2)) ?_) st
      rw [sb.2 c (c3 r List.mem_cons_self)]
      exact q
variable {s : Shared}
theorem free_no {z TI TO a0 : Addr} {f : Bool} {oa : Obj} {Q : Bool → Shared → Prop} (hz : IsZipF s.heap z TI TO a0 f) (ha : s.heap.get? a0 = some oa)
    (hk : ∀ h', IsZipF h' z TI TO a0 true → Heap.SameBut z s.heap h' → Q false { s with heap := h' }) : wpAny (model prog w) A (Builtin.SmallTypes.ownedTupleIsFree (.ref z)) Q E s := by
  unfold Builtin.SmallTypes.ownedTupleIsFree
  refine wpAny_bind (wpAny_field hz rfl (x := rawInt a0) rfl ?_)
  show wpAny _ _ (loadIfAlive ((a0 : Int).toNat) >>= _) _ _ _
  rw [Int.toNat_natCast]
  refine wpAny_bind (PySem.W.kdx_alive ha ?_)
  simp only [Option.isNone_some, Bool.false_eq_true, if_false]
  refine wpAny_bind (wpAny_field hz rfl (x := .bool f) rfl ?_)
  cases f with
  | true =>
    rw [if_neg (show ¬ ((Value.bool true != Value.bool true) = true) from Bool.false_ne_true)]
    exact wpAny_pure (hk s.heap hz (Heap.SameBut.refl _ _))
  | false =>
    rw [if_pos (show (Value.bool false != Value.bool true) = true from rfl)]
    exact wpAny_bind (wpAny_setField_rec hz (by simp) fun h₃ he₃ hs₃ => wpAny_pure (hk h₃ he₃ hs₃))
abbrev frF (z : Addr) (src : List Sr) (h h' : Heap) : Prop := ∀ c o, c ≠ z → (∀ r ∈ src, c ≠ r.it) → h.get? c = some o → h'.get? c = some o
theorem zipF_next_item {z TI TO a0 : Addr} {f : Bool} {oa : Obj} {r0 : Sr} {rs : List Sr} {xs : List Value} {i : Nat} {Q : Value → Shared → Prop} (ap : Apart z TI TO (r0 :: rs))
    (hz : IsZipF s.heap z TI TO a0 f) (ha : s.heap.get? a0 = some oa) (hTI : s.heap.get? TI = some (tupO ((r0 :: rs).map fun r => Value.ref r.it).toArray)) (hkl : (r0 :: rs).length ≤ 1000) (hat : AtI s.heap i (r0 :: rs) xs)
    (hQ : ∀ h', IsZipF h' z TI TO a0 true → (∀ r ∈ (r0 :: rs), It01 r.k h' r.it r.l (i + 1)) → h'.get? s.heap.objs.size = some (tupO xs.toArray) → h'.objs.size = s.heap.objs.size + 1 → frF z (r0 :: rs) s.heap h' → Q (.ref s.heap.objs.size) { s with heap := h' }) :
    wpAny (model prog w) A (Builtin.«zip.__next__» ⟨[.ref z], []⟩) (fun fin s' => ∃ v, fin = .done (.ret v) ∧ Q v s') E s := by
  have hxl := hat.length
  show wpAny _ _ (field (.ref z) 2 >>= _) _ _ _
  refine wpAny_bind (wpAny_field hz rfl (x := .bool false) rfl ?_)
  show wpAny _ _ (field (.ref z) 3 >>= _) _ _ _
  refine wpAny_bind (wpAny_field hz rfl (x := .ref TI) rfl ?_)
  refine wpAny_bind (wpAny_seqItems hTI rfl ?_)
  show wpAny _ _ (Builtin.SmallTypes.ownedTupleIsFree (.ref z) >>= _) _ _ _
  refine wpAny_bind (free_no hz ha fun h₁ hz₁ hs₁ => ?_)
  have e₁ : ∀ c o, c ≠ z → s.heap.get? c = some o → h₁.get? c = some o := fun c o hc e => by rw [hs₁.2 c hc]; exact e
  simp only [Bool.false_eq_true, if_false, List.forIn_toArray]
  refine wpAny_bind ?_
  refine zloop2_item (i := i) (σ := Option Fin × Array Value) (enc := fun a => (none, a)) ?_ (r0 :: rs) xs #[] { s with heap := h₁ } _ (hat.keep fun r hr => ⟨fun o => e₁ _ o (ap.it r hr).1, fun o => e₁ _ o (ap.it r hr).2.2.2.1⟩) ap.its ap.lit ?_
  · intro s r x items acc Q h1 h2 h3 hQ
    refine wpAny_bind (wpAny_holding ?_)
    show wpAny _ _ (Builtin.SmallTypes.nextOf (.ref r.it) >>= _) _ _ _
    exact wpAny_bind (next01_item h1 h2 h3 fun h' i1 sb => wpAny_pure (wpAny_pure (hQ h' i1 sb)))
  intro h₅ i5 f5 z5
  have zs : ∀ r ∈ r0 :: rs, z ≠ r.it := fun r hr => (ap.it r hr).1.symm
  have hz₅ : IsZipF h₅ z TI TO a0 true := (f5 z zs).trans hz₁
  have hsz : h₅.objs.size = s.heap.objs.size := z5.trans hs₁.1
  have ex : (#[] : Array Value) ++ xs.toArray = xs.toArray := by simp
  rw [ex]
  refine wpAny_bind (wpAny_newTuple ?_)
  refine wpAny_pure ⟨_, rfl, ?_⟩
  show Q (.ref h₅.objs.size) _
  rw [hsz]
  refine hQ _ (Heap.get?_push_of_some _ hz₅) (fun r hr => (i5 r hr).at fun o e => Heap.get?_push_of_some _ e) ?_ ?_ fun c o c1 c3 e => Heap.get?_push_of_some _ ?_
  · rw [← hsz]
    exact Heap.get?_push_size _ rfl
  · rw [Heap.size_push, hsz]
  · rw [f5 c c3]
    exact e₁ c o c1 e
theorem zipF_next_end {z TI TO a0 : Addr} {f : Bool} {oa : Obj} {r0 : Sr} {rs : List Sr} {i : Nat} {Q : Fin → Shared → Prop} (hh : A.handled = none) (ap : Apart z TI TO (r0 :: rs))
    (hz : IsZipF s.heap z TI TO a0 f) (ha : s.heap.get? a0 = some oa) (hTI : s.heap.get? TI = some (tupO ((r0 :: rs).map fun r => Value.ref r.it).toArray)) (hat : EndI s.heap i (r0 :: rs))
    (hE : ∀ h' e, frF z (r0 :: rs) s.heap h' → (∃ o, h'.get? e = some o ∧ o.cls = .type "StopIteration") → E (.ref e) { s with heap := h' }) :
    wpAny (model prog w) A (Builtin.«zip.__next__» ⟨[.ref z], []⟩) Q E s := by
  show wpAny _ _ (field (.ref z) 2 >>= _) _ _ _
  refine wpAny_bind (wpAny_field hz rfl (x := .bool false) rfl ?_)
  show wpAny _ _ (field (.ref z) 3 >>= _) _ _ _
  refine wpAny_bind (wpAny_field hz rfl (x := .ref TI) rfl ?_)
  refine wpAny_bind (wpAny_seqItems hTI rfl ?_)
  show wpAny _ _ (Builtin.SmallTypes.ownedTupleIsFree (.ref z) >>= _) _ _ _
  refine wpAny_bind (free_no hz ha fun h₁ hz₁ hs₁ => ?_)
  have e₁ : ∀ c o, c ≠ z → s.heap.get? c = some o → h₁.get? c = some o := fun c o hc e => by rw [hs₁.2 c hc]; exact e
  simp only [Bool.false_eq_true, if_false, List.forIn_toArray]
  refine wpAny_bind ?_
  refine zloop2_end (i := i) (σ := Option Fin × Array Value) (enc := fun a => (none, a)) ?_ ?_ (r0 :: rs) #[] { s with heap := h₁ } _ (hat.keep fun r hr => ⟨fun o => e₁ _ o (ap.it r hr).1, fun o => e₁ _ o (ap.it r hr).2.2.2.1⟩) ap.its ap.lit ?_
  · intro s r x items acc Q h1 h2 h3 hQ
    refine wpAny_bind (wpAny_holding ?_)
    show wpAny _ _ (Builtin.SmallTypes.nextOf (.ref r.it) >>= _) _ _ _
    exact wpAny_bind (next01_item h1 h2 h3 fun h' i1 sb => wpAny_pure (wpAny_pure (hQ h' i1 sb)))
  · intro s r items acc Q h1 h2 h3 hE
    refine wpAny_bind (wpAny_holding ?_)
    show wpAny _ _ (Builtin.SmallTypes.nextOf (.ref r.it) >>= _) _ _ _
    exact wpAny_bind (next01_end hh h1 h2 h3 hE)
  · exact fun h' e f st => hE h' e (fun c o c1 c3 q => f c o c3 (e₁ c o c1 q)) st
theorem pyNext_zipF_item {z TI TO a0 : Addr} {f : Bool} {oa : Obj} {r0 : Sr} {rs : List Sr} {xs : List Value} {i : Nat} {Q : Option Value → Shared → Prop} (ap : Apart z TI TO (r0 :: rs))
    (hz : IsZipF s.heap z TI TO a0 f) (ha : s.heap.get? a0 = some oa) (hTI : s.heap.get? TI = some (tupO ((r0 :: rs).map fun r => Value.ref r.it).toArray)) (hkl : (r0 :: rs).length ≤ 1000) (hat : AtI s.heap i (r0 :: rs) xs)
    (hQ : ∀ h', IsZipF h' z TI TO a0 true → (∀ r ∈ (r0 :: rs), It01 r.k h' r.it r.l (i + 1)) → h'.get? s.heap.objs.size = some (tupO xs.toArray) → h'.objs.size = s.heap.objs.size + 1 → frF z (r0 :: rs) s.heap h' → Q (some (.ref s.heap.objs.size)) { s with heap := h' }) :
    wpAny (model prog w) A (pyNext (.ref z)) Q E s := by
  have hT : s.TypeIs (.ref z) "zip" := ⟨_, hz, rfl⟩
  unfold pyNext
  exact wpAny_bind (wpAny_attempt (wpAny_callSpecial?_slot (name := Str.ofString "__next__") hT F.slot_zip_next
    (wpAny_call_entry F.slot_zip_next hT F.entry_zip_next
      (zipF_next_item ap hz ha hTI hkl hat fun h' a1 a2 a3 a4 a5 => wpAny_pure (hQ h' a1 a2 a3 a4 a5)) (F.args_zip_next_1 _))))
theorem pyNext_zipF_end {z TI TO a0 : Addr} {f : Bool} {oa : Obj} {r0 : Sr} {rs : List Sr} {i : Nat} {Q : Option Value → Shared → Prop} (hh : A.handled = none) (ap : Apart z TI TO (r0 :: rs))
    (hz : IsZipF s.heap z TI TO a0 f) (ha : s.heap.get? a0 = some oa) (hTI : s.heap.get? TI = some (tupO ((r0 :: rs).map fun r => Value.ref r.it).toArray)) (hat : EndI s.heap i (r0 :: rs))
    (hQ : ∀ h', frF z (r0 :: rs) s.heap h' → Q none { s with heap := h' }) : wpAny (model prog w) A (pyNext (.ref z)) Q E s := by
  have hT : s.TypeIs (.ref z) "zip" := ⟨_, hz, rfl⟩
  unfold pyNext
  refine wpAny_bind (wpAny_attempt (wpAny_callSpecial?_slot (name := Str.ofString "__next__") hT F.slot_zip_next
    (wpAny_call_entry F.slot_zip_next hT F.entry_zip_next (zipF_next_end hh ap hz ha hTI hat fun h' e hk he => ?_) (F.args_zip_next_1 _))))
  obtain ⟨o, ho, hc⟩ := he
  refine wpAny_bind (wpAny_isInstance (T := "StopIteration") (b := true) ⟨o, ho, hc⟩ isSubtype_stop ?_)
  exact wpAny_pure (hQ _ hk)
end
end Mr
namespace Mr
open PySem PySem.Spec PyProof.Rows L2 RZ
structure ZJs (hb : Heap) (S z TI TO : Addr) (r1 r2 : Sr) (xs ys : Array Value) (i : Nat) (acc : Array Value) (h : Heap) (as : List Addr) : Prop where
  ac : acc.toList = as.map Value.ref
  ln : as.length = i
  zs : (i = 0 ∧ IsZip h z TI TO .none ∧ ∃ kept : Array Value, kept.size = 2 ∧ h.get? TO = some (tupO kept)) ∨ (∃ a0 f, a0 ∈ as ∧ IsZipF h z TI TO a0 f)
  ti : h.get? TI = some (tupO #[.ref r1.it, .ref r2.it])
  i1 : It01 r1.k h r1.it r1.l i
  i2 : It01 r2.k h r2.it r2.l i
  fr : ∀ c o, c ≠ z → c ≠ TO → c ≠ r1.it → c ≠ r2.it → c ≠ S → hb.get? c = some o → h.get? c = some o
  rw : ∀ (j : Nat) a, as[j]? = some a → ∃ x y, xs[j]? = some x ∧ ys[j]? = some y ∧ h.get? a = some (tupO #[x, y])
  up : as.Pairwise (fun a b => @LT.lt Nat _ a b)
  ab : ∀ a ∈ as, @LT.lt Nat _ S a ∧ @LT.lt Nat _ a h.objs.size
  sS : @LT.lt Nat _ S h.objs.size
structure ZB (hb : Heap) (S z TI TO : Addr) (r1 r2 : Sr) (xs ys : Array Value) : Prop where
  D : Apart z TI TO [r1, r2]
  q1 : Sq01 r1.k hb r1.l xs
  q2 : Sq01 r2.k hb r2.l ys
  lt : @LT.lt Nat _ z S ∧ @LT.lt Nat _ TI S ∧ @LT.lt Nat _ TO S ∧ @LT.lt Nat _ r1.it S ∧ @LT.lt Nat _ r2.it S ∧ @LT.lt Nat _ r1.l S ∧ @LT.lt Nat _ r2.l S
theorem ltA {a b : Nat} (h : a < b) : @Ne Addr a b := Nat.ne_of_lt h
section
variable {hb : Heap} {S z TI TO : Addr} {r1 r2 : Sr} {xs ys : Array Value} {i : Nat} {acc : Array Value} {h : Heap} {as : List Addr}
theorem ZJs.sq (B : ZB hb S z TI TO r1 r2 xs ys) (j : ZJs hb S z TI TO r1 r2 xs ys i acc h as) : Sq01 r1.k h r1.l xs ∧ Sq01 r2.k h r2.l ys := by
  have m1 : r1 ∈ [r1, r2] := List.mem_cons_self
  have m2 : r2 ∈ [r1, r2] := List.mem_cons_of_mem _ List.mem_cons_self
  obtain ⟨_, _, _, l1, l2⟩ := B.D.it r1 m1
  obtain ⟨_, _, _, l3, l4⟩ := B.D.it r2 m2
  exact ⟨B.q1.at fun o e => j.fr _ o l1 l2 (B.D.lit r1 m1 r1 m1) (B.D.lit r1 m1 r2 m2) (ltA B.lt.2.2.2.2.2.1) e, B.q2.at fun o e => j.fr _ o l3 l4 (B.D.lit r2 m2 r1 m1) (B.D.lit r2 m2 r2 m2) (ltA B.lt.2.2.2.2.2.2) e⟩
theorem ZJs.stay (B : ZB hb S z TI TO r1 r2 xs ys) (j : ZJs hb S z TI TO r1 r2 xs ys i acc h as) {h' : Heap} (e : ∀ b, b ≠ S → h'.get? b = h.get? b) (ez : h'.objs.size = h.objs.size) : ZJs hb S z TI TO r1 r2 xs ys i acc h' as := by
  obtain ⟨z1, z2, z3, z4, z5, _, _⟩ := B.lt
  refine ⟨j.ac, j.ln, ?_, (e _ (ltA z2)).trans j.ti, j.i1.at fun o q => (e _ (ltA z4)).trans q, j.i2.at fun o q => (e _ (ltA z5)).trans q, fun c o c1 c2 c3 c4 c5 q => (e _ c5).trans (j.fr c o c1 c2 c3 c4 c5 q), fun k a ha => ?_, j.up, fun a ha => by rw [ez]; exact j.ab a ha, by rw [ez]; exact j.sS⟩
  · rcases j.zs with ⟨h0, hz, kept, hk, hT⟩ | ⟨a0, f, ha, hz⟩
    · exact .inl ⟨h0, (e _ (ltA z1)).trans hz, kept, hk, (e _ (ltA z3)).trans hT⟩
    · exact .inr ⟨a0, f, ha, (e _ (ltA z1)).trans hz⟩
  · obtain ⟨x, y, h1, h2, h3⟩ := j.rw k a ha
    exact ⟨x, y, h1, h2, (e _ (Ne.symm (ltA (j.ab a (List.mem_of_getElem? ha)).1))).trans h3⟩
/-- one more tuple -/
theorem ZJs.more (B : ZB hb S z TI TO r1 r2 xs ys) (j : ZJs hb S z TI TO r1 r2 xs ys i acc h as) {h' : Heap} {x y : Value} {a0 : Addr} {f : Bool} (hx : xs[i]? = some x) (hy : ys[i]? = some y) (hz : IsZipF h' z TI TO a0 f) (ha0 : a0 ∈ as ++ [h.objs.size])
    (hi : ∀ r ∈ [r1, r2], It01 r.k h' r.it r.l (i + 1)) (hT : h'.get? h.objs.size = some (tupO #[x, y])) (hs : h'.objs.size = h.objs.size + 1) (hk : ∀ c o, c ≠ z → c ≠ TO → c ≠ r1.it → c ≠ r2.it → h.get? c = some o → h'.get? c = some o) :
    ZJs hb S z TI TO r1 r2 xs ys (i + 1) (acc.push (.ref h.objs.size)) h' (as ++ [h.objs.size]) := by
  obtain ⟨z1, z2, z3, z4, z5, _, _⟩ := B.lt
  have m1 : r1 ∈ [r1, r2] := List.mem_cons_self
  have m2 : r2 ∈ [r1, r2] := List.mem_cons_of_mem _ List.mem_cons_self
  have big : ∀ a ∈ as, a ≠ z ∧ a ≠ TO ∧ a ≠ r1.it ∧ a ≠ r2.it := fun a ha => by
    have := (j.ab a ha).1
    exact ⟨Ne.symm (ltA (Nat.lt_trans z1 this)), Ne.symm (ltA (Nat.lt_trans z3 this)), Ne.symm (ltA (Nat.lt_trans z4 this)), Ne.symm (ltA (Nat.lt_trans z5 this))⟩
  refine ⟨by simp [j.ac], by simp [j.ln], .inr ⟨a0, f, ha0, hz⟩, hk _ _ B.D.TIz B.D.TITO (Ne.symm (B.D.it r1 m1).2.1) (Ne.symm (B.D.it r2 m2).2.1) j.ti, hi r1 m1, hi r2 m2, fun c o c1 c2 c3 c4 c5 q => hk c o c1 c2 c3 c4 (j.fr c o c1 c2 c3 c4 c5 q), fun k a ha => ?_, ?_, fun a ha => ?_, by rw [hs]; exact Nat.lt_succ_of_lt j.sS⟩
  · by_cases hk' : k < as.length
    · rw [List.getElem?_append_left hk'] at ha
      obtain ⟨x', y', h1, h2, h3⟩ := j.rw k a ha
      obtain ⟨b1, b2, b3, b4⟩ := big a (List.mem_of_getElem? ha)
      exact ⟨x', y', h1, h2, hk a _ b1 b2 b3 b4 h3⟩
    · rw [List.getElem?_append_right (by omega)] at ha
      have hk2 : k = as.length := by
        have := (List.getElem?_eq_some_iff.mp ha).1
        simp at this
        omega
      subst hk2
      rw [Nat.sub_self] at ha
      simp only [List.getElem?_cons_zero, Option.some.injEq] at ha
      subst ha
      rw [j.ln]
      exact ⟨x, y, hx, hy, hT⟩
  · rw [List.pairwise_append]
    refine ⟨j.up, List.pairwise_singleton _ _, fun a ha b hb' => ?_⟩
    rw [List.mem_singleton] at hb'
    subst hb'
    exact (j.ab a ha).2
  · rw [hs]
    rcases List.mem_append.mp ha with q | q
    · exact ⟨(j.ab a q).1, Nat.lt_succ_of_lt (j.ab a q).2⟩
    · rw [List.mem_singleton] at q
      subst q
      exact ⟨j.sS, Nat.lt_succ_self _⟩
theorem frSrc {h h' : Heap} {r1 r2 : Sr} {z TO : Addr} (k : ∀ c o, c ≠ z → c ≠ TO → (∀ r ∈ [r1, r2], c ≠ r.it) → h.get? c = some o → h'.get? c = some o) : ∀ c o, c ≠ z → c ≠ TO → c ≠ r1.it → c ≠ r2.it → h.get? c = some o → h'.get? c = some o := fun c o c1 c2 c3 c4 e => k c o c1 c2 (fun r hr => by
  simp only [List.mem_cons, List.not_mem_nil, or_false] at hr
  rcases hr with rfl | rfl
  · exact c3
  · exact c4) e
/-- the list is full -/
structure ZEnd (hb : Heap) (S z TO : Addr) (r1 r2 : Sr) (xs ys : Array Value) (acc : Array Value) (h : Heap) (as : List Addr) : Prop where
  ac : acc.toList = as.map Value.ref
  ln : as.length = min xs.size ys.size
  fr : ∀ c o, c ≠ z → c ≠ TO → c ≠ r1.it → c ≠ r2.it → c ≠ S → hb.get? c = some o → h.get? c = some o
  rw : ∀ (j : Nat) a, as[j]? = some a → ∃ x y, xs[j]? = some x ∧ ys[j]? = some y ∧ h.get? a = some (tupO #[x, y])
  up : as.Pairwise (fun a b => @LT.lt Nat _ a b)
  ab : ∀ a ∈ as, @LT.lt Nat _ S a
theorem fill_zip {prog : Program} {w : World} {A : Around} (hh : A.handled = none) (B : ZB hb S z TI TO r1 r2 xs ys) :
    Fill prog w A S z "zip" (min xs.size ys.size) (fun i acc h => ∃ as, ZJs hb S z TI TO r1 r2 xs ys i acc h as) (fun acc h => ∃ as, ZEnd hb S z TO r1 r2 xs ys acc h as) where
  ne := Ne.symm (ltA B.lt.1)
  ty := fun i acc h ⟨as, j⟩ => by
    rcases j.zs with ⟨h0, hz, kept, hk, hT⟩ | ⟨a0, f, ha, hz⟩
    · exact ⟨_, hz, rfl⟩
    · exact ⟨_, hz, rfl⟩
  sz := fun i acc h ⟨as, j⟩ => by
    have := congrArg List.length j.ac
    rw [List.length_map, j.ln] at this
    simpa using this
  st := fun i acc h h' ⟨as, j⟩ e ez => ⟨as, j.stay B e ez⟩
  item := by
    intro i acc s c Q E hi hJ hS hQ
    obtain ⟨as, j⟩ := hJ
    obtain ⟨z1, z2, z3, z4, z5, _, _⟩ := B.lt
    obtain ⟨q1, q2⟩ := j.sq B
    have hx : xs[i]? = some xs[i] := Array.getElem?_eq_getElem (by omega)
    have hy : ys[i]? = some ys[i] := Array.getElem?_eq_getElem (by omega)
    have hat : AtI s.heap i [r1, r2] [xs[i], ys[i]] := .cons j.i1 q1 hx (.cons j.i2 q2 hy .nil)
    rcases j.zs with ⟨h0, hz, kept, hk, hT⟩ | ⟨a0, f, ha, hz⟩
    · refine pyNext_zipN_item B.D hz j.ti hT hk (by simp) hat fun h' z' TO' i' hT' hsz hfr => ?_
      have fr := frSrc hfr
      exact hQ _ h' ⟨_, j.more B hx hy (f := false) z' (by simp) i' hT' hsz fr⟩ (fr S _ (Ne.symm (ltA z1)) (Ne.symm (ltA z3)) (Ne.symm (ltA z4)) (Ne.symm (ltA z5)) hS)
    · obtain ⟨k, hk⟩ := List.mem_iff_getElem?.mp ha
      obtain ⟨x', y', _, _, h3⟩ := j.rw k a0 hk
      refine pyNext_zipF_item B.D hz h3 j.ti (by simp) hat fun h' z' i' hT' hsz hfr => ?_
      have fr := frSrc (TO := TO) fun c o c1 c2 c3 e => hfr c o c1 c3 e
      exact hQ _ h' ⟨_, j.more B hx hy z' (List.mem_append_left _ ha) i' hT' hsz fr⟩ (fr S _ (Ne.symm (ltA z1)) (Ne.symm (ltA z3)) (Ne.symm (ltA z4)) (Ne.symm (ltA z5)) hS)
  done := by
    intro acc s c Q E hJ hS hQ
    obtain ⟨as, j⟩ := hJ
    obtain ⟨z1, z2, z3, z4, z5, _, _⟩ := B.lt
    obtain ⟨q1, q2⟩ := j.sq B
    have hend : EndI s.heap (min xs.size ys.size) [r1, r2] := by
      by_cases hle : xs.size ≤ ys.size
      · exact .here j.i1 q1 (Array.getElem?_eq_none (by omega))
      · exact .next j.i1 q1 (Array.getElem?_eq_getElem (show min xs.size ys.size < xs.size by omega)) (.here j.i2 q2 (Array.getElem?_eq_none (by omega)))
    have big : ∀ a ∈ as, a ≠ z ∧ a ≠ TO ∧ a ≠ r1.it ∧ a ≠ r2.it := fun a ha => by
      have := (j.ab a ha).1
      exact ⟨Ne.symm (ltA (Nat.lt_trans z1 this)), Ne.symm (ltA (Nat.lt_trans z3 this)), Ne.symm (ltA (Nat.lt_trans z4 this)), Ne.symm (ltA (Nat.lt_trans z5 this))⟩
    have fin : ∀ h' : Heap, (∀ c o, c ≠ z → c ≠ TO → c ≠ r1.it → c ≠ r2.it → s.heap.get? c = some o → h'.get? c = some o) → Q none { s with heap := h' } := fun h' fr =>
      hQ h' ⟨as, j.ac, j.ln, fun c o c1 c2 c3 c4 c5 e => fr c o c1 c2 c3 c4 (j.fr c o c1 c2 c3 c4 c5 e), fun k a ha => by
        obtain ⟨x', y', h1, h2, h3⟩ := j.rw k a ha
        obtain ⟨b1, b2, b3, b4⟩ := big a (List.mem_of_getElem? ha)
        exact ⟨x', y', h1, h2, fr a _ b1 b2 b3 b4 h3⟩, j.up, fun a ha => (j.ab a ha).1⟩ (fr S _ (Ne.symm (ltA z1)) (Ne.symm (ltA z3)) (Ne.symm (ltA z4)) (Ne.symm (ltA z5)) hS)
    rcases j.zs with ⟨h0, hz, kept, hk, hT⟩ | ⟨a0, f, ha, hz⟩
    · exact pyNext_zipN_end hh B.D hz j.ti hT (by omega) hend fun h' hfr => fin h' (frSrc hfr)
    · obtain ⟨k, hk⟩ := List.mem_iff_getElem?.mp ha
      obtain ⟨x', y', _, _, h3⟩ := j.rw k a0 hk
      exact pyNext_zipF_end hh B.D hz h3 j.ti hend fun h' hfr => fin h' (frSrc (TO := TO) fun c o c1 c2 c3 e => hfr c o c1 c3 e)
  self := fun i acc s Q E ⟨as, j⟩ h => by
    rcases j.zs with ⟨h0, hz, kept, hk, hT⟩ | ⟨a0, f, ha, hz⟩
    · exact wpAny_pyIter_zip hz h
    · have hT : s.TypeIs (.ref z) "zip" := ⟨_, hz, rfl⟩
      refine wpAny_pyIter_slot hT F.slot_zip_iter (wpAny_call_entry F.slot_zip_iter hT F.entry_zip_iter ?_ (F.args_zip_iter_1 _))
      show wpAny _ _ (ret (.ref z)) _ _ s
      exact wpAny_pure ⟨_, rfl, "zip", _, hT, F.slot_zip_next.lookup, h⟩
end
end Mr
namespace Mr
open PySem PySem.Spec PyProof.Rows L2 RZ
def putPs : Hp → List Addr → List (V × V) → Hp
  | H, a :: as, p :: ps => putPs (upd H a (.tup [p.1, p.2])) as ps
  | H, _, _ => H
theorem putPs_off {b : Addr} : ∀ (as : List Addr) (ps : List (V × V)) (H : Hp), b ∉ as → putPs H as ps b = H b
  | [], _, _, _ => rfl
  | _ :: _, [], _, _ => rfl
  | a :: as, p :: ps, H, h => by
    show putPs (upd H a (.tup [p.1, p.2])) as ps b = H b
    rw [putPs_off as ps _ (fun z => h (List.mem_cons_of_mem _ z)), upd_ne (fun z => h (by rw [z]; exact List.mem_cons_self))]
theorem putPs_at : ∀ (as : List Addr) (ps : List (V × V)) (H : Hp), as.Nodup → ∀ (j : Nat) (a : Addr) (p : V × V), as[j]? = some a → ps[j]? = some p → putPs H as ps a = some (.tup [p.1, p.2])
  | [], _, _, _, j, a, p, h, _ => by cases h
  | _ :: _, [], _, _, j, a, p, _, h => by cases h
  | b :: as, q :: ps, H, hn, 0, a, p, h1, h2 => by
    have e1 : b = a := by simpa using h1
    have e2 : q = p := by simpa using h2
    subst e1 e2
    show putPs (upd H b (.tup [q.1, q.2])) as ps b = _
    rw [putPs_off as ps _ (List.nodup_cons.mp hn).1, upd_same]
  | b :: as, q :: ps, H, hn, j + 1, a, p, h1, h2 => putPs_at as ps _ (List.nodup_cons.mp hn).2 j a p (by simpa using h1) (by simpa using h2)
theorem vals_refs : ∀ as : List Addr, Vals (as.map V.ref) (as.map Value.ref)
  | [] => .nil
  | _ :: as => .cons rfl (vals_refs as)
theorem pairs_laid {X : Cx} {pins : List (Addr × Obj)} {σ : L2.St} {H : Hp} {s : Shared} {h' : Heap} {tk : Nat} {rows : List (V × V)} {acc : Array Value} {c : Nat} {S : Addr} {as : List Addr} (I : Inv X pins σ H s) (hz : rows.length ≤ sizeLine)
    (hk : ∀ b o, s.heap.get? b = some o → h'.get? b = some o) (hle : @LE.le Nat _ s.heap.objs.size S) (ab : ∀ a ∈ as, @LT.lt Nat _ S a) (up : as.Pairwise (fun a b => @LT.lt Nat _ a b)) (hl : as.length = rows.length) (hS : h'.get? S = some (lstO acc c)) (hacc : acc.toList = as.map Value.ref)
    (hrow : ∀ (j : Nat) a, as[j]? = some a → ∃ p u v, rows[j]? = some p ∧ RelV p.1 u ∧ RelV p.2 v ∧ h'.get? a = some (tupO #[u, v])) :
    ∃ H' : Hp, (∀ b o, H b = some o → H' b = some o) ∧ H S = none ∧ (∀ t ∈ as, H t = none) ∧ S ∉ as ∧ H' S = some (.lst (as.map V.ref)) ∧ (∀ (j : Nat) a p, as[j]? = some a → rows[j]? = some p → H' a = some (.tup [p.1, p.2])) ∧ (∀ b, b ∉ as → b ≠ S → H' b = H b) ∧ Inv X pins σ H' { s with heap := h', toks := tk } := by
  have hSn : S ∉ as := fun z => Nat.lt_irrefl _ (ab _ z)
  have nd : as.Nodup := List.Pairwise.imp (fun {a b} (h : @LT.lt Nat _ a b) => Nat.ne_of_lt h) up
  have new : ∀ t ∈ as, H t = none := fun t ht => I.hok.fresh (Nat.le_of_lt (Nat.lt_of_le_of_lt hle (ab t ht)))
  have newS : H S = none := I.hok.fresh hle
  have atP := putPs_at as rows (upd H S (.lst (as.map V.ref))) nd
  have off : ∀ b, b ∉ as → b ≠ S → putPs (upd H S (.lst (as.map V.ref))) as rows b = H b := fun b h1 h2 => by rw [putPs_off as rows _ h1, upd_ne h2]
  have low : ∀ b o, s.heap.get? b = some o → b ∉ as ∧ b ≠ S := fun b o e => ⟨fun z => absurd (Heap.lt_size e) (Nat.not_lt.mpr (Nat.le_of_lt (Nat.lt_of_le_of_lt hle (ab b z)))), Nat.ne_of_lt (Nat.lt_of_lt_of_le (Heap.lt_size e) hle)⟩
  have kp : ∀ b u, H b = some u → (putPs (upd H S (.lst (as.map V.ref))) as rows) b = some u := fun b u e => by
    rw [off b (fun z => by rw [new b z] at e; cases e) (fun z => by rw [z, newS] at e; cases e)]
    exact e
  have eS : putPs (upd H S (.lst (as.map V.ref))) as rows S = some (.lst (as.map V.ref)) := by rw [putPs_off as rows _ hSn, upd_same]
  refine ⟨putPs (upd H S (.lst (as.map V.ref))) as rows, kp, newS, new, hSn, eS, atP, off, ?_⟩
  refine I.call' (ch := []) rfl ⟨fun b o q _ _ _ => hk b o q, fun b o q _ _ _ => ⟨o.slots, hk b o q⟩, fun b o q n _ => ?_, fun b o q _ => ⟨o, hk b o q⟩, fun b xs q => kp b _ q, fun b o u q => kp b _ q, fun b ps q => ⟨#[], by rw [kp b _ q]; simp⟩⟩ (fun b u q => ?_) I.bare fun b z => by simp at z
  · obtain ⟨z1, z2⟩ := low b o q
    rw [off b z1 z2]
    exact n
  · by_cases hb : b ∈ as
    · obtain ⟨j, e1⟩ := List.mem_iff_getElem?.mp hb
      obtain ⟨p, x, y, e2, rx, ry, f3⟩ := hrow j b e1
      rw [atP j b p e1 e2] at q
      cases q
      exact ⟨by show 2 ≤ sizeLine; decide, [x, y], .cons rx (.cons ry .nil), ⟨_, f3, rfl, _, rfl⟩⟩
    · by_cases hb2 : b = S
      · rw [hb2] at q ⊢
        rw [eS] at q
        cases q
        refine ⟨by rw [List.length_map]; omega, acc.toList, c, by rw [hacc]; exact vals_refs as, ?_⟩
        rw [Array.toArray_toList]
        exact hS
      · rw [off b hb hb2] at q
        exact (I.hok b u q).stay (fun d v _ y => hk d v y) (fun d y => kp d _ y) fun d xs y => kp d _ y
end Mr
namespace Mr
open PySem PySem.Spec PyProof.Rows L2 RZ
def tListZip (K : PySem.W.Frag) (ta : TA) : TE := fun σ H Q => ta σ H fun vs H1 => ∃ k1 k2 a b xs ys, vs = [.ref a, .ref b] ∧ SqX K H1 k1 a xs ∧ SqX K H1 k2 b ys ∧
  ∀ (H' : Hp) (p : Addr) (ts : List Addr), (∀ b o, H1 b = some o → H' b = some o) → H1 p = none → (∀ t ∈ ts, H1 t = none) → p ∉ ts → ts.Nodup → H' p = some (.lst (ts.map V.ref)) → ts.length = (xs.zip ys).length →
    (∀ (j : Nat) a q, ts[j]? = some a → (xs.zip ys)[j]? = some q → H' a = some (.tup [q.1, q.2])) → (∀ b, b ∉ ts → b ≠ p → H' b = H1 b) → Q (.ref p) H'
theorem vals_get2 {xs : List V} {its : List Value} (r : Vals xs its) : ∀ {j : Nat} {u : Value}, its[j]? = some u → ∃ x, xs[j]? = some x ∧ RelV x u := by
  induction r with
  | nil => intro j u h; cases h
  | cons r _ ih =>
    intro j u h
    cases j with
    | zero => simp only [List.getElem?_cons_zero, Option.some.injEq] at h; subst h; exact ⟨_, rfl, r⟩
    | succ j => exact ih (by simpa using h)
theorem pe_listZip {X : Cx} {e e2 : Expr} {ta : TA} {p p2 pos pos2 : Pos} (hc : X.calm = true) (hg : Gl X "list") (hm : X.mg "list" = none) (hg2 : Gl X "zip") (hm2 : X.mg "zip" = none) (ha : PA X [e, e2] ta)
    (na : starEach [.Call (.Name "zip" p2) [e, e2] [] pos2] X.env = (false, eval (.Call (.Name "zip" p2) [e, e2] [] pos2) X.env) :: starEach [] X.env := by rfl)
    (hs : starEach [e, e2] X.env = (false, eval e X.env) :: starEach [e2] X.env := by rfl) (hpl : (backTo pos2 (starEach [e2] X.env)).any (·.1) = false := by rfl) :
    PE X (.Call (.Name "list" p) [.Call (.Name "zip" p2) [e, e2] [] pos2] [] pos) (tListZip X.K ta) := by
  refine ⟨fun pins s σ H Q I h => ?_⟩
  refine Call_ (ld_blt I hg hm boot_list (PyProof.Rows.callWith_type1 (args_cons ?_ na) na))
  refine Call_ (ld_blt I hg2 hm2 PyProof.Rows.boot_zip (PyProof.Rows.callWith_type1 (thn (ha.run pos2 pins s σ H _ I h) fun us s1 ⟨vs, H1, I1, r1, q1⟩ => ?_) hs hpl))
  obtain ⟨k1, k2, a, b, xs, ys, ex, hqx, hqy, q⟩ := q1
  subst ex
  cases r1 with
  | cons r rr =>
    cases rr with
    | cons r' rr =>
      cases rr
      cases r
      cases r'
      obtain ⟨its, rv, p1⟩ := hqx.has I1
      obtain ⟨its2, rv2, p2⟩ := hqy.has I1
      have la := sq01_lt p1
      have lb := sq01_lt p2
      refine call_zip2 p1 p2 fun h' hz hTI hTO h1 h2 hk => args_nil ?_
      have D := apart2 k1 k2 s1.heap.objs.size a b la lb
      have zlt : s1.heap.objs.size + 4 < h'.objs.size := Heap.lt_size hz
      have B : ZB h' h'.objs.size (s1.heap.objs.size + 4) (s1.heap.objs.size + 2) (s1.heap.objs.size + 3) ⟨k1, s1.heap.objs.size, a⟩ ⟨k2, s1.heap.objs.size + 1, b⟩ its.toArray its2.toArray :=
        ⟨D, p1.at fun o e => hk _ o e, p2.at fun o e => hk _ o e, by
          generalize s1.heap.objs.size = n at la lb zlt
          exact ⟨zlt, Nat.lt_trans (show n + 2 < n + 4 by omega) zlt, Nat.lt_trans (show n + 3 < n + 4 by omega) zlt, Nat.lt_trans (show n < n + 4 by omega) zlt, Nat.lt_trans (show n + 1 < n + 4 by omega) zlt, Nat.lt_trans la (Nat.lt_trans (show n < n + 4 by omega) zlt), Nat.lt_trans lb (Nat.lt_trans (show n < n + 4 by omega) zlt)⟩⟩
      have l1 := rv.length
      have l2 := rv2.length
      have hzx : xs.length ≤ sizeLine := by
        cases k1
        · obtain ⟨_, _, _, z⟩ := I1.tuple hqx; exact z
        · obtain ⟨_, _, _, z⟩ := I1.list hqx; exact z
      refine call_list_zip (s := { s1 with heap := h' }) (fill_zip (A := X.A.in1.in1) (I1.ok.hd hc) B) (by simp; omega) ⟨[], rfl, rfl, .inl ⟨rfl, Heap.get?_push_of_some _ hz, _, rfl, Heap.get?_push_of_some _ hTO⟩, Heap.get?_push_of_some _ hTI, h1.at fun o e => Heap.get?_push_of_some _ e, h2.at fun o e => Heap.get?_push_of_some _ e, fun c o _ _ _ _ _ e => Heap.get?_push_of_some _ e, fun j a ha => (by cases ha), .nil, fun a ha => absurd ha List.not_mem_nil, by show h'.objs.size < (h'.push _).objs.size; rw [Heap.size_push]; exact Nat.lt_succ_self _⟩ ?_
      rintro h'' acc c ⟨as, E⟩ hS
      have hl : as.length = (xs.zip ys).length := by
        rw [E.ln, List.length_zip]
        simp
        omega
      have keep : ∀ b o, s1.heap.get? b = some o → h''.get? b = some o := fun b' o e => by
        have hb' := Heap.lt_size e
        refine E.fr b' o ?_ ?_ ?_ ?_ ?_ (hk b' o e)
        · exact ltA (Nat.lt_trans hb' (show s1.heap.objs.size < s1.heap.objs.size + 4 by omega))
        · exact ltA (Nat.lt_trans hb' (show s1.heap.objs.size < s1.heap.objs.size + 3 by omega))
        · exact ltA hb'
        · exact ltA (Nat.lt_trans hb' (show s1.heap.objs.size < s1.heap.objs.size + 1 by omega))
        · exact ltA (Nat.lt_trans hb' (Nat.lt_trans (show s1.heap.objs.size < s1.heap.objs.size + 4 by omega) zlt))
      obtain ⟨H', j1, j2, j3, j4, j5, j6, j7, J⟩ := pairs_laid (tk := s1.toks) (rows := xs.zip ys) I1 (by rw [List.length_zip]; omega) keep (Nat.le_of_lt (Nat.lt_trans (show s1.heap.objs.size < s1.heap.objs.size + 4 by omega) zlt)) E.ab E.up hl hS E.ac (fun j a' hj => by
        obtain ⟨x, y, e1, e2, e3⟩ := E.rw j a' hj
        obtain ⟨vx, f1, rx⟩ := vals_get2 rv (by simpa using e1)
        obtain ⟨vy, f2, ry⟩ := vals_get2 rv2 (by simpa using e2)
        exact ⟨(vx, vy), x, y, by rw [List.getElem?_zip_eq_some]; exact ⟨f1, f2⟩, rx, ry, e3⟩)
      exact ⟨.ref _, H', J, rfl, q H' _ as j1 j2 j3 j4 (List.Pairwise.imp (fun {a b} (h : @LT.lt Nat _ a b) => Nat.ne_of_lt h) E.up) j5 hl j6 j7⟩
section
variable {K : PySem.W.Frag} {O : Wo} {Wx : WX} {X : Cx} {G : Gh} {H : Hp}
theorem Reps.of_get : ∀ {vs : List V} {ds : List D}, vs.length = ds.length → (∀ (j : Nat) v d, vs[j]? = some v → ds[j]? = some d → Rep K G v d) → Reps K G vs ds
  | [], [], _, _ => .nil
  | [], _ :: _, h, _ => by cases h
  | _ :: _, [], h, _ => by cases h
  | v :: vs, d :: ds, h, k => .cons (k 0 v d rfl rfl) (Reps.of_get (by simpa using h) fun j v' d' h1 h2 => k (j + 1) v' d' (by simpa using h1) (by simpa using h2))
def putGs : Gh → List Addr → List (V × V) → Gh
  | G, a :: as, p :: ps => putGs (up G a (.tup [p.1, p.2])) as ps
  | G, _, _ => G
theorem putGs_off {b : Addr} : ∀ (as : List Addr) (ps : List (V × V)) (G : Gh), b ∉ as → putGs G as ps b = G b
  | [], _, _, _ => rfl
  | _ :: _, [], _, _ => rfl
  | a :: as, p :: ps, G, h => by
    show putGs (up G a (.tup [p.1, p.2])) as ps b = G b
    rw [putGs_off as ps _ (fun z => h (List.mem_cons_of_mem _ z)), up_ne (fun z => h (by rw [z]; exact List.mem_cons_self))]
theorem putGs_at : ∀ (as : List Addr) (ps : List (V × V)) (G : Gh), as.Nodup → ∀ (j : Nat) (a : Addr) (p : V × V), as[j]? = some a → ps[j]? = some p → putGs G as ps a = some (.fro (.tup [p.1, p.2]))
  | [], _, _, _, j, a, p, h, _ => by cases h
  | _ :: _, [], _, _, j, a, p, _, h => by cases h
  | b :: as, q :: ps, G, hn, 0, a, p, h1, h2 => by
    have e1 : b = a := by simpa using h1
    have e2 : q = p := by simpa using h2
    subst e1 e2
    show putGs (up G b (.tup [q.1, q.2])) as ps b = _
    rw [putGs_off as ps _ (List.nodup_cons.mp hn).1, up_same]
  | b :: as, q :: ps, G, hn, j + 1, a, p, h1, h2 => putGs_at as ps _ (List.nodup_cons.mp hn).2 j a p (by simpa using h1) (by simpa using h2)
end
end Mr
namespace Mr
open PySem PySem.Spec PyProof.Rows L2 RZ
section
variable {K : PySem.W.Frag} {O : Wo} {Wx : WX} {X : Cx} {G : Gh} {H : Hp}
/-- a + b, lists: a new list -/
def mCatN (O : Wo) (a b : ME O) : MA O := fun ρ s => (a ρ s).bind fun x s1 => (b ρ s1).bind fun y s2 => match x, y with
  | .lst xs, .lst ys => if xs.length + ys.length ≤ 100000 then .ok (xs ++ ys) s2 else .bad
  | _, _ => .bad
theorem dn_cat {a b : Expr} {ta tb : TE} {ma mb : ME O} {pos : Pos} (ha : DE K O Wx X a ta ma) (hb : DE K O Wx X b tb mb) : DN K O Wx X (.BinOp a .Add b pos) (tOp (rAddG K) ta tb) (mCatN O ma mb) := by
  refine ⟨ha.hK, ha.tk, (de_add ha hb).pe, fun σ ρ H0 G H s Q F h => ?_⟩
  refine ha.sn σ ρ H0 G H s _ F (pstN_bind h fun dx s1 _ x G1 H1 t1 k1 r1 h1 => ?_)
  have F1 := F.tr t1 k1
  refine hb.sn σ ρ H0 G1 H1 s1 _ F1 (pstN_bind h1 fun dy s2 _ y G2 H2 t2 k2 r2 h2 => ?_)
  have F2 := F1.tr t2 k2
  have r1' := r1.mono t2.gg
  cases r1' with
  | lst hs q1 =>
    cases r2 with
    | lst hs2 q2 =>
      dsimp only at h2
      split at h2
      · rename_i hz
        refine .inr (.inl ⟨_, _, _, _, rfl, rfl, F2.gh.seq hs, F2.gh.seq hs2, ?_, fun p np => newL (.refl F2.gh) k2 F2.gh h2 (q1.append q2) np⟩)
        rw [q1.length, q2.length]
        exact sz5 hz
      · exact h2.elim
    | _ => exact (show False from h2).elim
  | _ => exact (show False from h2).elim
end
end Mr
namespace Mr
open PySem PySem.Spec PyProof.Rows L2 RZ
abbrev ClA := Value × Nat × (Addr → Value → Option Addr → TS)
def wManyA (K : PySem.W.Frag) (Wout : WX) (D : Ends) : List ClA → WX
  | [] => Wout
  | (c, i, ts) :: r => fun cls d σ H => ∃ b, PySem.W.exmOne K cls c = some b ∧ (b = true → ∀ a, H a = none → ts a cls d { nx := fun σ' H' => D.nx (σ'.set i none) H', rt := D.rt, bk := fun σ' H' => D.bk (σ'.set i none) H', ct := fun σ' H' => D.ct (σ'.set i none) H' } (σ.set i (some (.ref a))) H) ∧ (b = false → wManyA K Wout D r cls d σ H)
inductive HdsA (X : Cx) : List ExceptHandler → List ClA → Prop
  | nil : HdsA X [] []
  | cons {x n : Str} {c : Value} {i : Nat} {ts : Addr → Value → Option Addr → TS} {b₀ : Stmt} {suite : List Stmt} {np pos' : Pos} {hds : List ExceptHandler} {l : List ClA} (hc : Names X x c) (hi : X.N[i]? = some n) (hln : X.env.kindOf n = some .local)
      (hsu : ∀ (a : Addr) (oe : Obj) (cls : Value) (d : Option Addr) (pn : List (Addr × Obj)), Zc cls d oe → (∃ vs, oe.data = .fields vs) → PSs (X.suite a ((a, oe) :: pn)) (b₀ :: suite) (ts a cls d)) (r : HdsA X hds l) :
      HdsA X (.ExceptHandler (some (.Name x np)) (some n) (b₀ :: suite) pos' :: hds) ((c, i, ts) :: l)
/-- an exception a of class cls, with its dict d, that no clause has taken so far: sI is the state in which it was raised -/
structure Fell (X : Cx) (B : Heap) (sI : Shared) (pins : List (Addr × Obj)) (σ : L2.St) (H : Hp) (a : Addr) (cls : Value) (d : Option Addr) (sN : Shared) : Prop where
  inv : Inv X pins σ H sI
  old : ∀ b o, sI.heap.get? b = some o → b ∉ frs X.stack → B.get? b = some o
  fly : HandSPX.FlyingZ B (X.env :: X.outer) a (Zc cls d) sN.heap
  upto : sI.heap.UpToSlots sN.heap
  os : sN.os = sI.os
  gens : AllBare sN.gens
  free : H a = none
section
variable {X : Cx} {B : Heap} {sI sN : Shared} {pins : List (Addr × Obj)} {σ : L2.St} {H : Hp} {a : Addr} {cls : Value} {d : Option Addr}
theorem Fell.now (h : Fell X B sI pins σ H a cls d sN) : Inv X pins σ H sN := h.inv.landed h.old h.fly.1 h.upto h.os h.gens
theorem Fell.obj (h : Fell X B sI pins σ H a cls d sN) : ∃ oe vs, sN.heap.get? a = some oe ∧ Zc cls d oe ∧ oe.data = .fields vs := h.fly.there
/-- the exception is none of the frames -/
theorem Fell.apart (h : Fell X B sI pins σ H a cls d sN) (hf : X.env.frame = some X.env.locals) : a ≠ X.env.locals ∧ a ∉ X.fs := by
  obtain ⟨oe, vs, g, _, hd⟩ := h.obj
  have out : a ∉ frs (X.env :: X.outer) := by
    intro m
    obtain ⟨_, o2, g2, no⟩ := h.fly.2.2.1.mem m
    have : oe = o2 := Option.some.inj (g.symm.trans g2)
    exact no vs (this ▸ hd)
  constructor
  · intro e
    exact out (List.mem_filterMap.mpr ⟨X.env, List.mem_cons_self, e ▸ hf⟩)
  · intro m
    obtain ⟨v, hv, q⟩ := List.mem_filterMap.mp m
    exact out (List.mem_filterMap.mpr ⟨v, .tail _ hv, q⟩)
/-- the clauses are at their end: it goes on -/
theorem Fell.goes (h : Fell X B sI pins σ H a cls d sN) {Wout : WX} {D : Ends} (hs : X.stack = X.env :: X.outer) (hf : X.env.frame = some X.env.locals) (tk : Takes X Wout) (w : Wout cls d σ H) :
    wpAny (model X.prog X.w) X.A (handleBy (.ref a) X.env []) (SP X pins D) X.xe sN := by
  apply wpAny_handleBy_nil
  have fl := h.fly
  obtain ⟨_, _, _, oe, vs, T, oT, tsl, g, _, hd, tb, _⟩ := id fl
  have rest : wpAny (model X.prog X.w) X.A (setFlight (.ref a) X.env.frame) (fun _ s4 => wpAny (model X.prog X.w) X.A (throw (.ref a) : Sem Flow) (SP X pins D) X.xe s4) X.xe sN := by
    rw [hf]
    apply HandSPX.setFlight_upZ fl
    intro h4 held up4
    apply wpAny_throw
    apply tk
    exact ⟨a, B, sI, pins, σ, H, cls, d, rfl, h.inv, h.old, h.upto.trans up4, .inr (.inr (hs ▸ held)), h.free, h.os, h.gens, w⟩
  unfold PySem.passOn
  apply wpAny_bind
  apply wpAny_field g hd tb
  rw [if_neg (by simp : ¬ ((Value.ref T == Value.none) = true))]
  first
    | exact wpAny_bind (wpAny_pure (wpAny_bind rest))
    | exact wpAny_bind rest
/-- a clause that names the class c, as n (slot i) -/
theorem Fell.clause (h : Fell X B sI pins σ H a cls d sN) {x n : Str} {c : Value} {i : Nat} {ts : Addr → Value → Option Addr → TS} {st : Stmt} {sts : List Stmt} {np hp : Pos} {rest : List ExceptHandler} {b : Bool} {D : Ends} (ok : X.Ok) (hf : X.env.frame = some X.env.locals) (hN : X.N.Nodup) (hc : Names X x c) (hi : X.N[i]? = some n) (hln : X.env.kindOf n = some .local)
    (hsu : ∀ (a : Addr) (oe : Obj) (cls : Value) (d : Option Addr) (pn : List (Addr × Obj)), Zc cls d oe → (∃ vs, oe.data = .fields vs) → PSs (X.suite a ((a, oe) :: pn)) (st :: sts) (ts a cls d))
    (hb : PySem.W.exmOne X.K cls c = some b) (yes : b = true → ts a cls d { nx := fun σ' H' => D.nx (σ'.set i none) H', rt := D.rt, bk := fun σ' H' => D.bk (σ'.set i none) H', ct := fun σ' H' => D.ct (σ'.set i none) H' } (σ.set i (some (.ref a))) H)
    (no : b = false → wpAny (model X.prog X.w) X.A (handleBy (.ref a) X.env rest) (SP X pins D) X.xe sN) :
    wpAny (model X.prog X.w) X.A (handleBy (.ref a) X.env (.ExceptHandler (some (.Name x np)) (some n) (st :: sts) hp :: rest)) (SP X pins D) X.xe sN := by
  obtain ⟨oe, vs, g, hz, hd⟩ := h.obj
  obtain ⟨nl, nf⟩ := h.apart hf
  have inS := h.now.suite g hd h.free nl nf
  have name : ∀ {Q : Value → Shared → Prop} {E : Value → Shared → Prop}, Q c sN → wpAny (model X.prog X.w) (X.A.mark (some (.ref a))) (eval (.Name x np) X.env) Q E sN := by
    intro Q E q
    rcases hc with ⟨gl, db, m | ⟨m, v, nn⟩⟩
    · exact ld_glob (X := X.suite a ((a, oe) :: (X.pn ++ pins))) inS gl m q db
    · exact ld_blt (X := X.suite a ((a, oe) :: (X.pn ++ pins))) inS gl m v q nn db
  have isOf := PySem.W.exm_one (M := model X.prog X.w) h.now.kIn (fun A Q E s k q => wpAny_typeOf_ref (k _ _ g) (by rw [hz.1]; exact q)) hb
  apply wpAny_handleBy_cons _ (by intro z; cases z)
  apply codeAny_handlers_test
  apply name
  apply isOf.here
  cases b
  · exact no rfl
  · apply codeAny_handlers_suite_as
    apply HandSPX.lands_againZ h.fly
    intro h4 fl4 up4
    have h' : Fell X B sI pins σ H a cls d { sN with heap := h4 } := ⟨h.inv, h.old, fl4, h.upto.trans up4, h.os, h.gens, h.free⟩
    obtain ⟨oe4, vs4, g4, hz4, hd4⟩ := h'.obj
    have inS4 := h'.now.suite g4 hd4 h.free nl nf
    refine store_ok (X := X.suite a ((a, oe4) :: (X.pn ++ pins))) (v := .ref a) inS4 hN hi (.inl hln) rfl (fun s5 in5 => ?_) (.inr hln)
    refine wpAny_mono ((hsu a oe4 cls d (X.pn ++ pins) hz4 ⟨_, hd4⟩).run [] s5 _ H _ in5 (yes rfl)) (fun fw s6 => ?_) (fun _ _ z => False.elim z)
    have bye : ∀ {τ : L2.St} {H6 : Hp} {Q : Shared → Prop}, Inv (X.suite a ((a, oe4) :: (X.pn ++ pins))) [] τ H6 s6 → (∀ s7, Inv X pins (τ.set i none) H6 s7 → Q s7) →
        wpAny (model X.prog X.w) X.A (do bindName X.env n .none; unbindBehindTheSuite X.env n hp) (fun _ s7 => Q s7) X.xe s6 := fun {τ H6 Q} in6 hq => gone_ok (in6.unsuite ok) hN hi hln hq
    cases fw
    · rintro ⟨τ, H6, in6, q⟩
      exact bye in6 fun s7 in7 => ⟨_, _, in7, q⟩
    · rintro ⟨τ, H6, in6, q⟩
      exact bye in6 fun s7 in7 => ⟨_, _, in7, q⟩
    · rintro ⟨τ, H6, in6, q⟩
      exact bye in6 fun s7 in7 => ⟨_, _, in7, q⟩
    · rintro ⟨v, τ, H6, in6, r, q⟩
      exact bye in6 fun s7 in7 => ⟨_, _, _, in7, r, q⟩
end
section
variable {X : Cx} {body : List Stmt} {h₀ : ExceptHandler} {hds : List ExceptHandler} {l : List ClA} {pos : Pos} {tb : WX → TS} {Wout : WX}
theorem Fell.clauses {B : Heap} {sI sN : Shared} {pins : List (Addr × Obj)} {σ : L2.St} {H : Hp} {a : Addr} {cls : Value} {d : Option Addr} {D : Ends} (h : Fell X B sI pins σ H a cls d sN) (ok : X.Ok) (hs : X.stack = X.env :: X.outer) (hf : X.env.frame = some X.env.locals) (hN : X.N.Nodup) (tk : Takes X Wout) (hh : HdsA X hds l) :
    wManyA X.K Wout D l cls d σ H → wpAny (model X.prog X.w) X.A (handleBy (.ref a) X.env hds) (SP X pins D) X.xe sN := by
  induction hh with
  | nil => exact fun w => h.goes hs hf tk w
  | cons hc hi hln hsu _ ih =>
    rintro ⟨b, hb, yes, no⟩
    exact h.clause ok hf hN hc hi hln hsu hb (fun e => yes e a h.free) (fun e => ih (no e))
end
structure MCl (O : Wo) where
  mt : Addr → Option Bool
  i : Nat
  ms : MS O
def mCls (O : Wo) (c : Addr) (fs : List (Str × D)) (ρ1 : Ev) (s1 : O.S) : List (MCl O) → RS O.S
  | [] => .err c fs ρ1 s1
  | k :: r => match k.mt c with
    | some true => if ρ1.all noExc = true then clrS k.i (k.ms (ρ1.set k.i (.exc c fs)) s1) else .bad
    | some false => mCls O c fs ρ1 s1 r
    | none => .bad
section
variable {K : PySem.W.Frag} {O : Wo} {Wx : WX} {X : Cx} {G0 : Gh} {H0 : Hp} {G : Gh} {H : Hp} {G1 : Gh} {H1 : Hp} {σ : L2.St} {ρ : Ev} {s s1 : O.S}
/-- clauses and their mirrors -/
structure DH (K : PySem.W.Frag) (O : Wo) (Wx : WX) (X : Cx) (hds : List ExceptHandler) (ml : List (MCl O)) : Prop where
  ex : ∃ l : List ClA, HdsA X hds l ∧ ∀ (G0 : Gh) (H0 : Hp) (G : Gh) (Dn : Ends) (c : Addr) (fs : List (Str × D)) (ρ1 : Ev) (s1 : O.S), PstS K O Wx G0 H0 G (mCls O c fs ρ1 s1 ml) Dn → ∀ σ' dd xs G' H', Sm G G' → Fs K O G0 H0 σ' ρ1 G' H' s1 → XdA H' dd xs → NwA O dd → RepF K G' xs fs → wManyA K Wx Dn l (.ref c) dd σ' H'
end
end Mr
namespace Mr
open PySem PySem.Spec PyProof.Rows L2 RZ
/-- the things at the places is -/
def plc {α : Type} (is : List Nat) (xs : List α) : List α := is.filterMap fun i => xs[i]?
theorem plc_vals {is : List Nat} {vs : List V} {us : List Value} (h : Vals vs us) : Vals (plc is vs) (plc is us) := by
  unfold plc
  induction is with
  | nil => exact .nil
  | cons i is ih =>
    have key : ∀ {vs : List V} {us : List Value}, Vals vs us → ∀ i : Nat, (vs[i]? = none ∧ us[i]? = none) ∨ ∃ v u, vs[i]? = some v ∧ us[i]? = some u ∧ RelV v u := by
      intro vs us h
      induction h with
      | nil => exact fun i => .inl ⟨rfl, rfl⟩
      | cons r h ih =>
        intro i
        cases i with
        | zero => exact .inr ⟨_, _, rfl, rfl, r⟩
        | succ i => exact ih i
    rcases key h i with ⟨e1, e2⟩ | ⟨v, u, e1, e2, r⟩
    · rw [List.filterMap_cons_none e1, List.filterMap_cons_none e2]
      exact ih
    · rw [List.filterMap_cons_some e1, List.filterMap_cons_some e2]
      exact .cons r ih
/-- a def as it stands behind the top, its keyword defaults kd -/
structure FunK (K : PySem.W.Frag) (x qual : Str) (st : Stmt) (kd : List (Str × V)) (f : Addr) (fd : FuncData) : Prop where
  fn : Fun K x qual st f fd
  ex : ∃ (kV doc pm : Value) (an : Option Addr) (cdv ct : Value), fd = PySem.W.fnOf x qual (defArgs st) (defBody st) (defScope st) .none kV doc pm an cdv ct ∧ KwdV K kV kd
/-- the parameters ps of a call with n values and the keywords ks, where those of ms lack -/
def Site (x qual : Str) (st : Stmt) (ps : List Str) (n : Nat) (ks : List Str) (ms : List (Str × V)) (is : List Nat) : Prop :=
  ∀ (kV : Value) (D : Addr) (doc pm : Value) (an : Option Addr) (cdv ct : Value) (us ws mv : List Value), us.length = n → ws.length = ks.length → mv.length = ms.length → (ms ≠ [] → kV = .ref D) →
    KwChain D ((ms.map (·.1)).zip mv) (bindArgs (PySem.W.fnOf x qual (defArgs st) (defBody st) (defScope st) .none kV doc pm an cdv ct) ⟨us, ks.zip ws⟩) (ps.zip (plc is (us ++ (ws ++ mv))))
theorem FunK.kb {K : PySem.W.Frag} {x qual : Str} {st : Stmt} {kd ms : List (Str × V)} {f : Addr} {fd : FuncData} {ps ks : List Str} {n : Nat} {is : List Nat} (F : FunK K x qual st kd f fd) (S : Site x qual st ps n ks ms is) (hms : ∀ q ∈ ms, q ∈ kd) :
    ∃ g, KBn K fd ps n ks g (fun vs zs => plc is (vs ++ (zs ++ ms.map (·.2)))) := by
  obtain ⟨kV, doc, pm, an, cdv, ct, rfl, hk⟩ := F.ex
  have key : ∃ (D : Addr) (mv : List Value), mv.length = ms.length ∧ Vals (ms.map (·.2)) mv ∧ (∀ q ∈ (ms.map (·.1)).zip mv, PySem.W.nsIn K D q.1 = some (some q.2)) ∧ (ms ≠ [] → kV = .ref D) := by
    by_cases hm : ms = []
    · subst hm
      exact ⟨0, [], rfl, .nil, fun q hq => absurd hq List.not_mem_nil, fun h => absurd rfl h⟩
    · rcases hk with e | ⟨D, e, hq⟩
      · exfalso
        obtain ⟨q, hq⟩ := List.exists_mem_of_ne_nil ms hm
        have := hms q hq
        rw [e] at this
        exact absurd this List.not_mem_nil
      · obtain ⟨mv, l1, v1, h1⟩ := kwd_vals (ms := ms) fun q h => hq q (hms q h)
        exact ⟨D, mv, l1, v1, h1, fun _ => e⟩
  obtain ⟨D, mv, l1, v1, h1, h2⟩ := key
  refine ⟨fun us ws => plc is (us ++ (ws ++ mv)), fun s us ws X l2 l3 => ?_, fun r1 r2 => plc_vals (r1.append (r2.append v1))⟩
  exact BindsTo.of_looks fun M => KwChain.looks X h1 (S kV D doc pm an cdv ct us ws mv l2 l3 l1 h2)
section
variable {K : PySem.W.Frag} {O : Wo} {Wx : WX} {X : Cx}
structure DK (K : PySem.W.Frag) (O : Wo) (Wx : WX) (X : Cx) (e : List Keyword) (t : TA) (m : MA O) : Prop where
  pe : PK X e t
  sn : SndA K O Wx t m
/-- a def that is called by its name, with keywords -/
structure FoK (P : Program) (w : World) (K : PySem.W.Frag) (mg : Str → Option Value) (base : Heap) (O : Wo) (k : Nat) (x : Str) (st : Stmt) (ps : List Str) (kd : List (Str × V)) (m : List D → O.S → R O.S D) : Prop where
  ex : ∃ f fd, FnOk P w K mg base (L2.CX P w) k f fd ps (spM K O ps.length m) ∧ mg x = some (.ref f) ∧ FunK K x x st kd f fd
end
section
variable {P : Program} {w : World} {K : PySem.W.Frag} {mg : Str → Option Value} {base : Heap} {O : Wo}
end
end Mr
namespace Mr
open PySem PySem.Spec PyProof.Rows L2 RZ
section
variable {K : PySem.W.Frag} {O : Wo} {Wx : WX} {X : Cx} {G : Gh} {H : Hp}
end
end Mr
namespace Mr
open PySem PySem.Spec PyProof.Rows L2 RZ
structure VT (K : PySem.W.Frag) (C : Addr) : Prop where
  cl : Cls K C
  ca : PySem.W.findIn K (.ref C) "__class__" = some (some (.builtin "object.__class__"))
  gs : PySem.W.specialIn K (.builtin "object.__class__") "__get__" = some (some (.builtin "getset_descriptor.__get__"))
  tk : PySem.W.takesIn K (.builtin "object.__class__") = some true
  mr : PySem.W.mroIn K C (.type "object") = some true
  same : PySem.W.kitOne K (.ref C) (.ref C) = some true
  tup : PySem.W.kitOne K (.type "tuple") (.ref C) = some false
  non : PySem.W.kitOne K (.type "NoneType") (.ref C) = some false
  nft : PySem.W.notFirst K C (.type "tuple") = true
  nfn : PySem.W.notFirst K C (.type "NoneType") = true
section
variable {K : PySem.W.Frag} {O : Wo} {Wx : WX} {X : Cx} {G : Gh} {H : Hp} {C : Addr}
end
end Mr
namespace Mr
open PySem PySem.Spec PyProof.Rows L2 RZ
section
variable {K : PySem.W.Frag} {O : Wo} {Wx : WX} {X : Cx} {G0 : Gh} {H0 : Hp} {G : Gh} {H : Hp} {G1 : Gh} {H1 : Hp} {σ : L2.St} {ρ : Ev} {s s1 : O.S}
end
end Mr
namespace Mr
open PySem PySem.Spec PyProof.Rows L2 RZ
section
variable {prog : Program} {w : World} {A : Around} {E : Value → Shared → Prop} {s : Shared}
theorem collect_tup {l : Addr} {vs : List Value} {Q : List Value → Shared → Prop} (hl : s.heap.IsTuple l vs.toArray)
    (h : Q vs { s with heap := (s.heap.push (seqObj "list" #[] 0)).update s.heap.objs.size (Obj.mapSeq (· ++ vs.toArray)) }) (hsz : vs.length ≤ sizeLine) :
    wpAny (model prog w) A (collect (.ref l)) Q E s := by
  obtain ⟨o, ho, hc, n, hd⟩ := id hl
  unfold collect
  refine wpAny_bind (wpAny_runValue (codeAny_builtin entry_proto_collect' ?_))
  show wpAny _ _ (do again (.builtin "list.__iadd__" ⟨[← newList [], .ref l], []⟩)) _ _ s
  refine wpAny_bind (wpAny_newList (wpAny_pure ⟨Code.quiet_builtin _ (by decide +kernel), codeAny_builtin entry_list_iadd' ?_⟩))
  show wpAny _ _ (Builtin.List.listExtendWith (.ref s.heap.objs.size) (.ref l) (.ref s.heap.objs.size)) _ _ { s with heap := s.heap.push (seqObj "list" #[] 0) }
  unfold Builtin.List.listExtendWith
  have ho' : (s.heap.push (seqObj "list" #[] 0)).get? l = some o := Heap.get?_push_of_some _ ho
  refine wpAny_bind (wpAny_typeOf (T := "tuple") ⟨o, ho', hc⟩ ?_)
  have ht : (Value.type "tuple" == Value.type "tuple") = true := by rfl
  rw [if_pos (by rw [ht]; simp)]
  refine wpAny_bind (listItems_at ho' hd ?_)
  refine wpAny_bind (listItems_at (xs := #[]) (n := 0) (Heap.get?_push_size _ rfl) rfl ?_)
  rw [if_neg (by simp)]
  refine wpAny_bind (listUpdate_at (xs := #[]) (n := 0) (Heap.get?_push_size _ rfl) rfl ?_ (Nat.zero_le _) (by show (#[] ++ vs.toArray).size ≤ sizeLine + 1; simp only [Array.size_append, List.size_toArray, List.length_nil]; omega))
  refine wpAny_pure ?_
  show wpAny (model prog w) A (do
      let o ← load s.heap.objs.size
      match o.data with
      | .seq xs _ => pure xs.toList
      | _ => unsupported "internal:collect") Q E { s with heap := (s.heap.push (seqObj "list" #[] 0)).update s.heap.objs.size (Obj.mapSeq (· ++ vs.toArray)) }
  refine wpAny_bind (wpAny_load (get?_update_seq (Heap.get?_push_size _ rfl) _) ?_)
  show wpAny _ _ (pure ((#[] : Array Value) ++ vs.toArray).toList) Q E _
  rw [show ((#[] : Array Value) ++ vs.toArray).toList = vs by simp]
  exact wpAny_pure h
open SrtO in
theorem sorted_ordT {l : Addr} {vs : List Value} {ltv : Value → Value → Bool} {Q : Value → Shared → Prop} (O : Swo ltv) (hl : s.heap.IsTuple l vs.toArray) (hz : vs.length ≤ sizeLine)
    (hS : 2 ≤ vs.length → ∀ (h₁ : Heap) (a : Addr), h₁.get? a = some (seqObj "list" vs.toArray 0) → (∀ b o, s.heap.get? b = some o → b ≠ a ∧ h₁.get? b = some o) → SortableO prog w A.in1.in1 { s with heap := h₁ } a vs ltv)
    (h : ∀ out : List Value, Srtd ltv out → Stb ltv out vs → Q (.ref (s.heap.objs.size + 1)) { s with heap := sortedAll s.heap vs out.toArray }) :
    wpAny (model prog w) A (call (.builtin "sorted") [.ref l]) Q E s := by
  refine Calls.call_function_entry kind_sorted plain_sorted entry_sorted (args_sorted1 _) ?_
  unfold Builtin.«sorted»
  refine wpAny_bind (m := checkCount "sorted" 1 1 _) (wpAny_pure ?_)
  refine wpAny_bind (collect_tup hl ?_ hz)
  refine wpAny_bind (wpAny_newList ?_ hz)
  have hsz : ((s.heap.push (seqObj "list" #[] 0)).update s.heap.objs.size (Obj.mapSeq (· ++ vs.toArray))).objs.size = s.heap.objs.size + 1 := by
    rw [Heap.size_update, size_push']
  have hoL : (((s.heap.push (seqObj "list" #[] 0)).update s.heap.objs.size (Obj.mapSeq (· ++ vs.toArray))).push (seqObj "list" vs.toArray 0)).get? (s.heap.objs.size + 1) = some (seqObj "list" vs.toArray 0) := by
    rw [← hsz]; exact Heap.get?_push_size _ rfl
  have keep : ∀ b o, s.heap.get? b = some o → b ≠ s.heap.objs.size + 1 ∧ (((s.heap.push (seqObj "list" #[] 0)).update s.heap.objs.size (Obj.mapSeq (· ++ vs.toArray))).push (seqObj "list" vs.toArray 0)).get? b = some o := fun b o q => by
    have hlt : b < s.heap.objs.size := Heap.lt_size q
    refine ⟨Nat.ne_of_lt (Nat.lt_succ_of_lt hlt), Heap.get?_push_of_some _ ?_⟩
    rw [Heap.get?_update_ne _ _ _ _ (Nat.ne_of_lt hlt)]
    exact Heap.get?_push_of_some _ q
  show wpAny _ _ _ _ _ { s with heap := ((s.heap.push (seqObj "list" #[] 0)).update s.heap.objs.size (Obj.mapSeq (· ++ vs.toArray))).push (seqObj "list" vs.toArray 0) }
  rw [hsz]
  refine wpAny_bind (wpAny_holding (wpAny_call_entry slot_list_sort ⟨_, hoL, rfl⟩ entry_list_sort (list_sort_ord O hoL hz (fun h2 => hS h2 _ _ hoL keep) fun out hs hb => ⟨_, rfl, ?_⟩) (args_list_sort _)))
  exact wpAny_pure ⟨_, rfl, h out hs hb⟩
end
section
variable {X : Cx}
end
def sortI (ns : List Int) : List Int := ns.mergeSort (fun a b => decide (a ≤ b))
theorem sortI_perm (ns : List Int) : (sortI ns).Perm ns := List.mergeSort_perm _ _
theorem sortI_rise (ns : List Int) : (sortI ns).Pairwise (· ≤ ·) := by
  have := List.pairwise_mergeSort (le := fun a b : Int => decide (a ≤ b)) (fun a b c h1 h2 => by simp only [decide_eq_true_eq] at h1 h2 ⊢; omega) (fun a b => by simp only [Bool.or_eq_true, decide_eq_true_eq]; omega) ns
  exact this.imp fun h => by simpa using h
section
variable {K : PySem.W.Frag} {O : Wo} {Wx : WX} {X : Cx} {G : Gh} {H : Hp}
theorem Reps.rep {G : Gh} {vs : List V} {ds : List D} (r : Reps K G vs ds) : ∀ n : Nat, Reps K G (List.replicate n vs).flatten (List.replicate n ds).flatten
  | 0 => by simp; exact .nil
  | n + 1 => by
    rw [List.replicate_succ, List.replicate_succ, List.flatten_cons, List.flatten_cons]
    exact r.append (Reps.rep r n)
def mRepN (O : Wo) (a : MA O) (b : ME O) : MA O := fun ρ s => (a ρ s).bind fun xs s1 => (b ρ s1).bind fun y s2 => match y with
  | .int k => if -100000 ≤ k ∧ k ≤ 100000 ∧ xs.length * k.toNat ≤ 100000 then .ok (List.replicate k.toNat xs).flatten s2 else .bad
  | _ => .bad
theorem dn_rep {a b : Expr} {ta tb : TE} {ma : MA O} {mb : ME O} {pos : Pos} (ha : DN K O Wx X a ta ma) (hb : DE K O Wx X b tb mb) : DN K O Wx X (.BinOp a .Mult b pos) (tOp rRep ta tb) (mRepN O ma mb) := by
  refine ⟨ha.hK, ha.tk, pe_op op_rep ha.pe hb.pe, fun σ ρ H0 G H s Q F h => ?_⟩
  refine ha.sn σ ρ H0 G H s _ F ?_
  unfold mRepN at h
  revert h
  cases ma ρ s with
  | err c fs s' => exact fun h => h
  | bad => exact fun h => h
  | ok xs s1 =>
    intro h p vs G1 H1 t1 k1 np gp hp rp
    have F1 := F.tr t1 k1
    rw [bind_ok] at h
    have nw : ¬ O.W p := nW_of F.ok np
    refine hb.sn σ ρ H0 G1 H1 s1 _ F1 ?_
    revert h
    cases mb ρ s1 with
    | err c fs s' => exact fun h dd ys G' H' t k e n r => h dd ys G' H' (t1.trans t) k e n r
    | bad => exact fun h => h
    | ok y s2 =>
      intro h v G2 H2 t2 k2 r2
      rw [bind_ok] at h
      split at h
      · rename_i k
        cases r2
        split at h
        · rename_i hz
          have F2 := F1.tr t2 k2
          exact ⟨p, k, vs, rfl, rfl, (kept_at nw t2 gp hp).2, by omega, by omega, by rw [rp.length]; exact sz5 hz.2.2, fun q nq => newL (t1.trans t2) k2 F2.gh h ((rp.mono t2.gg).rep _) nq⟩
        · exact h.elim
      · exact h.elim
end
end Mr
namespace Mr
open PySem PySem.Spec PyProof.Rows L2 RZ
abbrev IsZipG (h : Heap) (z TI TO : Addr) (f0 : Value) (f1 : Bool) : Prop :=
  h.get? z = some { cls := .type "zip", dict := none, data := .fields #[f0, .bool f1, .bool false, .ref TI, .ref TO], slots := #[] }
section
variable {prog : Program} {w : World} {A : Around} {E : Value → Shared → Prop} {s : Shared}
/-- what was handed out last -/
inductive F0 : Value → Prop
  | none : F0 .none
  | at (a : Nat) : F0 (rawInt (a : Int))
end
end Mr
namespace Mr
open PySem PySem.Spec PyProof.Rows L2 RZ
section
variable {X : Cx} {pins : List (Addr × Obj)} {σ : L2.St} {H : Hp} {s : Shared} {h' : Heap}
end
section
variable {prog : Program} {w : World} {A : Around} {E : Value → Shared → Prop} {s : Shared}
/-- the zip below the enumerate -/
structure ZSt (h : Heap) (z TI TO : Addr) (src : List Sr) (i : Nat) : Prop where
  hz : ∃ f0 f1, IsZipG h z TI TO f0 f1 ∧ F0 f0
  hTI : h.get? TI = some (tupO (src.map fun r => Value.ref r.it).toArray)
  hTO : ∃ kept, kept.size = src.length ∧ h.get? TO = some (tupO kept)
  its : ∀ r ∈ src, It01 r.k h r.it r.l i
theorem ZSt.keep {h h' : Heap} {z TI TO : Addr} {src : List Sr} {i : Nat} (q : ZSt h z TI TO src i) (k : ∀ c ∈ zFp z TI TO src, ∀ o, h.get? c = some o → h'.get? c = some o) : ZSt h' z TI TO src i := by
  obtain ⟨⟨f0, f1, hz, hf⟩, hTI, ⟨kept, hk, hTO⟩, hi⟩ := q
  exact ⟨⟨f0, f1, k z (by simp [zFp]) _ hz, hf⟩, k TI (by simp [zFp]) _ hTI, ⟨kept, hk, k TO (by simp [zFp]) _ hTO⟩, fun r hr => (hi r hr).at fun o q => k r.it (by unfold zFp; exact List.mem_cons_of_mem _ (List.mem_cons_of_mem _ (List.mem_cons_of_mem _ (List.mem_map_of_mem hr)))) o q⟩
end
section
variable {prog : Program} {w : World} {A : Around} {E : Value → Shared → Prop} {s : Shared}
end
section
variable {K : PySem.W.Frag} {O : Wo} {Wx : WX} {X : Cx} {G : Gh} {H : Hp}
end
end Mr
namespace Mr
open PySem PySem.Spec PyProof.Rows L2 RZ
section
variable {K : PySem.W.Frag} {O : Wo} {Wx : WX} {X : Cx} {G : Gh} {H : Hp}
end
section
variable {K : PySem.W.Frag} {O : Wo} {Wx : WX} {X : Cx} {G0 : Gh} {H0 : Hp} {G : Gh} {H : Hp} {G1 : Gh} {H1 : Hp} {σ : L2.St} {ρ : Ev} {s s1 : O.S}
end
end Mr
namespace Mr
open PySem PySem.Spec PyProof.Rows L2 RZ
section
variable {K : PySem.W.Frag} {O : Wo} {Wx : WX} {X : Cx} {G0 : Gh} {H0 : Hp} {G : Gh} {H : Hp} {G1 : Gh} {H1 : Hp} {σ : L2.St} {ρ : Ev} {s s1 : O.S}
end
end Mr
namespace Mr
open PySem PySem.Spec PyProof.Rows L2 RZ
section
variable {M : Model} {prog : Program} {w : World} {A : Around} {E : Value → Shared → Prop} {s : Shared} {K : PySem.W.Frag} {x C f : Addr} {ox : Obj} {od : Option Obj} {b : Value}
end
section
variable {K : PySem.W.Frag} {O : Wo} {Wx : WX} {X : Cx} {G : Gh} {H : Hp} {C : Addr}
end
end Mr
namespace Mr
open PySem PySem.Spec PyProof.Rows L2 RZ
section
variable {K : PySem.W.Frag} {O : Wo} {Wx : WX} {X : Cx} {G : Gh} {H : Hp}
end
end Mr
namespace Mr
open PySem PySem.Spec PyProof.Rows L2 RZ
section
variable {K : PySem.W.Frag} {O : Wo} {Wx : WX} {X : Cx} {G0 : Gh} {H0 : Hp} {G : Gh} {H : Hp} {G1 : Gh} {H1 : Hp} {σ : L2.St} {ρ : Ev} {s s1 : O.S} {l : List Ob}
theorem StOk.get (q : StOk K G H l) {v : V} {n : Nat} {ob : Ob} (r : Rep K G v (.obj n)) (e : l[n]? = some ob) : ∃ a, v = .ref a ∧ Mkd G a n ob ∧ ObOk K G H a ob := by
  cases r with
  | @obj b _ h =>
    obtain ⟨a, h1, h2⟩ := q.at_ n ob e
    have := q.inj _ _ n h h1.mk
    subst this
    exact ⟨_, rfl, h1, h2⟩
def sqS (l : List Ob) : D → Option (Bool × List D)
  | .lst xs => some (true, xs)
  | .tup xs => some (false, xs)
  | .obj n => match l[n]? with
    | some (.lst xs) => some (true, xs)
    | _ => none
  | _ => none
theorem sqS_ok (q : StOk K G H l) (g : Sh G H) {v : V} {d : D} {k : Bool} {xs : List D} (r : Rep K G v d) (e : sqS l d = some (k, xs)) : ∃ a vs, v = .ref a ∧ SqX K H k a vs ∧ Reps K G vs xs := by
  cases r with
  | lst hs r => cases e; exact ⟨_, _, rfl, g.seq hs, r⟩
  | tup hs r => cases e; exact ⟨_, _, rfl, g.seqT hs, r⟩
  | @obj a n h =>
    unfold sqS at e
    dsimp only at e
    split at e
    · rename_i xs' e1
      cases e
      obtain ⟨b, e2, h2, vs, e3, r⟩ := q.get (.obj h) e1
      cases e2
      exact ⟨_, vs, rfl, .inl (.inl e3), r⟩
    · cases e
  | _ => cases e
def dcS (l : List Ob) : D → Option (List (Key × D))
  | .dct kvs => some kvs
  | .obj n => match l[n]? with
    | some (.dct xs) => some xs
    | some (.dlk xs) => some xs
    | _ => none
  | _ => none
theorem dcS_ok (q : StOk K G H l) (g : Sh G H) {v : V} {d : D} {xs : List (Key × D)} (r : Rep K G v d) (e : dcS l d = some xs) : ∃ a vs, v = .ref a ∧ Rd H a (.dK vs) ∧ RepK K G vs xs := by
  cases r with
  | dct hs r => cases e; exact ⟨_, _, rfl, .inr ⟨_, g _ _ hs⟩, r⟩
  | @obj a n h =>
    unfold dcS at e
    dsimp only at e
    split at e
    · rename_i xs' e1
      cases e
      obtain ⟨b, e2, h2, vs, e3, r⟩ := q.get (.obj h) e1
      cases e2
      exact ⟨_, vs, rfl, .inl e3, r⟩
    · rename_i xs' e1
      cases e
      obtain ⟨b, e2, h2, od, vs, e3, r⟩ := q.get (.obj h) e1
      cases e2
      exact ⟨_, vs, rfl, .inr ⟨od, e3⟩, r⟩
    · cases e
  | _ => cases e
def inS (l : List Ob) : D → Option (Addr × List (Str × D))
  | .ins C fs => some (C, fs)
  | .obj n => match l[n]? with
    | some (.ins C fs) => some (C, fs)
    | _ => none
  | _ => none
mutual
def thawN : Nat → List Ob → D → Option D
  | 0, _, _ => none
  | n + 1, l, .lst xs => (thawL n l xs).map .lst
  | n + 1, l, .tup xs => (thawL n l xs).map .tup
  | _ + 1, _, .dct _ => none
  | n + 1, l, .ins C xs => (thawF n l xs).map (.ins C)
  | n + 1, l, .obj m => match l[m]? with
    | some (.lst xs) => (thawL n l xs).map .lst
    | some (.ins C xs) => (thawF n l xs).map (.ins C)
    | _ => none
  | _ + 1, _, d => some d
def thawL : Nat → List Ob → List D → Option (List D)
  | 0, _, _ => none
  | _ + 1, _, [] => some []
  | n + 1, l, d :: ds => (thawN (n + 1) l d).bind fun x => (thawL (n + 1) l ds).map fun xs => x :: xs
def thawF : Nat → List Ob → List (Str × D) → Option (List (Str × D))
  | 0, _, _ => none
  | _ + 1, _, [] => some []
  | n + 1, l, (k, d) :: ds => (thawN (n + 1) l d).bind fun x => (thawF (n + 1) l ds).map fun xs => (k, x) :: xs
end
end
section
variable {K : PySem.W.Frag} {O : Wo} {Wx : WX} {X : Cx} {G : Gh} {H : Hp} {G1 : Gh} {H1 : Hp} {σ : L2.St} {ρ : Ev} {s s1 : O.S} {l : List Ob}
theorem gf_sq {k : Bool} {a : Addr} {vs : List V} (h : SqX K H k a vs) : SqX K (fr (gf H)) k a vs := by rw [fr_gf]; exact h
theorem gf_sqC {a : Addr} {vs : List V} (h : SqC K H a vs) : SqC K (fr (gf H)) a vs := by rw [fr_gf]; exact h
theorem SqX.L {a : Addr} {vs : List V} (h : SqX K H true a vs) : SqL K H a vs := h
theorem SqX.T {a : Addr} {vs : List V} (h : SqX K H false a vs) : SqT K H a vs := h
theorem thawL_ok {n : Nat} (h : ∀ {v : V} {d d' : D}, Rep K G v d → thawN (n + 1) l d = some d' → Rep K (gf H) v d') : ∀ {vs : List V} {ds ds' : List D}, Reps K G vs ds → thawL (n + 1) l ds = some ds' → Reps K (gf H) vs ds'
  | _, _, _, .nil, e => by
    simp only [thawL, Option.some.injEq] at e
    subst e
    exact .nil
  | _, _, _, .cons r rs, e => by
    simp only [thawL, Option.bind_eq_some_iff, Option.map_eq_some_iff] at e
    obtain ⟨x, e1, xs, e2, rfl⟩ := e
    exact .cons (h r e1) (thawL_ok h rs e2)
theorem thawF_ok {n : Nat} (h : ∀ {v : V} {d d' : D}, Rep K G v d → thawN (n + 1) l d = some d' → Rep K (gf H) v d') : ∀ {vs : List (Str × V)} {ds ds' : List (Str × D)}, RepF K G vs ds → thawF (n + 1) l ds = some ds' → RepF K (gf H) vs ds'
  | _, _, _, .nil, e => by
    simp only [thawF, Option.some.injEq] at e
    subst e
    exact .nil
  | _, _, _, .cons r rs, e => by
    simp only [thawF, Option.bind_eq_some_iff, Option.map_eq_some_iff] at e
    obtain ⟨x, e1, xs, e2, rfl⟩ := e
    exact .cons (h r e1) (thawF_ok h rs e2)
theorem thaw_ok (q : StOk K G H l) (g : Sh G H) : ∀ {n : Nat} {v : V} {d d' : D}, Rep K G v d → thawN n l d = some d' → Rep K (gf H) v d'
  | 0, _, _, _, _, e => by simp [thawN] at e
  | 1, _, d, d', r, e => by
    cases r with
    | lst h r => simp [thawN, thawL] at e
    | tup h r => simp [thawN, thawL] at e
    | dct h r => simp [thawN] at e
    | ins h r => simp [thawN, thawF] at e
    | @obj a m h =>
      simp only [thawN] at e
      split at e <;> simp [thawL, thawF] at e
    | non => simp only [thawN, Option.some.injEq] at e; subst e; exact .non
    | bl b => simp only [thawN, Option.some.injEq] at e; subst e; exact .bl b
    | int i => simp only [thawN, Option.some.injEq] at e; subst e; exact .int i
    | str x => simp only [thawN, Option.some.injEq] at e; subst e; exact .str x
    | ref a => simp only [thawN, Option.some.injEq] at e; subst e; exact .ref a
    | ty a => simp only [thawN, Option.some.injEq] at e; subst e; exact .ty a
  | n + 2, _, d, d', r, e => by
    have ih : ∀ {v : V} {d d' : D}, Rep K G v d → thawN (n + 1) l d = some d' → Rep K (gf H) v d' := fun r e => thaw_ok q g r e
    cases r with
    | lst h r =>
      simp only [thawN, Option.map_eq_some_iff] at e
      obtain ⟨xs, e1, rfl⟩ := e
      exact .lst (gf_sq (k := true) (g.seq h)) (thawL_ok ih r e1)
    | tup h r =>
      simp only [thawN, Option.map_eq_some_iff] at e
      obtain ⟨xs, e1, rfl⟩ := e
      exact .tup (gf_sqC (g.seqC h)) (thawL_ok ih r e1)
    | dct h r => simp [thawN] at e
    | ins h r =>
      simp only [thawN, Option.map_eq_some_iff] at e
      obtain ⟨xs, e1, rfl⟩ := e
      exact .ins (gf_some.mpr (g _ _ h)) (thawF_ok ih r e1)
    | @obj a m h =>
      simp only [thawN] at e
      split at e
      · rename_i xs e1
        simp only [Option.map_eq_some_iff] at e
        obtain ⟨ys, e2, rfl⟩ := e
        obtain ⟨b, e3, h2, vs, e4, r⟩ := q.get (.obj h) e1
        cases e3
        exact .lst (gf_sq (k := true) (.inl (.inl e4))) (thawL_ok ih r e2)
      · rename_i C xs e1
        simp only [Option.map_eq_some_iff] at e
        obtain ⟨ys, e2, rfl⟩ := e
        obtain ⟨b, e3, h2, dx, vs, e4, r⟩ := q.get (.obj h) e1
        cases e3
        exact .ins (gf_some.mpr e4) (thawF_ok ih r e2)
      · cases e
    | non => simp only [thawN, Option.some.injEq] at e; subst e; exact .non
    | bl b => simp only [thawN, Option.some.injEq] at e; subst e; exact .bl b
    | int i => simp only [thawN, Option.some.injEq] at e; subst e; exact .int i
    | str x => simp only [thawN, Option.some.injEq] at e; subst e; exact .str x
    | ref a => simp only [thawN, Option.some.injEq] at e; subst e; exact .ref a
    | ty a => simp only [thawN, Option.some.injEq] at e; subst e; exact .ty a
def thaw (l : List Ob) (d : D) : Option D := thawN 24 l d
def thaws (l : List Ob) (d : List D) : Option (List D) := thawL 24 l d
def scalS : D → Option D
  | .non => some .non
  | .bl b => some (.bl b)
  | .int i => some (.int i)
  | .str x => some (.str x)
  | _ => none
theorem Rep.scS {G G' : Gh} {v : V} {d d' : D} (r : Rep K G v d) (h : scalS d = some d') : d' = d ∧ Rep K G' v d := by
  cases r <;> cases h <;> exact ⟨rfl, by constructor⟩
def VOpS (K : PySem.W.Frag) (r : R2) (f : List Ob → D → D → Option D) : Prop := ∀ (l : List Ob) (G : Gh) (H : Hp) (x y : V) (dx dy d : D) (Q : VK), StOk K G H l → Sh G H → Rep K G x dx → Rep K G y dy → f l dx dy = some d → (∀ v G' H', Tr0 G H G' H' → Rep K G' v d → Q v H') → r x y H Q
def VClS (K : PySem.W.Frag) (r : List V → Hp → VK → Prop) (f : List Ob → List D → Option D) : Prop := ∀ (l : List Ob) (G : Gh) (H : Hp) (x : List V) (dx : List D) (d : D) (Q : VK), StOk K G H l → Sh G H → Reps K G x dx → f l dx = some d → (∀ v G' H', Tr0 G H G' H' → Rep K G' v d → Q v H') → r x H Q
theorem Tr0.fromGf {G' : Gh} {H' : Hp} (g : Sh G H) (t : Tr0 (gf H) H G' H') : Tr0 G H G H' := ⟨Sx.refl _, sh_mono g t.kp, fun _ e => .inl e, t.kp, t.dm, fun _ _ e => e⟩
def liftO (f : D → D → Option D) (l : List Ob) (x y : D) : Option D := (thaw l x).bind fun x => (thaw l y).bind fun y => (f x y).bind scalS
def liftC (f : List D → Option D) (l : List Ob) (x : List D) : Option D := (thaws l x).bind fun x => (f x).bind scalS
theorem VOp.liftS {r : R2} {f : D → D → Option D} (h : VOp K r f) : VOpS K r (liftO f) := by
  intro l G H x y dx dy d Q q g rx ry e k
  simp only [liftO, Option.bind_eq_some_iff] at e
  obtain ⟨x', e1, y', e2, d', e3, e4⟩ := e
  refine h (gf H) H x y x' y' d' Q (gf_sh (Same.refl _)) (thaw_ok q g rx e1) (thaw_ok q g ry e2) e3 fun v G' H' t r' => ?_
  obtain ⟨rfl, r2⟩ := r'.scS (G' := G) e4
  exact k v G H' (t.fromGf g) r2
theorem VCl.liftS {r : List V → Hp → VK → Prop} {f : List D → Option D} (h : VCl K r f) : VClS K r (liftC f) := by
  intro l G H x dx d Q q g rx e k
  simp only [liftC, Option.bind_eq_some_iff] at e
  obtain ⟨x', e1, d', e3, e4⟩ := e
  refine h (gf H) H x x' d' Q (gf_sh (Same.refl _)) (thawL_ok (fun r e => thaw_ok q g r e) rx e1) e3 fun v G' H' t r' => ?_
  obtain ⟨rfl, r2⟩ := r'.scS (G' := G) e4
  exact k v G H' (t.fromGf g) r2
def mBinS (O : Wo) (f : List Ob → D → D → Option D) (a b : ME O) : ME O := fun ρ s => (a ρ s).bind fun x s1 => (b ρ s1).bind fun y s2 => R.lift (f (O.st s2) x y) s2
def mClS (O : Wo) (f : List Ob → List D → Option D) (a : MA O) : ME O := fun ρ s => (a ρ s).bind fun x s1 => R.lift (f (O.st s1) x) s1
theorem Fm.sto {H0 : Hp} (F : Fm K O H0 σ ρ G H s) : StOk K G H (O.st s) := O.sto K s G H F.ok
theorem snd_opS {r : R2} {f : List Ob → D → D → Option D} {ta tb : TE} {ma mb : ME O} (hv : VOpS K r f) (ha : SndE K O Wx ta ma) (hb : SndE K O Wx tb mb) : SndE K O Wx (tOp r ta tb) (mBinS O f ma mb) := by
  intro σ ρ H0 G H s Q F h
  refine ha σ ρ H0 G H s _ F (pst_bind h fun dx s1 _ x G1 H1 t1 k1 r1 h1 => ?_)
  have F1 := F.tr t1 k1
  refine hb σ ρ H0 G1 H1 s1 _ F1 (pst_bind h1 fun dy s2 _ y G2 H2 t2 k2 r2 h2 => ?_)
  have F2 := F1.tr t2 k2
  obtain ⟨d, e, q⟩ := pst_lift F2 h2
  exact hv _ G2 H2 x y dx dy d Q F2.sto F2.gh (r1.mono t2.gg) r2 e q
theorem snd_clS {r : List V → Hp → VK → Prop} {f : List Ob → List D → Option D} {ta : TA} {ma : MA O} (hv : VClS K r f) (ha : SndA K O Wx ta ma) : SndE K O Wx (tCB r ta) (mClS O f ma) := by
  intro σ ρ H0 G H s Q F h
  refine ha σ ρ H0 G H s _ F (pst_bind h fun dx s1 _ x G1 H1 t1 k1 r1 h1 => ?_)
  have F1 := F.tr t1 k1
  obtain ⟨d, e, q⟩ := pst_lift F1 h1
  exact hv _ G1 H1 x dx d Q F1.sto F1.gh r1 e q
theorem de_cmpS {op : CmpOp} {r : R2} {f : List Ob → D → D → Option D} {a b : Expr} {ta tb : TE} {ma mb : ME O} {pos : Pos} (ho : OpR X (compareOp op) r) (hv : VOpS K r f) (ha : DE K O Wx X a ta ma) (hb : DE K O Wx X b tb mb) (hm : behindInMarks op b = false) :
    DE K O Wx X (.Compare a [op] [b] pos) (tOp r ta tb) (mBinS O f ma mb) := ⟨ha.hK, ha.tk, pe_cmpR ho ha.pe hb.pe hm, snd_opS hv ha.sn hb.sn⟩
theorem dt_cmpS {op : CmpOp} {r : R2} {f : List Ob → D → D → Option D} {a b : Expr} {ta tb : TE} {ma mb : ME O} {pos : Pos} (ho : OpR X (compareOp op) r) (hv : VOpS K r f) (ha : DE K O Wx X a ta ma) (hb : DE K O Wx X b tb mb) (hm : behindInMarks op b = false) :
    DT K O Wx X (.Compare a [op] [b] pos) (tTest (tOp r ta tb)) (mTest O (mBinS O f ma mb)) := ⟨ha.hK, ha.tk, pt_cmpR ho ha.pe hb.pe hm, snd_test (snd_opS hv ha.sn hb.sn)⟩
theorem de_callBS {id : String} {x : Str} {r : List V → Hp → VK → Prop} {f : List Ob → List D → Option D} {e : Expr} {es : List Expr} {ta : TA} {ma : MA O} {p pos : Pos} (hc : CallR X (.builtin id) r) (hv : VClS K r f) (hm : X.mg x = none) (hb : bootBuiltins x = some (.builtin id)) (ha : DA K O Wx X (e :: es) ta ma)
    (hg : Gl X x := by rfl) (hn : x ≠ "__name__" := by decide) (hdb : (x == ("__debug__" : Str)) = false := by decide) (he : starEach (e :: es) X.env = (false, eval e X.env) :: starEach es X.env := by rfl) (hpl : (backTo pos (starEach es X.env)).any (·.1) = false := by rfl) :
    DE K O Wx X (.Call (.Name x p) (e :: es) [] pos) (tCB r ta) (mClS O f ma) := ⟨ha.hK, ha.tk, pe_callB hc hg hm hb ha.pe hn hdb he hpl, snd_clS hv ha.sn⟩
theorem pe_alt {e : Expr} {t u : TE} (h1 : PE X e t) (h2 : PE X e u) : PE X e (fun σ H Q => t σ H Q ∨ u σ H Q) := ⟨fun pins s σ H Q I h => h.elim (fun h => h1.run pins s σ H Q I h) (fun h => h2.run pins s σ H Q I h)⟩
theorem call_alt {f : Value} {r u : List V → Hp → VK → Prop} (h1 : CallR X f r) (h2 : CallR X f u) : CallR X f (fun xs H Q => r xs H Q ∨ u xs H Q) := by
  intro pins s σ H xs us Q I r h
  exact h.elim (fun h => h1 pins s σ H xs us Q I r h) (fun h => h2 pins s σ H xs us Q I r h)
end
end Mr
namespace Mr
open PySem PySem.Spec PyProof.Rows L2 RZ
section
variable {K : PySem.W.Frag} {O : Wo} {Wx : WX} {X : Cx} {G0 : Gh} {H0 : Hp} {G : Gh} {H : Hp} {G' : Gh} {H' : Hp} {G1 : Gh} {H1 : Hp} {σ : L2.St} {ρ : Ev} {s s1 : O.S} {l : List Ob}
theorem notW_mk (F : Fm K O H0 σ ρ G H s) {a : Addr} {n : Nat} (h : Mkk G a n) : ¬ O.W a := fun w => h.none (F.wg a w)
theorem StOk.set (q : StOk K G H l) {a : Addr} {n : Nat} {o : HO} {ob : Ob} (h : Mkd G a n ob) (hb : ObOk K G (upd H a o) a ob) : StOk K G (upd H a o) (l.set n ob) where
  at_ := fun m o' e => by
    by_cases hm : n = m
    · subst hm
      have hl : n < l.length := q.lt a n h.mk
      rw [List.getElem?_set_self hl] at e
      cases e
      exact ⟨a, h, hb⟩
    · rw [List.getElem?_set_ne hm] at e
      obtain ⟨b, h1, h2⟩ := q.at_ m o' e
      have hne : b ≠ a := fun z => by
        subst z
        have k1 := h.mk
        have k2 := h1.mk
        rcases k1 with k1 | ⟨u, k1⟩ <;> rcases k2 with k2 | ⟨u', k2⟩ <;> (rw [k1] at k2; cases k2) <;> exact hm rfl
      exact ⟨b, h1, h2.loc (Sm.refl _) (upd_ne hne)⟩
  lt := fun b m e => by rw [List.length_set]; exact q.lt b m e
  inj := q.inj
theorem Fm.stw (F : Fm K O H0 σ ρ G H s) {a : Addr} {n : Nat} {o : HO} {ob : Ob} (h : G a = some (.mk n)) (hn : ∀ u v, H a ≠ some (.frz u v)) (hs : isSt o = true) (hb : ObOk K G (upd H a o) a ob) (hd : Mkd G a n ob) :
    Tr O.W G H G (upd H a o) ∧ O.ok K (O.wi s ((O.st s).set n ob)) G (upd H a o) := by
  refine ⟨⟨Sm.refl _, fun b g e => ?_, fun b e => .inl e, fun b u w m e => ?_, fun b e => ?_, fun b u v e => ?_⟩, O.stu K s G H G _ _ F.ok (fun w hw => ?_) (F.sto.set hd hb)⟩
  · cases g with
    | fro u => exact (F.gh b _ e).cong (upd_ne (fun z => by subst z; rw [h] at e; cases e))
    | mk k =>
      by_cases hb : b = a
      · subst hb; exact ⟨o, upd_same, hs⟩
      · obtain ⟨u, h1, h2⟩ := F.gh b _ e
        exact ⟨u, (upd_ne hb).trans h1, h2⟩
    | mkf k u => exact (F.gh b _ e).cong (upd_ne (fun z => by subst z; rw [h] at e; cases e))
  · rw [upd_ne (fun z => by subst z; exact m n h)]; exact e
  · by_cases hb : b = a
    · subst hb; rw [upd_same] at e; cases e
    · rw [upd_ne hb] at e; exact e
  · rw [upd_ne (fun z => by subst z; exact hn u v e)]; exact e
  · exact upd_ne (fun z => by subst z; exact notW_mk F (.inl h) hw)
def mkG (G : Gh) (p : Addr) (n : Nat) : Gh := fun b => if b = p then some (.mk n) else G b
theorem mkG_same {p : Addr} {n : Nat} : mkG G p n p = some (.mk n) := by unfold mkG; rw [if_pos rfl]
theorem mkG_ne {p b : Addr} {n : Nat} (h : b ≠ p) : mkG G p n b = G b := by unfold mkG; rw [if_neg h]
theorem Sx.mkG {p : Addr} {n : Nat} (g : G p = none) : Sx G (Mr.mkG G p n) := fun b u e => by rw [mkG_ne (gne_of_none e g)]; exact e
theorem Sm.mkG {p : Addr} {n : Nat} (g : G p = none) : Sm G (Mr.mkG G p n) := (Sx.mkG g).m
theorem sh_mkG {p : Addr} {n : Nat} {o : HO} (g : Sh G H) (h : H p = some o) (hs : isSt o = true) : Sh (Mr.mkG G p n) H := fun b u e => by
  by_cases hb : b = p
  · subst hb; rw [mkG_same] at e; cases e; exact ⟨o, h, hs⟩
  · rw [mkG_ne hb] at e; exact g b u e
theorem Tr.mark {W : Addr → Prop} {p : Addr} {n : Nat} {o : HO} (t : Tr W G H G' H') (np : H p = none) (g : G' p = none) (h : H' p = some o) (hs : isSt o = true) : Tr W G H (Mr.mkG G' p n) H' := by
  refine ⟨t.gg.trans (Sm.mkG g), sh_mkG t.gh h hs, fun b e => ?_, t.kp, t.dm, t.fz⟩
  by_cases hb : b = p
  · subst hb; exact .inr np
  · rw [mkG_ne hb] at e; exact t.gr b e
theorem mk_mkG {p b : Addr} {n m : Nat} (h : Mkk (mkG G p n) b m) : (b = p ∧ m = n) ∨ (b ≠ p ∧ Mkk G b m) := by
  by_cases hb : b = p
  · subst hb
    rcases h with h | ⟨u, h⟩ <;> (rw [mkG_same] at h; cases h)
    exact .inl ⟨rfl, rfl⟩
  · refine .inr ⟨hb, ?_⟩
    rcases h with h | ⟨u, h⟩
    · rw [mkG_ne hb] at h; exact .inl h
    · rw [mkG_ne hb] at h; exact .inr ⟨u, h⟩
theorem StOk.new (q : StOk K G H l) {p : Addr} {ob : Ob} (g : G p = none) (hb : ObOk K (mkG G p l.length) H p ob) (hd : Mkd (mkG G p l.length) p l.length ob) : StOk K (mkG G p l.length) H (l ++ [ob]) where
  at_ := fun m o e => by
    by_cases hm : m < l.length
    · rw [List.getElem?_append_left hm] at e
      obtain ⟨b, h1, h2⟩ := q.at_ m o e
      exact ⟨b, h1.mono (Sx.mkG g), h2.loc (Sm.mkG g) rfl⟩
    · rw [List.getElem?_append_right (by omega)] at e
      have hl : m = l.length := by
        have := (List.getElem?_eq_some_iff.mp e).1
        simp at this
        omega
      subst hl
      simp at e
      subst e
      exact ⟨p, hd, hb⟩
  lt := fun b m e => by
    rw [List.length_append]
    rcases mk_mkG e with ⟨_, rfl⟩ | ⟨_, e⟩
    · simp
    · have := q.lt b m e
      simp
      omega
  inj := fun a b m e1 e2 => by
    rcases mk_mkG e1 with ⟨rfl, rfl⟩ | ⟨_, e1⟩
    · rcases mk_mkG e2 with ⟨h, _⟩ | ⟨_, e2⟩
      · exact h.symm
      · exact absurd (q.lt b _ e2) (Nat.lt_irrefl _)
    · rcases mk_mkG e2 with ⟨_, rfl⟩ | ⟨_, e2⟩
      · exact absurd (q.lt a _ e1) (Nat.lt_irrefl _)
      · exact q.inj a b m e1 e2
theorem ok_mark {p : Addr} {ob : Ob} (k : O.ok K s G H) (g : G p = none) (hb : ObOk K (mkG G p (O.st s).length) H p ob) (hd : Mkd (mkG G p (O.st s).length) p (O.st s).length ob := by exact mkG_same) : O.ok K (O.wi s (O.st s ++ [ob])) (mkG G p (O.st s).length) H :=
  O.stu K s G H _ H _ k (fun _ _ => rfl) ((O.sto K s G H k).new g hb hd)
/-- a new list of the store -/
def mObjL (O : Wo) (m : MA O) : ME O := fun ρ s => (m ρ s).bind fun xs s1 => .ok (.obj (O.st s1).length) (O.wi s1 (O.st s1 ++ [.lst xs]))
theorem DN.obj {e : Expr} {t : TE} {m : MA O} (h : DN K O Wx X e t m) : DE K O Wx X e t (mObjL O m) := by
  refine ⟨h.hK, h.tk, h.pe, fun σ ρ H0 G H s Q F q => ?_⟩
  refine h.sn σ ρ H0 G H s Q F ?_
  unfold mObjL at q
  revert q
  cases m ρ s with
  | ok ds s1 =>
    exact fun q p vs G' H' t k n g e r => q (.ref p) (mkG G' p (O.st s1).length) H' (t.mark n g e rfl) (ok_mark k g ⟨vs, e, r.mono (Sm.mkG g)⟩) (.obj (.inl mkG_same))
  | err c fs s1 => exact fun q => q
  | bad => exact fun q => q
/-- an expression whose value is a new dict, that nobody else holds -/
def PstM (K : PySem.W.Frag) (O : Wo) (Wx : WX) (σ : L2.St) (G : Gh) (H : Hp) (r : R O.S (List (Key × D))) (Q : VK) : Prop :=
  match r with
  | .ok ds s' => ∀ p vs G' H', Tr O.W G H G' H' → O.ok K s' G' H' → H p = none → G' p = none → H' p = some (.dK vs) → RepK K G' vs ds → Q (.ref p) H'
  | .err c fs s' => ∀ dd xs G' H', Tr O.W G H G' H' → O.ok K s' G' H' → XdA H' dd xs → NwA O dd → RepF K G' xs fs → Wx (.ref c) dd σ H'
  | .bad => False
abbrev MM (O : Wo) := Ev → O.S → R O.S (List (Key × D))
def SndM (K : PySem.W.Frag) (O : Wo) (Wx : WX) (t : TE) (m : MM O) : Prop := ∀ σ ρ H0 G H s Q, Fm K O H0 σ ρ G H s → PstM K O Wx σ G H (m ρ s) Q → t σ H Q
structure DM (K : PySem.W.Frag) (O : Wo) (Wx : WX) (X : Cx) (e : Expr) (t : TE) (m : MM O) : Prop where
  hK : X.K = K
  tk : Takes X Wx
  pe : PE X e t
  sn : SndM K O Wx t m
def mObjD (O : Wo) (m : MM O) : ME O := fun ρ s => (m ρ s).bind fun xs s1 => .ok (.obj (O.st s1).length) (O.wi s1 (O.st s1 ++ [.dct xs]))
theorem DM.obj {e : Expr} {t : TE} {m : MM O} (h : DM K O Wx X e t m) : DE K O Wx X e t (mObjD O m) := by
  refine ⟨h.hK, h.tk, h.pe, fun σ ρ H0 G H s Q F q => ?_⟩
  refine h.sn σ ρ H0 G H s Q F ?_
  unfold mObjD at q
  revert q
  cases m ρ s with
  | ok ds s1 =>
    exact fun q p vs G' H' t k n g e r => q (.ref p) (mkG G' p (O.st s1).length) H' (t.mark n g e rfl) (ok_mark k g ⟨vs, e, r.mono (Sm.mkG g)⟩) (.obj (.inl mkG_same))
  | err c fs s1 => exact fun q => q
  | bad => exact fun q => q
def mDct (O : Wo) (m : MM O) : ME O := fun ρ s => (m ρ s).bind fun xs s1 => .ok (.dct xs) s1
/-- the new dict is locked for good -/
def tFzE (t : TE) : TE := fun σ H Q => t σ H fun v H1 => ∃ d kvs, v = .ref d ∧ H1 d = some (.dK kvs) ∧ ∀ od, Q v (upd H1 d (.frz od (.dK kvs)))
theorem pe_fz {e : Expr} {t : TE} (h : PE X e t) : PE X e (tFzE t) := ⟨fun pins s σ H Q I q => thn (h.run pins s σ H _ I q) fun v s1 ⟨x, H1, I1, r, d, kvs, ex, hd, q1⟩ => by
  obtain ⟨od, I2⟩ := I1.lock hd trivial
  exact ⟨x, _, I2, r, q1 od⟩⟩
theorem DM.de {e : Expr} {t : TE} {m : MM O} (h : DM K O Wx X e t m) : DE K O Wx X e (tFzE t) (mDct O m) := by
  refine ⟨h.hK, h.tk, pe_fz h.pe, fun σ ρ H0 G H s Q F q => ?_⟩
  refine h.sn σ ρ H0 G H s _ F ?_
  unfold mDct at q
  revert q
  cases m ρ s with
  | ok ds s1 =>
    intro q p vs G' H' t k n g e r
    refine ⟨p, vs, rfl, e, fun od => ?_⟩
    exact q (.ref p) (up G' p (.frz od (.dK vs))) _ (t.lockN n e g) (ok_up (ok_off k g (fun w => O.dom K s G H p F.ok w n)) g) (.dct up_same (r.mono (Sm.up g)))
  | err c fs s1 => exact fun q => q
  | bad => exact fun q => q
end
structure FoO (P : Program) (w : World) (K : PySem.W.Frag) (mg : Str → Option Value) (base : Heap) (O : Wo) (C : Addr) (k : Nat) (n : Nat) (m : List D → O.S → R O.S D) : Prop where
  ex : ∃ f fd ps, FnOk P w K mg base (L2.CX P w) k f fd ps (spM K O (n + 1) m) ∧ Mk K C f ∧ Binds K fd ps []
section
variable {K : PySem.W.Frag} {O : Wo} {Wx : WX} {X : Cx} {G : Gh} {H : Hp} {G1 : Gh} {H1 : Hp} {σ : L2.St} {ρ : Ev}
end
end Mr
namespace Mr
open PySem PySem.Spec PyProof.Rows L2 RZ
section
variable {K : PySem.W.Frag} {O : Wo} {Wx : WX} {X : Cx} {G0 : Gh} {H0 : Hp} {G : Gh} {H : Hp} {G1 : Gh} {H1 : Hp} {σ : L2.St} {ρ : Ev} {s s1 : O.S} {l : List Ob}
section
variable {C : Addr} {k j n : Nat} {x cx : Str} {fs : List Str} {m : List D → O.S → R O.S D} {o e : Expr} {es : List Expr} {to : TE} {ta : TA} {mo : ME O} {ma : MA O} {apos pos : Pos}
end
def dIdxS (l : List Ob) (x y : D) : Option D := match dcS l x with
  | some kvs => (toKey y).bind fun k => valP kvs k
  | none => match sqS l x with
    | some (_, xs) => (match y with
      | .int i => atI xs i
      | _ => none)
    | none => dIdx x y
def mIdxS (O : Wo) (a b : ME O) : ME O := mBinS O dIdxS a b
theorem de_idxS {a b : Expr} {ta tb : TE} {ma mb : ME O} {pos : Pos} {j : Nat} (hr : Room j X.A) (ha : DE K O Wx X a ta ma) (hb : DE K O Wx X b tb mb) (hs : PlainIx b := by exact fun _ _ => rfl) (hs2 : NoSl b := by exact fun _ _ => rfl) :
    DE K O Wx X (.Subscript a b pos) (fun σ H Q => tDGet ta tb σ H Q ∨ tOp (rIx K) ta tb σ H Q) (mIdxS O ma mb) := by
  refine ⟨ha.hK, ha.tk, pe_alt (pe_dget (hu_of hr) ha.pe hb.pe hs2) (pe_ix (ix_G ha.hK) ha.pe hb.pe hs), fun σ ρ H0 G H s Q F h => ?_⟩
  by_cases hd : ∃ x s1 y s2 kvs, ma ρ s = .ok x s1 ∧ mb ρ s1 = .ok y s2 ∧ dcS (O.st s2) x = some kvs
  · refine .inl ?_
    obtain ⟨x0, z1, y0, z2, kvs, q1, q2, q3⟩ := hd
    refine ha.sn σ ρ H0 G H s _ F (pst_bind h fun dx s1 e1 x G1 H1 t1 k1 r1 h1 => ?_)
    rw [q1] at e1
    cases e1
    have F1 := F.tr t1 k1
    refine hb.sn σ ρ H0 G1 H1 _ _ F1 (pst_bind h1 fun dy s2 e2 y G2 H2 t2 k2 r2 h2 => ?_)
    rw [q2] at e2
    cases e2
    have F2 := F1.tr t2 k2
    simp only [dIdxS, q3] at h2
    obtain ⟨d, e, q⟩ := pst_lift F2 h2
    rw [Option.bind_eq_some_iff] at e
    obtain ⟨k, ek, ev⟩ := e
    have := r2.key ek
    subst this
    obtain ⟨a, vs, rfl, hR, rk⟩ := dcS_ok F2.sto F2.gh (r1.mono t2.gg) q3
    obtain ⟨v, e3, e4⟩ := rk.val ev
    refine ⟨_, v, rfl, ?_, q v G2 H2 (.refl t2.gh) e4⟩
    rw [← e3]
    exact DGet.r hR
  · refine .inr ?_
    refine ha.sn σ ρ H0 G H s _ F (pst_bind h fun dx s1 e1 x G1 H1 t1 k1 r1 h1 => ?_)
    have F1 := F.tr t1 k1
    refine hb.sn σ ρ H0 G1 H1 _ _ F1 (pst_bind h1 fun dy s2 e2 y G2 H2 t2 k2 r2 h2 => ?_)
    have F2 := F1.tr t2 k2
    have q3 : dcS (O.st s2) dx = none := by
      cases q : dcS (O.st s2) dx with
      | none => rfl
      | some kvs => exact absurd ⟨_, _, _, _, kvs, e1, e2, q⟩ hd
    simp only [dIdxS, q3] at h2
    obtain ⟨d, e, q⟩ := pst_lift F2 h2
    have rx := r1.mono t2.gg
    cases e5 : sqS (O.st s2) dx with
    | none =>
      rw [e5] at e
      exact vop_idx G2 H2 x y dx dy d Q F2.gh rx r2 e q
    | some kx =>
      obtain ⟨k, xs⟩ := kx
      rw [e5] at e
      dsimp only at e
      cases dy with
      | int i =>
        cases r2
        obtain ⟨a, vs, rfl, hq, r⟩ := sqS_ok F2.sto F2.gh rx e5
        obtain ⟨jj, ej, ex⟩ : ∃ jj, ixN xs.length i = some jj ∧ xs[jj]? = some d := by
          unfold atI at e
          rw [Option.bind_eq_some_iff] at e
          exact e
        obtain ⟨v, ev, rv⟩ := r.get' ex
        have ea : atI vs i = some v := by
          unfold atI
          rw [r.length, ej]
          exact ev
        cases k with
        | true => exact .inl ⟨_, vs, i, v, rfl, rfl, hq, ea, q v G2 H2 (.refl t2.gh) rv⟩
        | false => exact .inr (.inl ⟨_, vs, i, v, rfl, rfl, hq, ea, q v G2 H2 (.refl t2.gh) rv⟩)
      | _ => cases e
end
end Mr
namespace Mr
open PySem PySem.Spec PyProof.Rows L2 RZ
section
variable {K : PySem.W.Frag} {O : Wo} {Wx : WX} {X : Cx} {G0 : Gh} {H0 : Hp} {G : Gh} {H : Hp} {G1 : Gh} {H1 : Hp} {σ : L2.St} {ρ : Ev} {s s1 : O.S} {l : List Ob}
def dLenS (l : List Ob) : List D → Option D
  | [x] => match sqS l x with
    | some (_, xs) => some (.int xs.length)
    | none => match dcS l x with
      | some kvs => some (.int kvs.length)
      | none => dLen [x]
  | _ => none
/-- len of a dict, a locked one too -/
theorem call_lenR {X : Cx} : CallR X (.builtin "len") (fun xs H Q => ∃ a kvs, xs = [V.ref a] ∧ Rd H a (.dK kvs) ∧ Q (.int kvs.length) H) := by
  intro pins s σ H xs us Q I r h
  obtain ⟨a, kvs, rfl, ha, q⟩ := h
  obtain ⟨u, rfl, ru⟩ := vals1 r
  cases ru
  exact d_len I ha fun t s' I' => ⟨.int kvs.length, H, I', ⟨t, rfl⟩, q⟩
theorem vcl_lenS : VClS K (fun xs H Q => (∃ x n, xs = [x] ∧ LenV K x H n ∧ Q (.int n) H) ∨ ∃ a kvs, xs = [V.ref a] ∧ Rd H a (.dK kvs) ∧ Q (.int kvs.length) H) dLenS := by
  intro l G H x dx d Q q g rx e k
  unfold dLenS at e
  split at e
  · rename_i x0
    cases rx with
    | cons r1 r2 =>
      cases r2
      cases e1 : sqS l x0 with
      | some kx =>
        obtain ⟨kk, xs⟩ := kx
        rw [e1] at e
        cases e
        obtain ⟨a, vs, rfl, hq, r⟩ := sqS_ok q g r1 e1
        rw [← r.length] at k
        refine .inl ⟨_, _, rfl, ?_, k _ G H (.refl g) (.int _)⟩
        cases kk with
        | true => exact .inl ⟨vs, hq, rfl⟩
        | false => exact .inr ⟨vs, hq, rfl⟩
      | none =>
        rw [e1] at e
        dsimp only at e
        cases e2 : dcS l x0 with
        | some kvs =>
          rw [e2] at e
          cases e
          obtain ⟨a, vs, rfl, hR, r⟩ := dcS_ok q g r1 e2
          rw [← r.length] at k
          exact .inr ⟨a, vs, rfl, hR, k _ G H (.refl g) (.int _)⟩
        | none =>
          rw [e2] at e
          exact .inl (vcl_len G H _ _ d Q g (.cons r1 .nil) e k)
  · cases e
theorem call_lenSG {X : Cx} (hK : X.K = K) : CallR X (.builtin "len") (fun xs H Q => (∃ x n, xs = [x] ∧ LenV K x H n ∧ Q (.int n) H) ∨ ∃ a kvs, xs = [V.ref a] ∧ Rd H a (.dK kvs) ∧ Q (.int kvs.length) H) := by subst hK; exact call_alt call_len call_lenR
theorem de_inD {a b : Expr} {ta tb : TE} {ma mb : ME O} {pos : Pos} {j : Nat} (hr : Room j X.A) (ha : DE K O Wx X a ta ma) (hb : DE K O Wx X b tb mb) (hm : behindInMarks .In b = false := by rfl) : DE K O Wx X (.Compare a [.In] [b] pos) (tDIn ta tb) (mBinS O (fun l k d => (dcS l d).bind fun kvs => (toKey k).map fun k => .bl (valP kvs k).isSome) ma mb) := by
  refine ⟨ha.hK, ha.tk, pe_cmp (pc_din (hu_of hr) ha.pe hb.pe) hm, fun σ ρ H0 G H s Q F h => ?_⟩
  refine ha.sn σ ρ H0 G H s _ F (pst_bind h fun dx s1 _ x G1 H1 t1 k1 r1 h1 => ?_)
  refine hb.sn σ ρ H0 G1 H1 s1 _ (F.tr t1 k1) (pst_bind h1 fun dy s2 _ y G2 H2 t2 k2 r2 h2 => ?_)
  have F2 := (F.tr t1 k1).tr t2 k2
  obtain ⟨d, e, q⟩ := pst_lift F2 h2
  simp only [Option.bind_eq_some_iff, Option.map_eq_some_iff] at e
  obtain ⟨kvs, e1, k, e2, rfl⟩ := e
  obtain ⟨a, vs, rfl, hR, rk⟩ := dcS_ok F2.sto F2.gh r2 e1
  have := r1.key e2
  subst this
  rw [← rk.isSome] at q
  exact ⟨_, _, rfl, DGet.r hR, q _ G2 H2 (.refl t2.gh) (.bl _)⟩
theorem de_notInD {a b : Expr} {ta tb : TE} {ma mb : ME O} {pos : Pos} {j : Nat} (hr : Room j X.A) (ha : DE K O Wx X a ta ma) (hb : DE K O Wx X b tb mb) (hm : behindInMarks .NotIn b = false := by rfl) : DE K O Wx X (.Compare a [.NotIn] [b] pos) (tDNotIn ta tb) (mBinS O (fun l k d => (dcS l d).bind fun kvs => (toKey k).map fun k => .bl (!(valP kvs k).isSome)) ma mb) := by
  refine ⟨ha.hK, ha.tk, pe_cmp (pc_dnotin (hu_of hr) ha.pe hb.pe) hm, fun σ ρ H0 G H s Q F h => ?_⟩
  refine ha.sn σ ρ H0 G H s _ F (pst_bind h fun dx s1 _ x G1 H1 t1 k1 r1 h1 => ?_)
  refine hb.sn σ ρ H0 G1 H1 s1 _ (F.tr t1 k1) (pst_bind h1 fun dy s2 _ y G2 H2 t2 k2 r2 h2 => ?_)
  have F2 := (F.tr t1 k1).tr t2 k2
  obtain ⟨d, e, q⟩ := pst_lift F2 h2
  simp only [Option.bind_eq_some_iff, Option.map_eq_some_iff] at e
  obtain ⟨kvs, e1, k, e2, rfl⟩ := e
  obtain ⟨a, vs, rfl, hR, rk⟩ := dcS_ok F2.sto F2.gh r2 e1
  have := r1.key e2
  subst this
  rw [← rk.isSome] at q
  exact ⟨_, _, rfl, DGet.r hR, q _ G2 H2 (.refl t2.gh) (.bl _)⟩
/-- x in y: a dict's key, or a thing of a list, a tuple, a text -/
def dInS (neg : Bool) (l : List Ob) (x y : D) : Option D := match dcS l y with
  | some kvs => (toKey x).map fun k => .bl (neg != (valP kvs k).isSome)
  | none => liftO (if neg = true then dNotIn else dIn) l x y
theorem alt_op {r : TE} {u : TE} {ma mb : ME O} {f g h : List Ob → D → D → Option D} (hf : SndE K O Wx r (mBinS O f ma mb)) (hg : SndE K O Wx u (mBinS O g ma mb)) (e1 : ∀ l x y kvs, dcS l y = some kvs → h l x y = f l x y) (e2 : ∀ l x y, dcS l y = none → h l x y = g l x y) :
    SndE K O Wx (fun σ H Q => r σ H Q ∨ u σ H Q) (mBinS O h ma mb) := by
  intro σ ρ H0 G H s Q F hq
  by_cases hd : ∃ x s1 y s2 kvs, ma ρ s = .ok x s1 ∧ mb ρ s1 = .ok y s2 ∧ dcS (O.st s2) y = some kvs
  · refine .inl (hf σ ρ H0 G H s Q F ?_)
    obtain ⟨x0, z1, y0, z2, kvs, q1, q2, q3⟩ := hd
    simp only [mBinS, q1, q2, bind_ok, e1 _ _ _ _ q3] at hq ⊢
    exact hq
  · refine .inr (hg σ ρ H0 G H s Q F ?_)
    revert hq
    unfold mBinS
    cases q1 : ma ρ s with
    | err c fs s1 => exact fun hq => hq
    | bad => exact fun hq => hq
    | ok x s1 =>
      simp only [bind_ok]
      cases q2 : mb ρ s1 with
      | err c fs s1 => exact fun hq => hq
      | bad => exact fun hq => hq
      | ok y s2 =>
        simp only [bind_ok]
        rw [e2]
        · exact fun hq => hq
        · cases q3 : dcS (O.st s2) y with
          | none => rfl
          | some kvs => exact absurd ⟨x, s1, y, s2, kvs, q1, q2, q3⟩ hd
theorem de_inS {a b : Expr} {ta tb : TE} {ma mb : ME O} {pos : Pos} {j : Nat} (hr : Room j X.A) (ha : DE K O Wx X a ta ma) (hb : DE K O Wx X b tb mb) (hm : behindInMarks .In b = false := by first | rfl | with_unfolding_all rfl) : DE K O Wx X (.Compare a [.In] [b] pos) (fun σ H Q => tDIn ta tb σ H Q ∨ tOp (rIn K false) ta tb σ H Q) (mBinS O (dInS false) ma mb) := by
  have h1 := de_inD (pos := pos) hr ha hb hm
  have h2 := de_in (pos := pos) ha hb hm
  refine ⟨ha.hK, ha.tk, pe_alt h1.pe h2.pe, alt_op h1.sn (snd_opS vop_in.liftS ha.sn hb.sn) (fun l x y kvs e => ?_) (fun l x y e => ?_)⟩
  · simp only [dInS, e, Option.bind_some]
    cases toKey x with
    | none => rfl
    | some k => simp
  · simp only [dInS, e]; rfl
theorem de_notInS {a b : Expr} {ta tb : TE} {ma mb : ME O} {pos : Pos} {j : Nat} (hr : Room j X.A) (ha : DE K O Wx X a ta ma) (hb : DE K O Wx X b tb mb) (hm : behindInMarks .NotIn b = false := by first | rfl | with_unfolding_all rfl) : DE K O Wx X (.Compare a [.NotIn] [b] pos) (fun σ H Q => tDNotIn ta tb σ H Q ∨ tOp (rIn K true) ta tb σ H Q) (mBinS O (dInS true) ma mb) := by
  have h1 := de_notInD (pos := pos) hr ha hb hm
  have h2 := de_notIn (pos := pos) ha hb hm
  refine ⟨ha.hK, ha.tk, pe_alt h1.pe h2.pe, alt_op h1.sn (snd_opS vop_notIn.liftS ha.sn hb.sn) (fun l x y kvs e => ?_) (fun l x y e => ?_)⟩
  · simp only [dInS, e, Option.bind_some]
    cases toKey x with
    | none => rfl
    | some k => (simp only [Option.map_some]; generalize (valP kvs k).isSome = b; cases b <;> rfl)
  · simp only [dInS, e]; rfl
theorem de_eqS {a b : Expr} {ta tb : TE} {ma mb : ME O} {pos : Pos} {j : Nat} (hr : Room j X.A) (ha : DE K O Wx X a ta ma) (hb : DE K O Wx X b tb mb) : DE K O Wx X (.Compare a [.Eq] [b] pos) (tOp (rEqG K) ta tb) (mBinS O (liftO dEq) ma mb) := de_cmpS (op_eqG ha.hK hr.units) vop_eq.liftS ha hb (nomark _)
def dTruthS (l : List Ob) (x : D) : Option Bool := match sqS l x with
  | some (_, xs) => some (!xs.isEmpty)
  | none => match x with
    | .obj n => (match l[n]? with
      | some (.dct kvs) => some (!kvs.isEmpty)
      | _ => none)
    | x => dTruth x
theorem RepK.isEmpty : ∀ {vs : List (Key × V)} {ds : List (Key × D)}, RepK K G vs ds → vs.isEmpty = ds.isEmpty
  | _, _, .nil => rfl
  | _, _, .cons _ _ => rfl
theorem truthS_ok {x : V} {dx : D} {b : Bool} (q : StOk K G H l) (g : Sh G H) (r : Rep K G x dx) (h : dTruthS l dx = some b) : TruV K x H b := by
  unfold dTruthS at h
  cases e1 : sqS l dx with
  | some kx =>
    obtain ⟨k, xs⟩ := kx
    rw [e1] at h
    cases h
    obtain ⟨a, vs, rfl, hq, r⟩ := sqS_ok q g r e1
    rw [← r.isEmpty]
    cases k with
    | true => exact .inl ⟨vs, hq, rfl⟩
    | false => exact .inr (.inl ⟨vs, hq, rfl⟩)
  | none =>
    rw [e1] at h
    dsimp only at h
    split at h
    · split at h
      · rename_i kvs e2
        cases h
        obtain ⟨a, rfl, h1, vs, h2, r2⟩ := q.get r e2
        rw [← r2.isEmpty]
        exact .inr (.inr ⟨vs, h2, rfl⟩)
      · cases h
    · exact truth_ok g r h
def mTruthS (O : Wo) (m : ME O) : MT O := fun ρ s => (m ρ s).bind fun x s1 => R.lift (dTruthS (O.st s1) x) s1
theorem dt_truthS {a : Expr} {ta : TE} {ma : ME O} (ha : DE K O Wx X a ta ma) (he : ∀ whole, isTrue a X.env whole = (do let v ← whole; standAt a.pos; holding [v] (truthy v)) := by intro _; rfl) :
    DT K O Wx X a (fun σ H Q => ta σ H fun x H1 => ∃ k, TruV K x H1 k ∧ Q k H1) (mTruthS O ma) := by
  refine ⟨ha.hK, ha.tk, ?_, ?_⟩
  · have := ha.hK
    subst this
    exact pt_truth ha.pe he
  · intro σ ρ H0 G H s Q F hq
    refine ha.sn σ ρ H0 G H s _ F (pst_bind hq fun dx s1 _ x G1 H1 t1 k1 r1 h1 => ?_)
    cases e : dTruthS (O.st s1) dx with
    | none => rw [e] at h1; exact (show False from h1).elim
    | some b =>
      rw [e] at h1
      exact ⟨b, truthS_ok (F.tr t1 k1).sto t1.gh r1 e, h1 b G1 H1 (.refl t1.gh) k1 rfl⟩
def mListNS (O : Wo) (a : MA O) : MA O := fun ρ s => (a ρ s).bind fun ds s1 => match ds with
  | [x] => (match sqS (O.st s1) x with
    | some (_, xs) => .ok xs s1
    | none => .bad)
  | _ => .bad
theorem dn_listOfS {e : Expr} {es : List Expr} {ta : TA} {ma : MA O} {p pos : Pos} (hm : X.mg "list" = none) (ha : DA K O Wx X (e :: es) ta ma)
    (hg : Gl X "list" := by rfl) (he : starEach (e :: es) X.env = (false, eval e X.env) :: starEach es X.env := by rfl) (hpl : (backTo pos (starEach es X.env)).any (·.1) = false := by rfl) :
    DN K O Wx X (.Call (.Name "list" p) (e :: es) [] pos) (tCB (rListOf K) ta) (mListNS O ma) := by
  refine ⟨ha.hK, ha.tk, (de_callT (f := dListOf) (call_listG ha.hK) vcl_listOf hm (by decide +kernel) ha hg (by decide) (by decide) he hpl).pe, fun σ ρ H0 G H s Q F h => ?_⟩
  refine ha.sn σ ρ H0 G H s _ F (pstN_bind h fun ds s1 _ vs G1 H1 t1 k1 r1 h1 => ?_)
  have F1 := F.tr t1 k1
  split at h1
  · rename_i x
    cases r1 with
    | cons ra rb =>
      cases rb
      split at h1
      · rename_i k xs e1
        obtain ⟨a, vs, rfl, hq, r⟩ := sqS_ok F1.sto F1.gh ra e1
        refine ⟨_, _, rfl, ?_, fun l n => newL (.refl F1.gh) k1 F1.gh h1 r n⟩
        cases k with
        | true => exact .inl hq
        | false => exact .inr hq
      · exact (show False from h1).elim
  · exact (show False from h1).elim
/-- x[a:b] as a value: of a tuple a tuple, of a list a new list, told -/
def mSliceS (O : Wo) (a : ME O) (l h : MO O) : ME O := fun ρ s => (a ρ s).bind fun x s1 => (l ρ s1).bind fun lo s2 => (h ρ s2).bind fun hi s3 => match sqS (O.st s3) x with
  | some (true, xs) => .ok (.lst (cutD xs lo hi)) s3
  | some (false, xs) => .ok (.tup (cutD xs lo hi)) s3
  | none => .bad
theorem de_sliceS {e : Expr} {lo hi : Option Expr} {te : TE} {tl th : TO} {me : ME O} {ml mh : MO O} {p2 pos : Pos} (he : DE K O Wx X e te me) (hl : DO K O Wx X lo tl ml) (hh : DO K O Wx X hi th mh) :
    DE K O Wx X (.Subscript e (.Slice lo hi none p2) pos) (tSl (rSlG K) te tl th) (mSliceS O me ml mh) := by
  refine ⟨he.hK, he.tk, (de_slice he hl hh).pe, fun σ ρ H0 G H s Q F h => ?_⟩
  refine he.sn σ ρ H0 G H s _ F (pst_bind h fun dx s1 _ x G1 H1 t1 k1 r1 h1 => ?_)
  have F1 := F.tr t1 k1
  refine hl.sn σ ρ H0 G1 H1 s1 _ F1 (pst_bind h1 fun l s2 _ l' G2 H2 t2 k2 r2 h2 => ?_)
  have F2 := F1.tr t2 k2
  subst r2
  refine hh.sn σ ρ H0 G2 H2 s2 _ F2 (pst_bind h2 fun u s3 _ u' G3 H3 t3 k3 r3 h3 => ?_)
  have F3 := F2.tr t3 k3
  subst r3
  have rx : Rep K G3 x dx := (r1.mono t2.gg).mono t3.gg
  split at h3
  · rename_i xs e1
    obtain ⟨a, vs, rfl, hq, r⟩ := sqS_ok F3.sto F3.gh rx e1
    exact .inl ⟨_, _, rfl, hq, fun p n => h3 _ _ _ (Tr0.new F3.gh n).up (F3.keepW (Tr0.new F3.gh n)) (new_lst F3.gh n (r.cut _ _))⟩
  · rename_i xs e1
    cases rx with
    | tup hs r =>
      cases e1
      refine .inr ⟨_, _, rfl, F3.gh.seqT hs, fun z => ?_, fun z p n => h3 _ _ _ (Tr0.new F3.gh n).up (F3.keepW (Tr0.new F3.gh n)) (new_tup F3.gh n (r.cut _ _))⟩
      rw [r.cut_whole z] at h3
      exact h3 _ G3 H3 (.refl F3.gh) k3 (.tup hs r)
    | lst hs r => cases e1
    | @obj b n hx =>
      simp only [sqS] at e1
      split at e1 <;> cases e1
    | _ => cases e1
  · exact (show False from h3).elim
end
end Mr
namespace Mr
open PySem PySem.Spec PyProof.Rows L2 RZ
section
variable {K : PySem.W.Frag} {O : Wo} {Wx : WX} {X : Cx} {G0 : Gh} {H0 : Hp} {G : Gh} {H : Hp} {G1 : Gh} {H1 : Hp} {σ : L2.St} {ρ : Ev} {s s1 : O.S} {l : List Ob}
def notFrz : HO → Bool
  | .frz _ _ => false
  | _ => true
theorem nfz {a : Addr} {o : HO} (h : H a = some o) (n : notFrz o = true) : ∀ u v, H a ≠ some (.frz u v) := fun u v e => by rw [h] at e; cases e; cases n
def stPut (O : Wo) (s : O.S) (n : Nat) (ob : Ob) : O.S := O.wi s ((O.st s).set n ob)
def mMutL (O : Wo) (f : List D → List D → Option (D × List D)) (mo : ME O) (ma : MA O) : ME O := fun ρ s => (mo ρ s).bind fun x s1 => match x with
  | .obj n => (match (O.st s1)[n]? with
    | some (.lst _) => (ma ρ s1).bind fun ds s2 => (match (O.st s2)[n]? with
      | some (.lst xs) => (match f xs ds with
        | some (d, ys) => .ok d (stPut O s2 n (.lst ys))
        | none => .bad)
      | _ => .bad)
    | _ => .bad)
  | _ => .bad
theorem snd_mutL {r : V → List V → Hp → VK → Prop} {f : List D → List D → Option (D × List D)} (hr : OwnR K r f) {to : TE} {ta : TA} {mo : ME O} {ma : MA O} (ho : SndE K O Wx to mo) (ha : SndA K O Wx ta ma) : SndE K O Wx (tBM K "list" r to ta) (mMutL O f mo ma) := by
  intro σ ρ H0 G H s Q F h
  refine ho σ ρ H0 G H s _ F (pst_bind h fun x s1 _ xv G1 H1 t1 k1 r1 h1 => ?_)
  have F1 := F.tr t1 k1
  split at h1
  · rename_i n
    split at h1
    · rename_i xs0 e0
      obtain ⟨a, rfl, hg, vs0, hp0, _⟩ := F1.sto.get r1 e0
      refine ⟨.inl ⟨rfl, vs0, .inl (.inl hp0)⟩, ?_⟩
      refine ha σ ρ H0 G1 H1 s1 _ F1 (pst_bind h1 fun ds s2 _ ws G2 H2 t2 k2 r2 h2 => ?_)
      have F2 := F1.tr t2 k2
      split at h2
      · rename_i xs e1
        split at h2
        · rename_i d ys ef
          obtain ⟨b, eb, hg2, vs, hp, r3⟩ := F2.sto.get (r1.mono t2.gg) e1
          cases eb
          refine hr r3 r2 ef hp fun y vs' ry r4 => ?_
          obtain ⟨t5, k5⟩ := F2.stw (o := .lst vs') (ob := .lst ys) hg2 (nfz hp rfl) rfl ⟨vs', upd_same, r4⟩ hg2
          exact h2 y G2 _ t5 k5 ry
        · exact (show False from h2).elim
      · exact (show False from h2).elim
    · exact (show False from h1).elim
  · exact (show False from h1).elim
theorem de_mutL {r : V → List V → Hp → VK → Prop} {f : List D → List D → Option (D × List D)} {name : Str} {id : String} {o e : Expr} {es : List Expr} {to : TE} {ta : TA} {mo : ME O} {ma : MA O} {p2 p3 : Pos} (hr : OwnR K r f) (slot : Slot "list" name id) (hty : typeOf (.builtin id) = pure (.type "method_descriptor")) (hm : MtR X id r) (ho : DE K O Wx X o to mo) (ha : DA K O Wx X (e :: es) ta ma)
    (hbase : attributeBase o name X.env (eval o X.env) = eval o X.env := by rfl)
    (hfew : ((backTo p3 (starEach (e :: es) X.env)).all (fun x => !x.1) && (backToKw p3 (keywordEach [] X.env)).all (fun x => x.1.isSome) && decide ((e :: es).length + ([] : List Keyword).length + (if ([] : List Keyword).isEmpty then 0 else 1) < 30)) = true := by rfl)
    (hline : (p2.endLine == p3.line) = true := by rfl) (hse : starEach (e :: es) X.env = (false, eval e X.env) :: starEach es X.env := by rfl) (hpl : (backTo p3 (starEach es X.env)).any (·.1) = false := by rfl) :
    DE K O Wx X (.Call (.Attribute o name p2) (e :: es) [] p3) (tBM K "list" r to ta) (mMutL O f mo ma) := by
  refine ⟨ha.hK, ha.tk, by rw [← ha.hK]; exact pe_bm PySem.F.plainAttrs_list slot hty hm ho.pe ha.pe hbase hfew hline hse hpl, snd_mutL hr ho.sn ha.sn⟩
def lApp (xs : List D) : List D → Option (D × List D)
  | [d] => if xs.length < 100000 then some (.non, xs ++ [d]) else none
  | _ => none
theorem own_app : OwnR K rAppend lApp := by
  intro G H l vs ws xs ds ys d Q r1 r2 e hl q
  unfold lApp at e
  split at e
  · split at e
    · rename_i hz
      cases e
      cases r2 with
      | cons a b =>
        cases b
        exact ⟨l, vs, _, rfl, rfl, hl, by rw [r1.length]; exact sz5l hz, q _ _ .non (r1.append (.cons a .nil))⟩
    · cases e
  · cases e
/-- o.extend(a new list) -/
def mExtS (O : Wo) (mo : ME O) (m : MA O) : ME O := fun ρ s => (mo ρ s).bind fun x s1 => match x with
  | .obj n => (match (O.st s1)[n]? with
    | some (.lst _) => (m ρ s1).bind fun ds s2 => (match (O.st s2)[n]? with
      | some (.lst xs) => if xs.length + ds.length ≤ 100000 then .ok .non (stPut O s2 n (.lst (xs ++ ds))) else .bad
      | _ => .bad)
    | _ => .bad)
  | _ => .bad
theorem Pst.ofN {r : R O.S (List D)} {f : List D → O.S → R O.S D} {Q : VK} {Q1 : VK} (h : Pst K O Wx σ G H (Rep K) (r.bind f) Q)
    (k : ∀ ds s1, r = .ok ds s1 → ∀ p vs G1 H1, Tr O.W G H G1 H1 → O.ok K s1 G1 H1 → H p = none → G1 p = none → H1 p = some (.lst vs) → Reps K G1 vs ds → Pst K O Wx σ G1 H1 (Rep K) (f ds s1) Q → Q1 (.ref p) H1) : PstN K O Wx σ G H r Q1 := by
  cases r with
  | ok ds s' => exact fun p vs G' H' t' ko n g e r => k ds s' rfl p vs G' H' t' ko n g e r (Pst.shift t' h)
  | err c fs s' => exact h
  | bad => exact h
theorem de_extS {o e : Expr} {to te : TE} {mo : ME O} {me : MA O} {p2 p3 : Pos} (ho : DE K O Wx X o to mo) (he : DN K O Wx X e te me)
    (hbase : attributeBase o "extend" X.env (eval o X.env) = eval o X.env := by rfl)
    (hfew : ((backTo p3 (starEach [e] X.env)).all (fun x => !x.1) && (backToKw p3 (keywordEach [] X.env)).all (fun x => x.1.isSome) && decide ([e].length + ([] : List Keyword).length + (if ([] : List Keyword).isEmpty then 0 else 1) < 30)) = true := by rfl)
    (hline : (p2.endLine == p3.line) = true := by rfl) (hse : starEach [e] X.env = (false, eval e X.env) :: starEach [] X.env := by rfl) (hpl : (backTo p3 (starEach [] X.env)).any (·.1) = false := by rfl) :
    DE K O Wx X (.Call (.Attribute o "extend" p2) [e] [] p3) (tBM K "list" rExtend to (tCons te tNil)) (mExtS O mo me) := by
  refine ⟨ho.hK, ho.tk, by rw [← he.hK]; exact pe_bm PySem.F.plainAttrs_list PySem.F.slot_list_extend PySem.F.type_list_extend mt_extend ho.pe (pa_cons he.pe pa_nil hse) hbase hfew hline hse hpl, fun σ ρ H0 G H s Q F h => ?_⟩
  refine ho.sn σ ρ H0 G H s _ F (pst_bind h fun x s1 _ xv G1 H1 t1 k1 r1 h1 => ?_)
  have F1 := F.tr t1 k1
  split at h1
  · rename_i n
    split at h1
    · rename_i xs0 e0
      obtain ⟨a, rfl, hg, vs0, hp0, _⟩ := F1.sto.get r1 e0
      refine ⟨.inl ⟨rfl, vs0, .inl (.inl hp0)⟩, ?_⟩
      refine he.sn σ ρ H0 G1 H1 s1 _ F1 (Pst.ofN h1 fun ds s2 _ p ws G2 H2 t2 k2 np gp hpp r2 h2 => ?_)
      have F2 := F1.tr t2 k2
      split at h2
      · rename_i xs e1
        split at h2
        · rename_i hz
          obtain ⟨b, eb, hg2, vs, hp, r3⟩ := F2.sto.get (r1.mono t2.gg) e1
          cases eb
          refine ⟨a, p, vs, ws, rfl, rfl, hp, hpp, by rw [r3.length, r2.length]; exact sz5 hz, ?_⟩
          obtain ⟨t5, k5⟩ := F2.stw (o := .lst (vs ++ ws)) (ob := .lst (xs ++ ds)) hg2 (nfz hp rfl) rfl ⟨_, upd_same, r3.append r2⟩ hg2
          exact h2 .non G2 _ t5 k5 .non
        · exact (show False from h2).elim
      · exact (show False from h2).elim
    · exact (show False from h1).elim
  · exact (show False from h1).elim
def putS (l : List Ob) (x i d : D) : Option (Nat × Ob) := match x with
  | .obj n => (match l[n]? with
    | some (.lst xs) => (match i with
      | .int i => (ixN xs.length i).map fun j => (n, .lst (xs.set j d))
      | _ => none)
    | some (.dct kvs) => (toKey i).bind fun k => if kvs.length < 100000 then some (n, .dct (putP kvs k d)) else none
    | _ => none)
  | _ => none
def mSetIS (O : Wo) (mo mi m : ME O) : MS O := fun ρ s => toS (m ρ s) ρ fun d s1 => toS (mo ρ s1) ρ fun x s2 => toS (mi ρ s2) ρ fun i s3 => match putS (O.st s3) x i d with
  | some (n, ob) => .nx ρ (stPut O s3 n ob)
  | none => .bad
theorem ps_alt {st : Stmt} {t u : TS} (h1 : PS X st t) (h2 : PS X st u) : PS X st (fun Dn σ H => t Dn σ H ∨ u Dn σ H) := ⟨fun pins s σ H Dn I h => h.elim (fun h => h1.run pins s σ H Dn I h) (fun h => h2.run pins s σ H Dn I h)⟩
theorem ds_setIS {o i e : Expr} {to ti te : TE} {mo mi me : ME O} {p1 p2 : Pos} {j : Nat} (hr : Room j X.A) (ho : DE K O Wx X o to mo) (hi : DE K O Wx X i ti mi) (he : DE K O Wx X e te me)
    (hs : swapsWith e (some (.Subscript o i p1)) p2.line X.env = pure false := by rfl) (hs2 : swapsWithSole [.Subscript o i p1] e p2.line X.env = pure false := by rfl) (hw : swappedStores [.Subscript o i p1] e X.env = pure none := by rfl)
    (h1 : (assignEach [.Subscript o i p1] X.env).map (·.2) = [assign (.Subscript o i p1) X.env] := by rfl)
    (hps : PG X (.Subscript o i p1) (gSub to ti rSetL) := by exact pg_sub (by assumption) (by assumption) set_list) :
    DS K O Wx X (.Assign [.Subscript o i p1] e p2) (fun Dn σ H => sDPut to ti te Dn σ H ∨ tAsg te (gSub to ti rSetL) Dn σ H) (mSetIS O mo mi me) := by
  refine ⟨ps_alt (ps_dput (hu_of hr) ho.pe hi.pe he.pe hs) (ps_asg he.pe hps hs2 hw h1), fun G0 H0 σ ρ G H s Dn F h => ?_⟩
  by_cases hd : ∃ d s1 n s2 i s3 kvs, me ρ s = .ok d s1 ∧ mo ρ s1 = .ok (.obj n) s2 ∧ mi ρ s2 = .ok i s3 ∧ (O.st s3)[n]? = some (.dct kvs)
  · refine .inl ?_
    obtain ⟨d0, z1, n0, z2, i0, z3, kvs, q1, q2, q3, q4⟩ := hd
    refine he.sn σ ρ H0 G H s _ F.fm (pst_toS F h fun d s1 e1 v G1 H1 t1 k1 r1 h1 => ?_)
    rw [q1] at e1
    cases e1
    have F1 := F.go t1 k1
    refine ho.sn σ ρ H0 G1 H1 _ _ F1.fm (pst_toS F1 h1 fun x s2 e2 xv G2 H2 t2 k2 r2 h2 => ?_)
    rw [q2] at e2
    cases e2
    have F2 := F1.go t2 k2
    refine hi.sn σ ρ H0 G2 H2 _ _ F2.fm (pst_toS F2 h2 fun i s3 e3 iv G3 H3 t3 k3 r3 h3 => ?_)
    rw [q3] at e3
    cases e3
    have F3 := F2.go t3 k3
    simp only [putS, q4] at h3
    cases ek : toKey i0 with
    | none => rw [ek] at h3; exact (show False from h3).elim
    | some k =>
      rw [ek, Option.bind_some] at h3
      by_cases hz : kvs.length < 100000
      · rw [if_pos hz] at h3
        have := r3.key ek
        subst this
        obtain ⟨a, rfl, hg, vs, hp, r⟩ := F3.fm.sto.get (r2.mono t3.gg) q4
        obtain ⟨t5, k5⟩ := F3.fm.stw (o := .dK (putK vs k v)) (ob := .dct (putP kvs k d0)) hg (nfz hp rfl) rfl ⟨_, upd_same, r.put ((r1.mono t2.gg).mono t3.gg)⟩ hg
        exact ⟨a, _, rfl, DPut.k hp (by rw [r.length]; exact sz5l hz), h3 σ G3 _ (Sm.refl _) (F3.go t5 k5)⟩
      · rw [if_neg hz] at h3
        exact (show False from h3).elim
  · refine .inr ?_
    refine he.sn σ ρ H0 G H s _ F.fm (pst_toS F h fun d s1 e1 v G1 H1 t1 k1 r1 h1 => ?_)
    have F1 := F.go t1 k1
    refine ho.sn σ ρ H0 G1 H1 _ _ F1.fm (pst_toS F1 h1 fun x s2 e2 xv G2 H2 t2 k2 r2 h2 => ?_)
    have F2 := F1.go t2 k2
    refine hi.sn σ ρ H0 G2 H2 _ _ F2.fm (pst_toS F2 h2 fun i s3 e3 iv G3 H3 t3 k3 r3 h3 => ?_)
    have F3 := F2.go t3 k3
    split at h3
    · rename_i n ob ep
      unfold putS at ep
      split at ep
      · rename_i m
        split at ep
        · rename_i xs e4
          split at ep
          · rename_i j
            rw [Option.map_eq_some_iff] at ep
            obtain ⟨jj, ej, e5⟩ := ep
            cases e5
            cases r3
            obtain ⟨a, rfl, hg, vs, hp, r⟩ := F3.fm.sto.get (r2.mono t3.gg) e4
            obtain ⟨t5, k5⟩ := F3.fm.stw (o := .lst (vs.set jj v)) (ob := .lst (xs.set jj d)) hg (nfz hp rfl) rfl ⟨_, upd_same, Reps.set ((r1.mono t2.gg).mono t3.gg) jj r⟩ hg
            exact ⟨a, vs, j, jj, rfl, rfl, hp, by rw [r.length]; exact ej, h3 σ G3 _ (Sm.refl _) (F3.go t5 k5)⟩
          · cases ep
        · rename_i kvs e4
          exact absurd ⟨d, s1, m, s2, i, s3, kvs, e1, e2, e3, e4⟩ hd
        · cases ep
      · cases ep
    · exact (show False from h3).elim
/-- d[k] op= e, d a dict of the store -/
def mAugIS (O : Wo) (g : D → D → Option D) (mo mi m : ME O) : MS O := fun ρ s => toS (mo ρ s) ρ fun x s1 => toS (mi ρ s1) ρ fun i s2 => match x with
  | .obj n => (match (O.st s2)[n]? with
    | some (.dct kvs) => (match toKey i with
      | some k => (match valP kvs k with
        | some v => toS (m ρ s2) ρ fun y s3 => (match g v y with
          | some z => (match (O.st s3)[n]? with
            | some (.dct kvs') => if kvs'.length < 100000 then .nx ρ (stPut O s3 n (.dct (putP kvs' k z))) else .bad
            | _ => .bad)
          | none => .bad)
        | none => .bad)
      | none => .bad)
    | _ => .bad)
  | _ => .bad
theorem ds_augIS {o i e : Expr} {op : Operator} {rd : TIp} {g : D → D → Option D} {to ti te : TE} {mo mi me : ME O} {p1 p2 : Pos} {j : Nat} (hr : Room j X.A) (hop : PIp X op rd) (hv : VOp K rd g) (ho : DE K O Wx X o to mo) (hi : DE K O Wx X i ti mi) (he : DE K O Wx X e te me)
    (haug : ∀ ov iv new, augStore i ov iv new = (do holding [new, ov, iv] (setItem ov iv new); release [new, ov, iv] []; pure .next) := by exact fun _ _ _ => rfl) :
    DS K O Wx X (.AugAssign (.Subscript o i p1) op e p2) (sDAug to ti te rd) (mAugIS O g mo mi me) := by
  refine ⟨ps_daug (hu_of hr) ho.pe hi.pe he.pe hop haug, fun G0 H0 σ ρ G H s Dn F h => ?_⟩
  refine ho.sn σ ρ H0 G H s _ F.fm (pst_toS F h fun x s1 e1 xv G1 H1 t1 k1 r1 h1 => ?_)
  have F1 := F.go t1 k1
  refine hi.sn σ ρ H0 G1 H1 _ _ F1.fm (pst_toS F1 h1 fun i s2 e2 iv G2 H2 t2 k2 r2 h2 => ?_)
  have F2 := F1.go t2 k2
  split at h2
  · rename_i n
    split at h2
    · rename_i kvs e3
      split at h2
      · rename_i k ek
        split at h2
        · rename_i v ev
          have := r2.key ek
          subst this
          obtain ⟨a, rfl, hg, vs, hp, r⟩ := F2.fm.sto.get (r1.mono t2.gg) e3
          obtain ⟨vv, e4, rv⟩ := r.val ev
          refine ⟨a, vv, rfl, by rw [← e4]; exact DGet.k hp, ?_⟩
          refine he.sn σ ρ H0 G2 H2 s2 _ F2.fm (pst_toS F2 h2 fun y s3 _ yv G3 H3 t3 k3 r3 h3 => ?_)
          have F3 := F2.go t3 k3
          split at h3
          · rename_i z ez
            refine hv G3 H3 vv yv v y z _ F3.fm.gh (rv.mono t3.gg) r3 ez fun w G4 H4 t4 r4 => ?_
            have F4 := F3.go t4.up (F3.fm.keepW t4)
            have h4 := PstS.shift t4.gg h3
            split at h4
            · rename_i kvs' e5
              split at h4
              · rename_i hz
                obtain ⟨b, eb, hg4, vs', hp4, r5⟩ := F4.fm.sto.get (((r1.mono t2.gg).mono t3.gg).mono t4.gg) e5
                cases eb
                obtain ⟨t6, k6⟩ := F4.fm.stw (o := .dK (putK vs' k w)) (ob := .dct (putP kvs' k z)) hg4 (nfz hp4 rfl) rfl ⟨_, upd_same, r5.put r4⟩ hg4
                exact ⟨_, DPut.k hp4 (by rw [r5.length]; exact sz5l hz), h4 σ G4 _ (Sm.refl _) (F4.go t6 k6)⟩
              · exact (show False from h4).elim
            · exact (show False from h4).elim
          · exact (show False from h3).elim
        · exact (show False from h2).elim
      · exact (show False from h2).elim
    · exact (show False from h2).elim
  · exact (show False from h2).elim
end
end Mr
namespace Mr
open PySem PySem.Spec PyProof.Rows L2 RZ
section
variable {K : PySem.W.Frag} {O : Wo} {Wx : WX} {X : Cx} {G0 : Gh} {H0 : Hp} {G : Gh} {H : Hp} {G1 : Gh} {H1 : Hp} {σ : L2.St} {ρ : Ev} {s s1 : O.S} {l : List Ob}
def ItOkS (K : PySem.W.Frag) (J : It) (G : Gh) (items : List D) (c : List Ob → Prop) : Prop := ∀ G1 H l, Sm G G1 → Sh G1 H → StOk K G1 H l → c l → ∀ i : Nat,
  (∀ d, items[i]? = some d → J.go i H ∧ ∀ x H', J.yld i H x H' → ∃ G2, Tr0 G1 H G2 H' ∧ Rep K G2 x d) ∧ (items.length ≤ i → J.stop i H)
theorem itOk_s {J : It} {items : List D} {c : List Ob → Prop} (h : ItOk K J G items) : ItOkS K J G items c := fun G1 H l e1 e2 _ _ i => h G1 H e1 e2 i
abbrev MJ (O : Wo) := Ev → O.S → R O.S (List D × (List Ob → Prop))
def SndJ (K : PySem.W.Frag) (O : Wo) (Wx : WX) (w : TI) (m : MJ O) : Prop := ∀ σ ρ H0 G H s Q, Fm K O H0 σ ρ G H s → Pst K O Wx σ G H (fun G' J ic => ItOkS K J G' ic.1 ic.2) (m ρ s) Q → w σ H Q
structure DJ (K : PySem.W.Frag) (O : Wo) (Wx : WX) (X : Cx) (tg e : Expr) (w : TI) (m : MJ O) : Prop where
  pe : PI X tg e w
  sn : SndJ K O Wx w m
def mJI (O : Wo) (m : MI O) : MJ O := fun ρ s => (m ρ s).bind fun xs s1 => .ok (xs, fun _ => True) s1
theorem DI.j {tg e : Expr} {w : TI} {m : MI O} (h : DI K O Wx X tg e w m) : DJ K O Wx X tg e w (mJI O m) := by
  refine ⟨h.pe, fun σ ρ H0 G H s Q F q => h.sn σ ρ H0 G H s Q F ?_⟩
  unfold mJI at q
  revert q
  cases m ρ s with
  | ok ds s1 => exact fun q J G' H' t k r => q J G' H' t k (itOk_s r)
  | err c fs s1 => exact fun q => q
  | bad => exact fun q => q
/-- a list, a tuple, told or in the store -/
theorem it_seqS {a : Addr} {d : D} {k : Bool} {xs : List D} (r : Rep K G (.ref a) d) : ItOkS K (if k = true then Itl K a else Itt K a) G xs (fun l => sqS l d = some (k, xs)) := fun G1 H l e1 e2 q e i => by
  obtain ⟨a', vs, ea, hq, rr⟩ := sqS_ok q e2 (r.mono e1) e
  cases ea
  cases k with
  | true =>
    rw [if_pos rfl]
    have h1 : SqL K H a vs := hq
    refine ⟨fun d hd => ?_, fun hl => ⟨vs, h1, by rw [rr.length]; exact hl⟩⟩
    obtain ⟨v, hv, rv⟩ := rr.get' hd
    refine ⟨⟨vs, v, h1, hv⟩, fun x H' y => ?_⟩
    obtain ⟨e, y⟩ := y
    subst e
    have := y vs h1
    rw [hv] at this
    cases this
    exact ⟨G1, .refl e2, rv⟩
  | false =>
    rw [if_neg (by simp)]
    have h1 : SqT K H a vs := hq
    refine ⟨fun d hd => ?_, fun hl => ⟨vs, h1, by rw [rr.length]; exact hl⟩⟩
    obtain ⟨v, hv, rv⟩ := rr.get' hd
    refine ⟨⟨vs, v, h1, hv⟩, fun x H' y => ?_⟩
    obtain ⟨e, y⟩ := y
    subst e
    have := y vs h1
    rw [hv] at this
    cases this
    exact ⟨G1, .refl e2, rv⟩
def mJS (O : Wo) (m : ME O) : MJ O := fun ρ s => (m ρ s).bind fun x s1 => match sqS (O.st s1) x with
  | some (k, xs) => .ok (xs, fun l => sqS l x = some (k, xs)) s1
  | none => .bad
theorem dj_seq {tg e : Expr} {te : TE} {me : ME O} (he : DE K O Wx X e te me) : DJ K O Wx X tg e (iSeq K te) (mJS O me) := by
  refine ⟨by have := he.hK; subst this; exact pi_seq he.pe, fun σ ρ H0 G H s Q F h => ?_⟩
  refine he.sn σ ρ H0 G H s _ F (pst_bind h fun dx s1 _ x G1 H1 t1 k1 r1 h1 => ?_)
  have F1 := F.tr t1 k1
  split at h1
  · rename_i k xs e1
    obtain ⟨a, vs, rfl, hq, rr⟩ := sqS_ok F1.sto F1.gh r1 e1
    refine ⟨a, rfl, ?_⟩
    have it := it_seqS (k := k) (xs := xs) r1
    have h2 := h1 _ G1 H1 (.refl t1.gh) k1 it
    cases k with
    | true => exact .inl ⟨⟨vs, hq⟩, h2⟩
    | false => exact .inr ⟨⟨vs, hq⟩, h2⟩
  · exact (show False from h1).elim
/-- enumerate of a list -/
theorem it_enumS {a : Addr} {d : D} {xs : List D} (r : Rep K G (.ref a) d) : ItOkS K (Ite K a) G (enumD xs) (fun l => sqS l d = some (true, xs)) := fun G1 H l e1 e2 q c i => by
  obtain ⟨a', vs, ea, h1, r⟩ := sqS_ok q e2 (r.mono e1) c
  cases ea
  refine ⟨fun d hd => ?_, fun hl => ⟨vs, h1, by rw [r.length]; simpa [enumD] using hl⟩⟩
  unfold enumD at hd
  rw [List.getElem?_map, Option.map_eq_some_iff] at hd
  obtain ⟨p, hp, rfl⟩ := hd
  rw [List.getElem?_zipIdx, Option.map_eq_some_iff] at hp
  obtain ⟨d0, hd0, rfl⟩ := hp
  obtain ⟨v, hv, rv⟩ := r.get' hd0
  refine ⟨⟨vs, v, h1, hv⟩, fun x H' y => ?_⟩
  obtain ⟨T, q, rfl, nT, rfl, f1⟩ := y
  have ep := f1 vs h1
  rw [hv] at ep
  cases ep
  have ei : ((0 + i : Nat) : Int) = (i : Int) := by omega
  obtain ⟨t, rr⟩ := new_pair (a := .int (i : Int)) e2 nT (.int (i : Int)) rv
  refine ⟨_, t, ?_⟩
  dsimp only
  rw [ei]
  exact rr
def mJE (O : Wo) (m : MA O) : MJ O := fun ρ s => (m ρ s).bind fun ds s1 => match ds with
  | [d] => (match sqS (O.st s1) d with
    | some (true, xs) => .ok (enumD xs, fun l => sqS l d = some (true, xs)) s1
    | _ => .bad)
  | _ => .bad
theorem dj_enum {e : Expr} {ta : TA} {ma : MA O} {p pos tpos : Pos} {elts : List Expr} {kk : Nat} (hm : X.mg "enumerate" = none) (ha : DA K O Wx X [e] ta ma) (hg : Gl X "enumerate" := by rfl) (hs : starEach [e] X.env = [(false, eval e X.env)] := by rfl) :
    DJ K O Wx X (.Tuple elts kk tpos) (.Call (.Name "enumerate" p) [e] [] pos) (iEnum K ta) (mJE O ma) := by
  refine ⟨by have := ha.hK; subst this; exact pi_enum hg hm ha.pe hs, fun σ ρ H0 G H s Q F h => ?_⟩
  refine ha.sn σ ρ H0 G H s _ F (pst_bind h fun ds s1 _ x G1 H1 t1 k1 r1 h1 => ?_)
  have F1 := F.tr t1 k1
  split at h1
  · rename_i d
    split at h1
    · rename_i xs c1
      cases r1 with
      | cons r1 r2 =>
        cases r2
        obtain ⟨a, vs, rfl, q1, p1⟩ := sqS_ok F1.sto F1.gh r1 c1
        exact ⟨_, _, rfl, q1, h1 _ G1 H1 (.refl t1.gh) k1 (it_enumS r1)⟩
    · exact (show False from h1).elim
  · exact (show False from h1).elim
open Classical in
noncomputable def forLS (S : Type) (st : S → List Ob) (c : List Ob → Prop) (f : D → Ev → Option Ev) (mb : Ev → S → RS S) : List D → Ev → S → RS S
  | [], ρ, s => if c (st s) then .nx ρ s else .bad
  | d :: ds, ρ, s => if c (st s) then (match f d ρ with
    | none => .bad
    | some ρ1 => match mb ρ1 s with
      | .nx ρ2 s2 => forLS S st c f mb ds ρ2 s2
      | .ct ρ2 s2 => forLS S st c f mb ds ρ2 s2
      | .bk ρ2 s2 => .nx ρ2 s2
      | r => r) else .bad
noncomputable def mForS (O : Wo) (mi : MJ O) (f : D → Ev → Option Ev) (mb : MS O) : MS O := fun ρ s => toS (mi ρ s) ρ fun ic s1 => forLS O.S O.st ic.2 f mb ic.1 ρ s1
open Classical in
noncomputable def lcLS (S : Type) (st : S → List Ob) (c : List Ob → Prop) (f : D → Ev → Option Ev) (mt : Ev → S → R S Bool) (me : Ev → S → R S D) (ρ : Ev) : List D → List D → S → R S (List D)
  | [], acc, s => if c (st s) then .ok acc s else .bad
  | d :: ds, acc, s => if c (st s) then (match f d ρ with
    | none => .bad
    | some ρ1 => match mt ρ1 s with
      | .ok true s1 => match me ρ1 s1 with
        | .ok y s2 => if acc.length < 100000 then lcLS S st c f mt me ρ ds (acc ++ [y]) s2 else .bad
        | _ => .bad
      | .ok false s1 => lcLS S st c f mt me ρ ds acc s1
      | _ => .bad) else .bad
noncomputable def mLcS (O : Wo) (mi : MJ O) (f : D → Ev → Option Ev) (mt : MT O) (me : ME O) (vs : List Nat) : MA O := fun ρ s => (mi ρ s).bind fun ic s1 => lcLS O.S O.st ic.2 f mt me (wipeE ρ vs) ic.1 [] s1
theorem ds_forS {tg iter : Expr} {body : List Stmt} {wi : TI} {g : TG} {tb : TS} {mi : MJ O} {f : D → Ev → Option Ev} {is : List Nat} {mb : MS O} {pos : Pos} (c : Cs K Wx X) (hi : DJ K O Wx X tg iter wi mi) (hg : DG K O X tg g f is) (hb : DB K O Wx X body tb mb)
    (hs : ∀ x, foldedSetIterable iter X.env x = pure x := by intro _; rfl) : DS K O Wx X (.For tg iter body [] pos) (tFor wi g tb) (mForS O mi f mb) := by
  refine ⟨ps_for c.po c.hc hi.pe hg.pe hb.pe hs, fun G0 H0 σ ρ G H s Dn F h => ?_⟩
  refine hi.sn σ ρ H0 G H s _ F.fm (pst_toS F h fun ic s1 _ J G1 H1 t1 k1 ok h1 => ?_)
  obtain ⟨items, cc⟩ := ic
  dsimp only at h1 ok
  refine ⟨fun i m σ' H' => ∃ ρ' G' s', m = (items.drop i).length ∧ Sm G1 G' ∧ Fs K O G0 H0 σ' ρ' G' H' s' ∧ PstS K O Wx G0 H0 G' (forLS O.S O.st cc f mb (items.drop i) ρ' s') Dn, ⟨items.length, ρ, G1, s1, by simp, Sm.refl _, F.go t1 k1, by simpa using h1⟩, ?_⟩
  rintro i m σ' H' ⟨ρ', G', s', rfl, e1, F', h'⟩
  have hcc : cc (O.st s') := by
    unfold forLS at h'
    split at h' <;> split at h' <;> first | assumption | exact (show False from h').elim
  obtain ⟨ok1, ok2⟩ := ok G' H' (O.st s') e1 F'.fm.gh F'.fm.sto hcc i
  cases hd : items.drop i with
  | nil =>
    rw [hd] at h'
    unfold forLS at h'
    rw [if_pos hcc] at h'
    exact .inl ⟨ok2 (by simpa using hd), h' σ' G' H' (Sm.refl _) F'⟩
  | cons d ds =>
    have hlt : i < items.length := by
      by_cases z : i < items.length
      · exact z
      · rw [List.drop_eq_nil_of_le (by omega)] at hd; cases hd
    have hi? : items[i]? = some d := by
      have := List.drop_eq_getElem_cons hlt
      rw [hd] at this
      injection this with a b
      rw [List.getElem?_eq_getElem hlt, a]
    have hds : items.drop (i + 1) = ds := by
      have := List.drop_eq_getElem_cons hlt
      rw [hd] at this
      injection this with a b
      exact b.symm
    obtain ⟨go, yl⟩ := ok1 d hi?
    rw [hd] at h'
    refine .inr ⟨go, fun σ2 H2 => ∃ ρ2 G2 s2, Sm G1 G2 ∧ Fs K O G0 H0 σ2 ρ2 G2 H2 s2 ∧ PstS K O Wx G0 H0 G2 (forLS O.S O.st cc f mb ds ρ2 s2) Dn, ?_, fun x H2 y => ?_⟩
    · rintro σ2 H2 ⟨ρ2, G2, s2, a1, a2, a3⟩
      exact ⟨ds.length, by simp, ρ2, G2, s2, by rw [hds], a1, a2, by rw [hds]; exact a3⟩
    · obtain ⟨G2, t2, r2⟩ := yl x H2 y
      have F2 := F'.go t2.up (F'.fm.keepW t2)
      unfold forLS at h'
      rw [if_pos hcc] at h'
      cases ef : f d ρ' with
      | none => rw [ef] at h'; exact (show False from h').elim
      | some ρ1 =>
        rw [ef] at h'
        refine hg.sn H0 σ' ρ' G2 H2 s' x d ρ1 _ F2.fm r2 ef fun σ3 F3 _ => ?_
        refine hb.sn G0 H0 σ3 ρ1 G2 H2 s' _ ⟨F3, F2.tr⟩ ?_
        have h2 := PstS.shift t2.gg h'
        revert h2
        dsimp only
        cases mb ρ1 s' with
        | nx ρ2 s2 => exact fun h2 σ4 G4 H4 a b => ⟨ρ2, G4, s2, (e1.trans t2.gg).trans a, b, h2.shift a⟩
        | ct ρ2 s2 => exact fun h2 σ4 G4 H4 a b => ⟨ρ2, G4, s2, (e1.trans t2.gg).trans a, b, h2.shift a⟩
        | bk ρ2 s2 => exact fun h2 => h2
        | rt d s => exact fun h2 => h2
        | rn ds s => exact fun h2 => h2
        | err c fs ρ s => exact fun h2 => h2
        | bad => exact fun h2 => h2
theorem snd_lcS {wi : TI} {mi : MJ O} {g : TG} {f : D → Ev → Option Ev} {is vs : List Nat} {tt : TT} {mt : MT O} {te : TE} {me : ME O} (hi : SndJ K O Wx wi mi) (hg : SndG K O g f is) (ht : SndT K O WF tt mt) (he : SndE K O WF te me) (hv : ∀ i ∈ is, i ∈ vs) :
    SndN K O Wx (tLc wi g tt te vs) (mLcS O mi f mt me vs) := by
  intro σ ρ H0 G H s Q F h
  refine hi σ ρ H0 G H s _ F ?_
  unfold mLcS at h
  revert h
  cases mi ρ s with
  | err c fs s1 => exact fun h => h
  | bad => exact fun h => h
  | ok ic s1 =>
    obtain ⟨items, cc⟩ := ic
    intro h J G1 H1 t1 k1 ok Da nD
    dsimp only at h ok
    rw [bind_ok] at h
    have F1 := F.tr t1 k1
    have nDH : H Da = none := t1.dm Da nD
    have nW : ¬ O.W Da := nW_of k1 nD
    refine ⟨fun i m H2 => ∃ G2 s2 accV acc, m = (items.drop i).length ∧ Tr O.W G1 H1 G2 H2 ∧ O.ok K s2 G2 H2 ∧ G2 Da = none ∧ H2 Da = some (.lst accV) ∧ Reps K G2 accV acc ∧ PstN K O Wx σ G H (lcLS O.S O.st cc f mt me (wipeE ρ vs) (items.drop i) acc s2) Q, ?_, ?_⟩
    · refine ⟨items.length, G1, s1, [], [], by simp, (Tr.refl F1.gh).mut nD (F1.gh.free nD), ?_, F1.gh.free nD, upd_same, .nil, by simpa using h⟩
      exact ok_off k1 (F1.gh.free nD) nW
    · rintro i m H2 ⟨G2, s2, accV, acc, rfl, t2, k2, g2, hD, ra, h2⟩
      have hcc : cc (O.st s2) := by
        unfold lcLS at h2
        split at h2 <;> split at h2 <;> first | assumption | exact (show False from h2).elim
      obtain ⟨ok1, ok2⟩ := ok G2 H2 (O.st s2) t2.gg t2.gh (O.sto _ _ _ _ k2) hcc i
      have F2 : Fm K O H0 σ ρ G2 H2 s2 := F1.tr t2 k2
      cases hd : items.drop i with
      | nil =>
        rw [hd] at h2
        unfold lcLS at h2
        rw [if_pos hcc] at h2
        exact .inl ⟨ok2 (by simpa using hd), h2 Da accV G2 H2 (t1.trans t2) k2 nDH g2 hD ra⟩
      | cons d ds =>
        have hlt : i < items.length := by
          by_cases z : i < items.length
          · exact z
          · rw [List.drop_eq_nil_of_le (by omega)] at hd; cases hd
        have hi? : items[i]? = some d := by
          have := List.drop_eq_getElem_cons hlt
          rw [hd] at this
          injection this with a b
          rw [List.getElem?_eq_getElem hlt, a]
        have hds : items.drop (i + 1) = ds := by
          have := List.drop_eq_getElem_cons hlt
          rw [hd] at this
          injection this with a b
          exact b.symm
        obtain ⟨go, yl⟩ := ok1 d hi?
        rw [hd] at h2
        refine .inr ⟨go, fun H3 => ∃ G3 s3 accV acc, Tr O.W G1 H1 G3 H3 ∧ O.ok K s3 G3 H3 ∧ G3 Da = none ∧ H3 Da = some (.lst accV) ∧ Reps K G3 accV acc ∧ PstN K O Wx σ G H (lcLS O.S O.st cc f mt me (wipeE ρ vs) ds acc s3) Q, ?_, fun x H3 y => ?_⟩
        · rintro H3 ⟨G3, s3, aV, a, b1, b2, b3, b4, b5, b6⟩
          exact ⟨ds.length, by simp, G3, s3, aV, a, by rw [hds], b1, b2, b3, b4, b5, by rw [hds]; exact b6⟩
        · obtain ⟨G3, t3, r3⟩ := yl x H3 y
          have F3 := F2.tr0 t3
          have F3w := F3.wipe vs
          have kpD : ∀ {Ga : Gh} {Ha : Hp} {Gb : Gh} {Hb : Hp}, Tr O.W Ga Ha Gb Hb → Ga Da = none → Ha Da = some (.lst accV) → Gb Da = none ∧ Hb Da = some (.lst accV) := fun {Ga Ha Gb Hb} t a b => by
            refine ⟨?_, t.kp _ _ nW (fun n => by rw [a]; simp) b⟩
            cases e : Gb Da with
            | none => rfl
            | some z => rcases t.gr Da (by rw [e]; simp) with q | q <;> simp_all
          obtain ⟨g3, hD3⟩ := kpD t3.up g2 hD
          unfold lcLS at h2
          rw [if_pos hcc] at h2
          cases ef : f d (wipeE ρ vs) with
          | none => rw [ef] at h2; exact (show False from h2).elim
          | some ρ1 =>
            rw [ef] at h2
            refine hg H0 (L2.wipe σ vs) (wipeE ρ vs) G3 H3 s2 x d ρ1 _ F3w r3 ef fun σ4 F4 w4 => ?_
            refine ⟨by rw [w4 vs hv]; exact snd_lc.wipe_idem σ vs, ?_⟩
            refine ht σ4 ρ1 H0 G3 H3 s2 _ F4 ?_
            revert h2
            dsimp only
            cases mt ρ1 s2 with
            | bad => exact fun h2 => h2
            | err c fs s' => exact fun h2 => (show False from h2).elim
            | ok b s5 =>
              intro h2 b' G5 H5 t5 k5 e5
              subst e5
              obtain ⟨g5, hD5⟩ := kpD t5 g3 hD3
              cases b' with
              | false =>
                rw [if_neg Bool.false_ne_true]
                exact ⟨G5, s5, accV, acc, (t2.trans t3.up).trans t5, k5, g5, hD5, (ra.mono t3.gg).mono t5.gg, h2⟩
              | true =>
                rw [if_pos rfl]
                have F5 := F4.tr t5 k5
                refine he σ4 ρ1 H0 G5 H5 s5 _ F5 ?_
                revert h2
                dsimp only
                cases me ρ1 s5 with
                | bad => exact fun h2 => h2
                | err c fs s' => exact fun h2 => (show False from h2).elim
                | ok dy s6 =>
                  intro h2 yv G6 H6 t6 k6 r6
                  obtain ⟨g6, hD6⟩ := kpD t6 g5 hD5
                  have ra6 : Reps K G6 accV acc := ((ra.mono t3.gg).mono t5.gg).mono t6.gg
                  dsimp only at h2
                  split at h2
                  · rename_i hz
                    refine ⟨accV, hD6, by rw [ra6.length]; exact sz5l hz, G6, s6, accV ++ [yv], acc ++ [dy], (((t2.trans t3.up).trans t5).trans t6).mut nD g6, ?_, g6, upd_same, ra6.append (.cons r6 .nil), h2⟩
                    exact ok_off k6 g6 nW
                  · exact (show False from h2).elim
/-- [e for tg in iter if ..] -/
theorem dlcS {elt tg iter : Expr} {ifs : List Expr} {scope : Scope} {own : List (Str × Nat)} {pos : Pos} {wi : TI} {g : TG} {tt : TT} {te : TE} {mi : MJ O} {f : D → Ev → Option Ev} {is : List Nat} {mt : MT O} {me : ME O} (c : Cs K Wx X) (hi : DJ K O Wx X tg iter wi mi) (ok : BlkOk X.N X.env.scope scope own)
    (hg : ∀ (s : Shared) (H : Hp) (C : Addr) (cl : List (Str × Addr)) (fp : List Addr), DG K O (X.blk s H scope (compEnvC scope cl C X.env) fp) tg g f is)
    (ht : ∀ (s : Shared) (H : Hp) (C : Addr) (cl : List (Str × Addr)) (fp : List Addr), Cn K WF (X.blk s H scope (compEnvC scope cl C X.env) fp) → DTs K O WF (X.blk s H scope (compEnvC scope cl C X.env) fp) ifs tt mt)
    (he : ∀ (s : Shared) (H : Hp) (C : Addr) (cl : List (Str × Addr)) (fp : List Addr), Cn K WF (X.blk s H scope (compEnvC scope cl C X.env) fp) → DE K O WF (X.blk s H scope (compEnvC scope cl C X.env) fp) elt te me)
    (hv : ∀ i ∈ is, i ∈ own.map (·.2) := by decide) (hs : ∀ x, foldedSetIterable iter X.env x = pure x := by intro _; rfl) : DLc K O Wx X elt tg iter ifs scope pos (tLc wi g tt te (own.map (·.2))) (mLcS O mi f mt me (own.map (·.2))) := by
  have cn : ∀ (s : Shared) (H : Hp) (C : Addr) (cl : List (Str × Addr)) (fp : List Addr), Cn K WF (X.blk s H scope (compEnvC scope cl C X.env) fp) := fun s H C cl fp => ⟨c.cn.hK, takes0⟩
  refine ⟨⟨c.cn.hK, c.cn.tk, pe_lc c.hc c.nd hi.pe ok (fun s H C cl fp => (hg s H C cl fp).pe) (fun s H C cl fp => (ht s H C cl fp (cn ..)).pe) (fun s H C cl fp => (he s H C cl fp (cn ..)).pe) hs, ?_⟩,
    fun i y py spos hy hyl hsw => ps_setLc c.hc c.nd hy hyl hsw hi.pe ok (fun s H C cl fp => (hg s H C cl fp).pe) (fun s H C cl fp => (ht s H C cl fp (cn ..)).pe) (fun s H C cl fp => (he s H C cl fp (cn ..)).pe) hs⟩
  exact snd_lcS hi.sn (hg X.s_0 (fun _ => none) 0 [] []).sn (ht X.s_0 (fun _ => none) 0 [] [] (cn ..)).sn (he X.s_0 (fun _ => none) 0 [] [] (cn ..)).sn hv
end
end Mr
namespace Mr
open PySem PySem.Spec PyProof.Rows L2 RZ
section
variable {K : PySem.W.Frag} {O : Wo} {Wx : WX} {X : Cx} {G0 : Gh} {H0 : Hp} {G : Gh} {H : Hp} {G' : Gh} {H' : Hp} {G1 : Gh} {H1 : Hp} {σ : L2.St} {ρ : Ev} {s s1 : O.S} {l : List Ob}
/-- what is known of a, once it is locked, and once it is free again -/
def setG (G : Gh) (a : Addr) (g : GO) : Gh := fun b => if b = a then some g else G b
theorem setG_same {a : Addr} {g : GO} : setG G a g a = some g := by unfold setG; rw [if_pos rfl]
theorem setG_ne {a b : Addr} {g : GO} (h : b ≠ a) : setG G a g b = G b := by unfold setG; rw [if_neg h]
def isM (n : Nat) : GO → Prop
  | .mk m => m = n
  | .mkf m _ => m = n
  | _ => False
theorem mkk_setG {a b : Addr} {n m : Nat} {g g' : GO} (hg : G a = some g) (h1 : isM n g) (h2 : isM n g') : Mkk (setG G a g') b m ↔ Mkk G b m := by
  by_cases hb : b = a
  · subst hb
    unfold Mkk
    rw [setG_same, hg]
    cases g <;> cases g' <;> simp_all [isM]
  · unfold Mkk
    rw [setG_ne hb]
theorem ne_fro {a b : Addr} {n : Nat} {g : GO} {o : HO} (hg : G a = some g) (h1 : isM n g) (h : G b = some (.fro o)) : b ≠ a := fun z => by
  subst z
  rw [hg] at h
  cases h
  exact h1
theorem setG_fr {a b : Addr} {n : Nat} {g g' : GO} {o : HO} (hg : G a = some g) (h1 : isM n g) (h : fr G b = some o) : fr (setG G a g') b = some o := by
  rw [fr_some] at h ⊢
  rw [setG_ne (ne_fro hg h1 h)]
  exact h
theorem setG_sqL {a b : Addr} {n : Nat} {g g' : GO} {xs : List V} (hg : G a = some g) (h1 : isM n g) (h : SqL K (fr G) b xs) : SqL K (fr (setG G a g')) b xs := by
  rcases h with (h | ⟨o, h⟩) | h
  · exact .inl (.inl (setG_fr hg h1 h))
  · exact .inl (.inr ⟨o, setG_fr hg h1 h⟩)
  · exact .inr h
theorem setG_sqT {a b : Addr} {n : Nat} {g g' : GO} {xs : List V} (hg : G a = some g) (h1 : isM n g) (h : SqT K (fr G) b xs) : SqT K (fr (setG G a g')) b xs := by
  rcases h with (h | ⟨o, h⟩) | h
  · exact .inl (.inl (setG_fr hg h1 h))
  · exact .inl (.inr ⟨o, setG_fr hg h1 h⟩)
  · exact .inr h
theorem setG_sqC {a b : Addr} {n : Nat} {g g' : GO} {xs : List V} (hg : G a = some g) (h1 : isM n g) (h : SqC K (fr G) b xs) : SqC K (fr (setG G a g')) b xs := h.elim (fun h => .inl (setG_fr hg h1 h)) (fun h => .inr ⟨setG_sqT hg h1 h.1, h.2⟩)
mutual
theorem Rep.setG {a : Addr} {n : Nat} {g g' : GO} (hg : G a = some g) (h1 : isM n g) (h2 : isM n g') : ∀ {v : V} {d : D}, Rep K G v d → Rep K (Mr.setG G a g') v d
  | _, _, .non => .non
  | _, _, .bl b => .bl b
  | _, _, .int i => .int i
  | _, _, .str x => .str x
  | _, _, .lst h r => .lst (setG_sqL hg h1 h) (Reps.setG hg h1 h2 r)
  | _, _, .tup h r => .tup (setG_sqC hg h1 h) (Reps.setG hg h1 h2 r)
  | _, _, .ref a => .ref a
  | _, _, .ty n => .ty n
  | _, _, .ins (a := b) h r => .ins (by rw [setG_ne (ne_fro hg h1 h)]; exact h) (RepF.setG hg h1 h2 r)
  | _, _, .dct (a := b) h r => .dct (by rw [setG_ne (ne_fro hg h1 h)]; exact h) (RepK.setG hg h1 h2 r)
  | _, _, .obj h => .obj ((mkk_setG hg h1 h2).mpr h)
theorem Reps.setG {a : Addr} {n : Nat} {g g' : GO} (hg : G a = some g) (h1 : isM n g) (h2 : isM n g') : ∀ {v : List V} {d : List D}, Reps K G v d → Reps K (Mr.setG G a g') v d
  | _, _, .nil => .nil
  | _, _, .cons h r => .cons (Rep.setG hg h1 h2 h) (Reps.setG hg h1 h2 r)
theorem RepF.setG {a : Addr} {n : Nat} {g g' : GO} (hg : G a = some g) (h1 : isM n g) (h2 : isM n g') : ∀ {v : List (Str × V)} {d : List (Str × D)}, RepF K G v d → RepF K (Mr.setG G a g') v d
  | _, _, .nil => .nil
  | _, _, .cons h r => .cons (Rep.setG hg h1 h2 h) (RepF.setG hg h1 h2 r)
theorem RepK.setG {a : Addr} {n : Nat} {g g' : GO} (hg : G a = some g) (h1 : isM n g) (h2 : isM n g') : ∀ {v : List (Key × V)} {d : List (Key × D)}, RepK K G v d → RepK K (Mr.setG G a g') v d
  | _, _, .nil => .nil
  | _, _, .cons h r => .cons (Rep.setG hg h1 h2 h) (RepK.setG hg h1 h2 r)
end
theorem RepT.setG {a : Addr} {n : Nat} {g g' : GO} (hg : G a = some g) (h1 : isM n g) (h2 : isM n g') : ∀ {v : List (List Key × V)} {d : List (List Key × D)}, RepT K G v d → RepT K (Mr.setG G a g') v d
  | _, _, .nil => .nil
  | _, _, .cons h r => .cons (Rep.setG hg h1 h2 h) (RepT.setG hg h1 h2 r)
theorem KeyC.setG {a : Addr} {n : Nat} {g g' : GO} (hg : G a = some g) (h1 : isM n g) {x : MX.XK} (h : KeyC K G x) : KeyC K (Mr.setG G a g') x := by
  cases x with
  | inl i => trivial
  | inr p => exact setG_sqC hg h1 h
theorem RepX.setG {a : Addr} {n : Nat} {g g' : GO} (hg : G a = some g) (h1 : isM n g) (h2 : isM n g') : ∀ {v : List (MX.XK × V)} {d : List (MX.MK × D)}, RepX K G v d → RepX K (Mr.setG G a g') v d
  | _, _, .nil => .nil
  | _, _, .cons k h r => .cons (k.setG hg h1) (Rep.setG hg h1 h2 h) (RepX.setG hg h1 h2 r)
theorem ObOk.setG {a b : Addr} {n : Nat} {g g' : GO} {o : Ob} (hg : G a = some g) (h1 : isM n g) (h2 : isM n g') (h : H' b = H b) (q : ObOk K G H b o) : ObOk K (Mr.setG G a g') H' b o := by
  cases o with
  | lst xs => obtain ⟨vs, e1, e2⟩ := q; exact ⟨vs, h.trans e1, e2.setG hg h1 h2⟩
  | dct xs => obtain ⟨vs, e1, e2⟩ := q; exact ⟨vs, h.trans e1, e2.setG hg h1 h2⟩
  | dlk xs => obtain ⟨od, vs, e1, e2⟩ := q; exact ⟨od, vs, h.trans e1, e2.setG hg h1 h2⟩
  | ins C xs => obtain ⟨dx, vs, e1, e2⟩ := q; exact ⟨dx, vs, h.trans e1, e2.setG hg h1 h2⟩
  | dcT xs => obtain ⟨vs, e1, e2⟩ := q; exact ⟨vs, h.trans e1, e2.setG hg h1 h2⟩
  | dcX hf xs => obtain ⟨vs, e1, e2⟩ := q; exact ⟨vs, h.trans e1, e2.setG hg h1 h2⟩
theorem mkk_of {a : Addr} {n m : Nat} {g : GO} (hg : G a = some g) (h1 : isM n g) (h : Mkk G a m) : m = n := by
  rcases h with h | ⟨u, h⟩ <;> (rw [hg] at h; cases h; exact h1)
theorem Mkd.ne {a b : Addr} {m : Nat} {g' : GO} {o : Ob} (hb : b ≠ a) (h : Mkd G b m o) : Mkd (Mr.setG G a g') b m o := by
  cases o with
  | dlk kvs => obtain ⟨u, h⟩ := h; exact ⟨u, by rw [setG_ne hb]; exact h⟩
  | _ => exact (setG_ne hb).trans h
theorem StOk.setG (q : StOk K G H l) {a : Addr} {n : Nat} {g g' : GO} {o : HO} {ob : Ob} (hg : G a = some g) (h1 : isM n g) (h2 : isM n g') (hd : Mkd (Mr.setG G a g') a n ob) (hb : ObOk K (Mr.setG G a g') (upd H a o) a ob) : StOk K (Mr.setG G a g') (upd H a o) (l.set n ob) where
  at_ := fun m o' e => by
    by_cases hm : n = m
    · subst hm
      have hl : n < l.length := by
        have := (List.getElem?_eq_some_iff.mp e).1
        rw [List.length_set] at this
        exact this
      rw [List.getElem?_set_self hl] at e
      cases e
      exact ⟨a, hd, hb⟩
    · rw [List.getElem?_set_ne hm] at e
      obtain ⟨b, k1, k2⟩ := q.at_ m o' e
      have hne : b ≠ a := fun z => by
        subst z
        exact hm (mkk_of hg h1 k1.mk).symm
      exact ⟨b, k1.ne hne, k2.setG hg h1 h2 (upd_ne hne)⟩
  lt := fun b m e => by rw [List.length_set]; exact q.lt b m ((mkk_setG hg h1 h2).mp e)
  inj := fun b c m e1 e2 => q.inj b c m ((mkk_setG hg h1 h2).mp e1) ((mkk_setG hg h1 h2).mp e2)
theorem Tr.setG {W : Addr → Prop} (t : Tr W G0 H0 G H) {a : Addr} {n : Nat} {g g' : GO} {o : HO} (hg : G a = some g) (h1 : isM n g) (h2 : isM n g') (h0 : ∀ m u, G0 a ≠ some (.mkf m u)) (h3 : ∀ u v, H0 a ≠ some (.frz u v)) (hs : Sh1 (upd H a o) a g') : Tr W G0 H0 (Mr.setG G a g') (upd H a o) := by
  have only : ∀ g0, G0 a = some g0 → g0 = .mk n := fun g0 e => by
    have le := t.gg a g0 e
    cases g0 with
    | fro u =>
      have le : G a = _ := le
      rw [hg] at le
      cases le
      exact h1.elim
    | mk m => rw [mkk_of hg h1 le]
    | mkf m u => exact absurd e (h0 m u)
  refine ⟨fun b g0 e => ?_, fun b g0 e => ?_, fun b e => ?_, fun b u w m e => ?_, fun b e => ?_, fun b u v e => ?_⟩
  · by_cases hb : b = a
    · subst hb
      have := only g0 e
      subst this
      show Mkk (Mr.setG G b g') b n
      rw [mkk_setG hg h1 h2]
      exact t.gg b _ e
    · have le := t.gg b g0 e
      cases g0 with
      | fro u => exact (setG_ne hb).trans le
      | mk m => exact (mkk_setG hg h1 h2).mpr le
      | mkf m u => exact (setG_ne hb).trans le
  · by_cases hb : b = a
    · subst hb
      rw [setG_same] at e
      cases e
      exact hs
    · rw [setG_ne hb] at e
      exact (t.gh b g0 e).cong (upd_ne hb)
  · by_cases hb : b = a
    · subst hb
      exact t.gr b (by rw [hg]; simp)
    · rw [setG_ne hb] at e
      exact t.gr b e
  · have hb : b ≠ a := fun z => by
      subst z
      rcases t.gr b (by rw [hg]; simp) with q | q
      · cases e0 : G0 b with
        | none => exact q e0
        | some g0 =>
          rw [only g0 e0] at e0
          exact m n e0
      · rw [q] at e; cases e
    rw [upd_ne hb]
    exact t.kp b u w m e
  · by_cases hb : b = a
    · subst hb; rw [upd_same] at e; cases e
    · rw [upd_ne hb] at e; exact t.dm b e
  · have hb : b ≠ a := fun z => by subst z; exact h3 u v e
    rw [upd_ne hb]
    exact t.fz b u v e
theorem Fm.setG (F : Fm K O H0 σ ρ G H s) {a : Addr} {n : Nat} {g g' : GO} {o : HO} {ob : Ob} (hg : G a = some g) (h1 : isM n g) (h2 : isM n g') (hs : Sh1 (upd H a o) a g') (hd : Mkd (Mr.setG G a g') a n ob) (hb : ObOk K (Mr.setG G a g') (upd H a o) a ob) :
    Fm K O H0 σ ρ (Mr.setG G a g') (upd H a o) (stPut O s n ob) := by
  have hm : Mkk G a n := by
    cases g with
    | fro u => exact h1.elim
    | mk m => cases h1; exact .inl hg
    | mkf m u => cases h1; exact .inr ⟨u, hg⟩
  have nW : ¬ O.W a := notW_mk F hm
  have fa : ∀ {p : Addr}, G p = none → p ≠ a := fun {p} e z => by subst z; exact hm.none e
  refine ⟨fun b g0 e => ?_, fun w hw => ?_, O.stu K s G H _ _ _ F.ok (fun w hw => upd_ne (fun z => by subst z; exact nW hw)) (F.sto.setG hg h1 h2 hd hb), F.len, fun i o' x q1 q2 => ?_, F.ds⟩
  · by_cases hba : b = a
    · subst hba
      rw [setG_same] at e
      cases e
      exact hs
    · rw [setG_ne hba] at e
      exact (F.gh b g0 e).cong (upd_ne hba)
  · rw [setG_ne (fun z => by subst z; exact nW hw)]
    exact F.wg w hw
  · have q := F.sl i o' x q1 q2
    cases x with
    | no => trivial
    | sh d => obtain ⟨v, a1, b1⟩ := q; exact ⟨v, a1, b1.setG hg h1 h2⟩
    | own xs => obtain ⟨p, vs, a1, b1, c, d, e, f⟩ := q; exact ⟨p, vs, a1, by rw [upd_ne (fa d)]; exact b1, c.setG hg h1 h2, by rw [setG_ne (fa d)]; exact d, e, f⟩
    | ownD xs => obtain ⟨p, vs, a1, b1, c, d, e, f⟩ := q; exact ⟨p, vs, a1, by rw [upd_ne (fa d)]; exact b1, c.setG hg h1 h2, by rw [setG_ne (fa d)]; exact d, e, f⟩
    | ownI C xs => obtain ⟨p, dx, vs, a1, b1, c, d, e, f⟩ := q; exact ⟨p, dx, vs, a1, by rw [upd_ne (fa d)]; exact b1, c.setG hg h1 h2, by rw [setG_ne (fa d)]; exact d, e, f⟩
    | exc c fs =>
      obtain ⟨x, dd, xs, e, r, b1, c1, d⟩ := q
      refine ⟨x, dd, xs, e, r, b1.kp (fun dd _ b1 => ?_), c1.setG hg h1 h2, d⟩
      have ne : dd ≠ a := fun z => by
        subst z
        have := F.gh dd g hg
        cases g with
        | fro u => exact h1.elim
        | mk m => obtain ⟨u, k1, k2⟩ := this; rw [b1] at k1; cases k1; cases k2
        | mkf m u => obtain ⟨k1, k2⟩ := this; rw [b1] at k1; cases k1; cases k2
      rw [upd_ne ne]; exact b1
def lockN (O : Wo) (n : Nat) (s : O.S) : Option O.S := match (O.st s)[n]? with
  | some (.dct kvs) => some (stPut O s n (.dlk kvs))
  | _ => none
def freeN (O : Wo) (n : Nat) (s : O.S) : Option O.S := match (O.st s)[n]? with
  | some (.dlk kvs) => some (stPut O s n (.dct kvs))
  | _ => none
def freeS (O : Wo) (n : Nat) : RS O.S → RS O.S
  | .nx ρ s => match freeN O n s with
    | some s1 => .nx ρ s1
    | none => .bad
  | .bk ρ s => match freeN O n s with
    | some s1 => .bk ρ s1
    | none => .bad
  | .ct ρ s => match freeN O n s with
    | some s1 => .ct ρ s1
    | none => .bad
  | .rt d s => match freeN O n s with
    | some s1 => .rt d s1
    | none => .bad
  | .rn ds s => match freeN O n s with
    | some s1 => .rn ds s1
    | none => .bad
  | _ => .bad
/-- mo tells which dict -/
def mLock (O : Wo) (mo : ME O) (m : MS O) : MS O := fun ρ s => match mo ρ s with
  | .ok (.obj n) _ => (match lockN O n s with
    | some s1 => freeS O n (m ρ s1)
    | none => m ρ s)
  | _ => m ρ s
theorem Le.ne {a b : Addr} {g g' : GO} (hb : b ≠ a) (h : Le G b g) : Le (Mr.setG G a g') b g := by
  cases g with
  | fro u => exact (setG_ne hb).trans h
  | mk m =>
    rcases h with h | ⟨u, h⟩
    · exact .inl ((setG_ne hb).trans h)
    · exact .inr ⟨u, (setG_ne hb).trans h⟩
  | mkf m u => exact (setG_ne hb).trans h
theorem Sm.free2 {a : Addr} {n : Nat} {u : HO} (hg : G a = some (.mk n)) (e : Sm (Mr.setG G a (.mkf n u)) G') : Sm G (Mr.setG G' a (.mk n)) := fun b g0 h => by
  by_cases hb : b = a
  · subst hb
    rw [hg] at h
    cases h
    exact .inl setG_same
  · exact (e b g0 ((setG_ne hb).trans h)).ne hb
theorem ok_setG (k : O.ok K s G H) {a : Addr} {n : Nat} {g g' : GO} {o : HO} {ob : Ob} (nW : ¬ O.W a) (hg : G a = some g) (h1 : isM n g) (h2 : isM n g') (hd : Mkd (Mr.setG G a g') a n ob) (hb : ObOk K (Mr.setG G a g') (upd H a o) a ob) : O.ok K (stPut O s n ob) (Mr.setG G a g') (upd H a o) :=
  O.stu K s G H _ _ _ k (fun w hw => upd_ne (fun z => by subst z; exact nW hw)) ((O.sto K s G H k).setG hg h1 h2 hd hb)
theorem lock_step (F : Fs K O G0 H0 σ ρ G H s) {n : Nat} {kvs : List (Key × D)} (e : (O.st s)[n]? = some (.dct kvs)) : ∃ a vs, H a = some (.dK vs) ∧ G a = some (.mk n) ∧ ¬ O.W a ∧ (∀ m u, G0 a ≠ some (.mkf m u)) ∧ (∀ u v, H0 a ≠ some (.frz u v)) ∧
    ∀ od, Fs K O G0 H0 σ ρ (Mr.setG G a (.mkf n (.frz od (.dK vs)))) (upd H a (.frz od (.dK vs))) (stPut O s n (.dlk kvs)) := by
  obtain ⟨a, hg, vs, hp, r⟩ := F.fm.sto.at_ n _ e
  have hg : G a = some (.mk n) := hg
  have h0 : ∀ m u, G0 a ≠ some (.mkf m u) := fun m u z => by
    have le : G a = _ := F.tr.gg a _ z
    rw [hg] at le
    cases le
  have h3 : ∀ u v, H0 a ≠ some (.frz u v) := fun u v z => by
    have := F.tr.fz a u v z
    rw [hp] at this
    cases this
  refine ⟨a, vs, hp, hg, notW_mk F.fm (.inl hg), h0, h3, fun od => ⟨F.fm.setG hg rfl rfl ⟨upd_same, rfl⟩ ⟨_, setG_same⟩ ⟨od, vs, upd_same, by exact RepK.setG (g' := .mkf n (.frz od (.dK vs))) hg rfl rfl r⟩, F.tr.setG hg rfl rfl h0 h3 ⟨upd_same, rfl⟩⟩⟩
/-- what the free dict is -/
theorem free_ob (q : StOk K G H l) {a : Addr} {n : Nat} {od : Obj} {vs : List (Key × V)} (gh : Sh G H) (hg : G a = some (.mkf n (.frz od (.dK vs)))) {kvs : List (Key × D)} (e : l[n]? = some (.dlk kvs)) :
    H a = some (.frz od (.dK vs)) ∧ RepK K G vs kvs := by
  obtain ⟨b, hb, od', vs', hp, r⟩ := q.at_ n _ e
  have hab := q.inj a b n (.inr ⟨_, hg⟩) hb.mk
  subst hab
  have hH := (gh a _ hg).1
  refine ⟨hH, ?_⟩
  rw [hH] at hp
  cases hp
  exact r
theorem freeN_eq {n : Nat} {s s2 : O.S} (e : freeN O n s = some s2) : ∃ kvs, (O.st s)[n]? = some (.dlk kvs) ∧ s2 = stPut O s n (.dct kvs) := by
  unfold freeN at e
  split at e
  · cases e; exact ⟨_, by assumption, rfl⟩
  · cases e
theorem free_step (F : Fs K O G0 H0 σ ρ G H s) {a : Addr} {n : Nat} {od : Obj} {vs : List (Key × V)} {s2 : O.S} (hg : G a = some (.mkf n (.frz od (.dK vs)))) (h0 : ∀ m u, G0 a ≠ some (.mkf m u)) (h3 : ∀ u v, H0 a ≠ some (.frz u v)) (e : freeN O n s = some s2) :
    H a = some (.frz od (.dK vs)) ∧ Fs K O G0 H0 σ ρ (Mr.setG G a (.mk n)) (upd H a (.dK vs)) s2 := by
  obtain ⟨kvs, e1, rfl⟩ := freeN_eq e
  obtain ⟨hH, r⟩ := free_ob F.fm.sto F.fm.gh hg e1
  exact ⟨hH, F.fm.setG hg rfl rfl ⟨_, upd_same, rfl⟩ setG_same ⟨vs, upd_same, by exact RepK.setG (g' := .mk n) hg rfl rfl r⟩, F.tr.setG hg rfl rfl h0 h3 ⟨_, upd_same, rfl⟩⟩
theorem ds_lock {st : Stmt} {t : TS} {m : MS O} (mo : ME O) (hd : DS K O Wx X st t m) : DS K O Wx X st (fun Dn σ H => t Dn σ H ∨ tLock t Dn σ H) (mLock O mo m) := by
  refine ⟨ps_alt hd.pe (ps_lock hd.pe), fun G0 H0 σ ρ G H s Dn F h => ?_⟩
  unfold mLock at h
  split at h
  · rename_i n s' _
    split at h
    · rename_i s1 el
      have e : ∃ kvs, (O.st s)[n]? = some (.dct kvs) ∧ s1 = stPut O s n (.dlk kvs) := by
        unfold lockN at el
        split at el
        · cases el; exact ⟨_, by assumption, rfl⟩
        · cases el
      obtain ⟨kvs, e1, rfl⟩ := e
      obtain ⟨a, vs, hp, hg, nW, h0, h3, F1⟩ := lock_step F e1
      refine .inr ⟨a, .dK vs, hp, trivial, fun od => ?_⟩
      refine hd.sn G0 H0 σ ρ _ _ _ _ (F1 od) ?_
      have kg : ∀ {G' : Gh}, Sm (Mr.setG G a (.mkf n (.frz od (.dK vs)))) G' → G' a = some (.mkf n (.frz od (.dK vs))) := fun e => e a _ setG_same
      revert h
      cases m ρ (stPut O s n (.dlk kvs)) with
      | nx ρ1 s1 =>
        intro h σ' G' H' e F'
        dsimp only [freeS] at h
        split at h
        · rename_i s2 e2
          obtain ⟨hH, F2⟩ := free_step F' (kg e) h0 h3 e2
          exact ⟨hH, h σ' _ _ (e.free2 hg) F2⟩
        · exact (show False from h).elim
      | bk ρ1 s1 =>
        intro h σ' G' H' e F'
        dsimp only [freeS] at h
        split at h
        · rename_i s2 e2
          obtain ⟨hH, F2⟩ := free_step F' (kg e) h0 h3 e2
          exact ⟨hH, h σ' _ _ (e.free2 hg) F2⟩
        · exact (show False from h).elim
      | ct ρ1 s1 =>
        intro h σ' G' H' e F'
        dsimp only [freeS] at h
        split at h
        · rename_i s2 e2
          obtain ⟨hH, F2⟩ := free_step F' (kg e) h0 h3 e2
          exact ⟨hH, h σ' _ _ (e.free2 hg) F2⟩
        · exact (show False from h).elim
      | rt d s1 =>
        intro h v G' H' e t' k' r'
        dsimp only [freeS] at h
        split at h
        · rename_i s2 e2
          obtain ⟨kvs', e3, rfl⟩ := freeN_eq e2
          obtain ⟨hH, r⟩ := free_ob (O.sto _ _ _ _ k') t'.gh (kg e) e3
          exact ⟨hH, h v _ _ (e.free2 hg) (t'.setG (kg e) rfl rfl h0 h3 ⟨_, upd_same, rfl⟩) (ok_setG k' nW (kg e) rfl rfl setG_same ⟨vs, upd_same, by exact RepK.setG (g' := .mk n) (kg e) rfl rfl r⟩) (Rep.setG (g' := .mk n) (kg e) rfl rfl r')⟩
        · exact (show False from h).elim
      | rn ds s1 =>
        intro h p ws G' H' e t' k' n0 gp hpp r'
        dsimp only [freeS] at h
        split at h
        · rename_i s2 e2
          obtain ⟨kvs', e3, rfl⟩ := freeN_eq e2
          obtain ⟨hH, r⟩ := free_ob (O.sto _ _ _ _ k') t'.gh (kg e) e3
          have hne : p ≠ a := fun z => by subst z; rw [kg e] at gp; cases gp
          exact ⟨hH, h p ws _ _ (e.free2 hg) (t'.setG (kg e) rfl rfl h0 h3 ⟨_, upd_same, rfl⟩) (ok_setG k' nW (kg e) rfl rfl setG_same ⟨vs, upd_same, by exact RepK.setG (g' := .mk n) (kg e) rfl rfl r⟩) n0 (by rw [setG_ne hne]; exact gp) (by rw [upd_ne hne]; exact hpp) (Reps.setG (g' := .mk n) (kg e) rfl rfl r')⟩
        · exact (show False from h).elim
      | err c fs ρ1 s1 => exact fun h => (show False from h).elim
      | bad => exact fun h => (show False from h).elim
    · exact .inl (hd.sn G0 H0 σ ρ G H s Dn F h)
  · exact .inl (hd.sn G0 H0 σ ρ G H s Dn F h)
inductive Wk where
  | ks | vs | its
def keyD : Key → D
  | .inl i => .int i
  | .inr x => .str x
theorem rep_keyD {k : Key} : Rep K G (kV k) (keyD k) := by
  cases k
  · exact .int _
  · exact .str _
def wkD (w : Wk) (kvs : List (Key × D)) : List D := kvs.map fun kv => match w with
  | .ks => keyD kv.1
  | .vs => kv.2
  | .its => .tup [keyD kv.1, kv.2]
def lkS (l : List Ob) : D → Option (List (Key × D))
  | .dct kvs => some kvs
  | .obj n => match l[n]? with
    | some (.dlk xs) => some xs
    | _ => none
  | _ => none
theorem lkS_ok (q : StOk K G H l) (g : Sh G H) {v : V} {d : D} {xs : List (Key × D)} (r : Rep K G v d) (e : lkS l d = some xs) : ∃ a od vs, v = .ref a ∧ (∀ G1 H1, Sm G G1 → Sh G1 H1 → H1 a = some (.frz od (.dK vs))) ∧ RepK K G vs xs := by
  cases r with
  | dct hs r => cases e; exact ⟨_, _, _, rfl, fun G1 H1 e1 e2 => e2 _ _ (e1 _ _ hs), r⟩
  | @obj a n h =>
    unfold lkS at e
    dsimp only at e
    split at e
    · rename_i xs' e1
      cases e
      obtain ⟨b, e2, ⟨u, hu⟩, od, vs, e3, r⟩ := q.get (.obj h) e1
      cases e2
      have hH := (g _ _ hu).1
      rw [e3] at hH
      cases hH
      exact ⟨_, od, vs, rfl, fun G1 H1 e1 e2 => (e2 _ _ (e1 _ _ hu)).1, r⟩
    · cases e
  | _ => cases e
theorem RepK.at' : ∀ {vs : List (Key × V)} {ds : List (Key × D)} {i : Nat} {k : Key} {d : D}, RepK K G vs ds → ds[i]? = some (k, d) → ∃ v, vs[i]? = some (k, v) ∧ Rep K G v d
  | _, _, i, k, d, .nil, h => by simp at h
  | _, _, 0, k, d, .cons h r, e => by simp at e; obtain ⟨rfl, rfl⟩ := e; exact ⟨_, rfl, h⟩
  | _, _, i + 1, k, d, .cons h r, e => by
    obtain ⟨v, h1, h2⟩ := RepK.at' (i := i) r (by simpa using e)
    exact ⟨v, by simpa using h1, h2⟩
theorem it_keys {a : Addr} {od : Obj} {vs : List (Key × V)} {kvs : List (Key × D)} (hH : ∀ G1 H1, Sm G G1 → Sh G1 H1 → H1 a = some (.frz od (.dK vs))) (r : RepK K G vs kvs) : ItOk K (Itk a od vs) G (wkD .ks kvs) := fun G1 H e1 e2 i => by
  refine ⟨fun d hd => ?_, fun hl => ⟨hH G1 H e1 e2, by rw [r.length]; simpa [wkD] using hl⟩⟩
  unfold wkD at hd
  rw [List.getElem?_map, Option.map_eq_some_iff] at hd
  obtain ⟨⟨k, d0⟩, hk, rfl⟩ := hd
  obtain ⟨v, hv, rv⟩ := r.at' hk
  refine ⟨⟨hH G1 H e1 e2, (List.getElem?_eq_some_iff.mp hv).1⟩, fun x H' y => ?_⟩
  obtain ⟨rfl, k', v', e3, rfl⟩ := y
  rw [hv] at e3
  cases e3
  exact ⟨G1, .refl e2, rep_keyD⟩
theorem it_vals {a : Addr} {od : Obj} {vs : List (Key × V)} {kvs : List (Key × D)} (hH : ∀ G1 H1, Sm G G1 → Sh G1 H1 → H1 a = some (.frz od (.dK vs))) (r : RepK K G vs kvs) : ItOk K (Itd a od vs) G (wkD .vs kvs) := fun G1 H e1 e2 i => by
  refine ⟨fun d hd => ?_, fun hl => ⟨hH G1 H e1 e2, by rw [r.length]; simpa [wkD] using hl⟩⟩
  unfold wkD at hd
  rw [List.getElem?_map, Option.map_eq_some_iff] at hd
  obtain ⟨⟨k, d0⟩, hk, rfl⟩ := hd
  obtain ⟨v, hv, rv⟩ := r.at' hk
  refine ⟨⟨hH G1 H e1 e2, (List.getElem?_eq_some_iff.mp hv).1⟩, fun x H' y => ?_⟩
  obtain ⟨rfl, k', e3⟩ := y
  rw [hv] at e3
  cases e3
  exact ⟨G1, .refl e2, rv.mono e1⟩
def mItD (O : Wo) (w : Wk) (m : ME O) : MI O := fun ρ s => (m ρ s).bind fun x s1 => R.lift ((lkS (O.st s1) x).map (wkD w)) s1
theorem di_keys {tg e : Expr} {te : TE} {me : ME O} (he : DE K O Wx X e te me) : DI K O Wx X tg e (iKeys te) (mItD O .ks me) := by
  refine ⟨pi_keys he.pe, fun σ ρ H0 G H s Q F h => ?_⟩
  refine he.sn σ ρ H0 G H s _ F (pst_bind h fun dx s1 _ x G1 H1 t1 k1 r1 h1 => ?_)
  have F1 := F.tr t1 k1
  cases e1 : lkS (O.st s1) dx with
  | none => rw [e1] at h1; exact (show False from h1).elim
  | some kvs =>
    rw [e1] at h1
    obtain ⟨a, od, vs, rfl, hH, r⟩ := lkS_ok F1.sto F1.gh r1 e1
    exact ⟨a, od, rfl, .inl ⟨vs, hH _ _ (Sm.refl _) F1.gh, h1 _ G1 H1 (.refl t1.gh) k1 (it_keys hH r)⟩⟩
theorem di_values {tg e : Expr} {te : TE} {me : ME O} {apos cpos : Pos} (he : DE K O Wx X e te me) (hbase : attributeBase e "values" X.env (eval e X.env) = eval e X.env := by rfl) (hline : (apos.endLine == cpos.line) = true := by rfl) :
    DI K O Wx X tg (.Call (.Attribute e "values" apos) [] [] cpos) (iVals te) (mItD O .vs me) := by
  refine ⟨pi_values he.pe hbase hline, fun σ ρ H0 G H s Q F h => ?_⟩
  refine he.sn σ ρ H0 G H s _ F (pst_bind h fun dx s1 _ x G1 H1 t1 k1 r1 h1 => ?_)
  have F1 := F.tr t1 k1
  cases e1 : lkS (O.st s1) dx with
  | none => rw [e1] at h1; exact (show False from h1).elim
  | some kvs =>
    rw [e1] at h1
    obtain ⟨a, od, vs, rfl, hH, r⟩ := lkS_ok F1.sto F1.gh r1 e1
    exact ⟨a, od, vs, rfl, hH _ _ (Sm.refl _) F1.gh, h1 _ G1 H1 (.refl t1.gh) k1 (it_vals hH r)⟩
end
end Mr
namespace Mr
open PySem PySem.Spec PyProof.Rows L2 RZ
section
variable {K : PySem.W.Frag} {O : Wo} {Wx : WX} {X : Cx} {G0 : Gh} {H0 : Hp} {G : Gh} {H : Hp} {G1 : Gh} {H1 : Hp} {σ : L2.St} {ρ : Ev} {s s1 : O.S} {l : List Ob}
theorem isD_of (q : StOk K G H l) (g : Sh G H) {v : V} {d : D} (r : Rep K G v d) (e : (dcS l d).isSome = true) : ∃ a, v = .ref a ∧ IsD H a := by
  rw [Option.isSome_iff_exists] at e
  obtain ⟨kvs, e⟩ := e
  obtain ⟨a, vs, rfl, hR, _⟩ := dcS_ok q g r e
  exact ⟨a, rfl, .inl ⟨vs, hR⟩⟩
def dropP {β : Type} (kvs : List (Key × β)) (k : Key) : List (Key × β) := kvs.filter fun kv => decide (kv.1 ≠ k)
theorem RepK.drop (k : Key) : ∀ {vs : List (Key × V)} {ds : List (Key × D)}, RepK K G vs ds → RepK K G (dropK vs k) (dropP ds k)
  | _, _, .nil => .nil
  | _, _, .cons (f := f) h r => by
    have ih := r.drop k
    unfold dropK dropP at ih ⊢
    rw [List.filter_cons, List.filter_cons]
    by_cases e : f = k
    · simp only [ne_eq, e, not_true_eq_false, decide_false, Bool.false_eq_true, if_false]; exact ih
    · simp only [ne_eq, e, not_false_eq_true, decide_true, if_true]; exact .cons h ih
theorem newM {ds : List (Key × D)} {vs : List (Key × V)} {Q : VK} {p : Addr} (t1 : Tr O.W G H G1 H1) (k1 : O.ok K s1 G1 H1) (gh : Sh G1 H1) (h : PstM K O Wx σ G H (.ok ds s1) Q) (r : RepK K G1 vs ds) (np : H1 p = none) : Q (.ref p) (upd H1 p (.dK vs)) :=
  h p vs G1 (upd H1 p (.dK vs)) (t1.mut (t1.dm p np) (gh.free np)) (ok_off k1 (gh.free np) (nW_of k1 np)) (t1.dm p np) (gh.free np) upd_same r
theorem pstM_bind {α β : Type} {rel : Gh → β → α → Prop} {r : R O.S α} {f : α → O.S → R O.S (List (Key × D))} {Q : VK} {Q1 : β → Hp → Prop} (h : PstM K O Wx σ G H (r.bind f) Q)
    (k : ∀ a s1, r = .ok a s1 → ∀ v G1 H1, Tr O.W G H G1 H1 → O.ok K s1 G1 H1 → rel G1 v a → (∀ Q', (Q' = Q) → PstM K O Wx σ G1 H1 (f a s1) Q) → Q1 v H1) : Pst K O Wx σ G H rel r Q1 := by
  cases r with
  | ok d s' =>
    refine fun v G' H' t' ko q => k d s' rfl v G' H' t' ko q fun _ _ => ?_
    have h : PstM K O Wx σ G H (f d s') Q := h
    revert h
    cases f d s' with
    | ok ds s2 => exact fun h p vs G2 H2 t2 k2 n g e r => h p vs G2 H2 (t'.trans t2) k2 (t'.dm p n) g e r
    | err c fs s2 => exact fun h dd xs G2 H2 t2 k2 e n r => h dd xs G2 H2 (t'.trans t2) k2 e n r
    | bad => exact fun h => h
  | err c fs s' => exact h
  | bad => exact h
/-- dict([(k, v), ..]) -/
def pairsP : List D → Option (List (Key × D))
  | [] => some []
  | .tup [k, v] :: r => (toKey k).bind fun k => (pairsP r).map fun q => (k, v) :: q
  | _ :: _ => none
theorem pairsP_ok (g : Sh G H) : ∀ {vs : List V} {ds : List D} {kvs : List (Key × D)}, Reps K G vs ds → pairsP ds = some kvs → ∃ (ps : List Addr) (kws : List (Key × V)), vs = ps.map V.ref ∧ Paired (fun p kv => SqT K H p [kV kv.1, kv.2]) ps kws ∧ RepK K G kws kvs
  | _, [], _, r, e => by cases r; cases e; exact ⟨[], [], rfl, .nil, .nil⟩
  | _, d :: ds, kvs, r, e => by
    cases r with
    | @cons v _ vs _ r rr =>
      unfold pairsP at e
      split at e
      · rename_i h0; cases h0
      · rename_i k w r0 e0
        cases e0
        simp only [Option.bind_eq_some_iff, Option.map_eq_some_iff] at e
        obtain ⟨k', ek, q, eq, rfl⟩ := e
        obtain ⟨ps, kws, rfl, h2, h3⟩ := pairsP_ok g rr eq
        cases r with
        | tup hs r =>
          cases r with
          | cons rk r =>
            cases r with
            | cons rw' r =>
              cases r
              have := rk.key ek
              subst this
              exact ⟨_ :: ps, (k', _) :: kws, rfl, .cons (g.seqT hs) h2, .cons rw' h3⟩
      · cases e
def mDictP (O : Wo) (a : MA O) : MM O := fun ρ s => (a ρ s).bind fun ds s1 => match ds with
  | [x] => (match sqS (O.st s1) x with
    | some (true, xs) => (match pairsP xs with
      | some kvs => .ok (mergeP [] kvs) s1
      | none => .bad)
    | _ => .bad)
  | _ => .bad
theorem call_dictPG {X : Cx} (hK : X.K = K) (hcalm : X.calm = true) : CallR X (.type "dict") (fun xs H Q => ∃ (a : Addr) (ps : List Addr) (kvs : List (Key × V)), xs = [.ref a] ∧ SqL K H a (ps.map V.ref) ∧ Paired (fun p kv => SqT K H p [kV kv.1, kv.2]) ps kvs ∧
    ∀ p, H p = none → Q (.ref p) (upd H p (.dK (mergeK [] kvs)))) := by subst hK; exact call_dictP hcalm
theorem dm_pairs {e : Expr} {ta : TA} {ma : MA O} {p pos : Pos} (c : Cs K Wx X) (hm : X.mg "dict" = none) (ha : DA K O Wx X [e] ta ma)
    (hg : Gl X "dict" := by rfl) (he : starEach [e] X.env = (false, eval e X.env) :: starEach [] X.env := by rfl) (hpl : (backTo pos (starEach [] X.env)).any (·.1) = false := by rfl) :
    DM K O Wx X (.Call (.Name "dict" p) [e] [] pos) (tCB (fun xs H Q => ∃ (a : Addr) (ps : List Addr) (kvs : List (Key × V)), xs = [.ref a] ∧ SqL K H a (ps.map V.ref) ∧ Paired (fun p kv => SqT K H p [kV kv.1, kv.2]) ps kvs ∧
    ∀ p, H p = none → Q (.ref p) (upd H p (.dK (mergeK [] kvs)))) ta) (mDictP O ma) := by
  refine ⟨ha.hK, ha.tk, pe_callTy (call_dictPG ha.hK c.hc) hg hm (by decide +kernel) ha.pe (by decide) (by decide) he hpl, fun σ ρ H0 G H s Q F h => ?_⟩
  refine ha.sn σ ρ H0 G H s _ F (pstM_bind h fun ds s1 _ vs G1 H1 t1 k1 r1 h1 => ?_)
  have h1 := h1 Q rfl
  have F1 := F.tr t1 k1
  split at h1
  · rename_i x
    cases r1 with
    | cons ra rb =>
      cases rb
      split at h1
      · rename_i xs e1
        split at h1
        · rename_i kvs e2
          obtain ⟨a, vs, rfl, hq, r⟩ := sqS_ok F1.sto F1.gh ra e1
          obtain ⟨ps, kws, rfl, hp, rk⟩ := pairsP_ok F1.gh r e2
          exact ⟨a, ps, kws, rfl, hq, hp, fun p n => newM (.refl F1.gh) k1 F1.gh h1 (rk.merge .nil) n⟩
        · exact (show False from h1).elim
      · exact (show False from h1).elim
  · exact (show False from h1).elim
/-- sorted(d), the keys ints -/
def keysI : List (Key × D) → Option (List Int)
  | [] => some []
  | (.inl i, _) :: r => (keysI r).map fun q => i :: q
  | _ :: _ => none
theorem keysI_ok : ∀ {vs : List (Key × V)} {ds : List (Key × D)} {ns : List Int}, RepK K G vs ds → keysI ds = some ns → vs.map (·.1) = ns.map Sum.inl
  | _, [], _, r, e => by cases r; cases e; rfl
  | _, (k, d) :: ds, ns, r, e => by
    cases r with
    | cons h r =>
      unfold keysI at e
      split at e
      · rename_i h0; cases h0
      · rename_i i _ r0 e0
        cases e0
        simp only [Option.map_eq_some_iff] at e
        obtain ⟨q, e1, rfl⟩ := e
        rw [List.map_cons, List.map_cons, keysI_ok r e1]
      · cases e
theorem sorted_uniq {ns ys : List Int} (h1 : ys.Perm ns) (h2 : ys.Pairwise (· ≤ ·)) : ys = ns.mergeSort (fun a b => decide (a ≤ b)) := by
  have s1 := List.pairwise_mergeSort (le := fun (a b : Int) => decide (a ≤ b)) (fun a b c h h' => by simp at *; omega) (fun a b => by simp; omega) ns
  have p1 := List.mergeSort_perm ns (fun a b => decide (a ≤ b))
  refine List.Perm.eq_of_pairwise (le := fun a b : Int => a ≤ b) (fun a b _ _ h h' => Int.le_antisymm h h') h2 (s1.imp fun h => by simpa using h) (h1.trans p1.symm)
open Classical in
noncomputable def dcLS (S : Type) (st : S → List Ob) (c : List Ob → Prop) (f : D → Ev → Option Ev) (mt : Ev → S → R S Bool) (mk mv : Ev → S → R S D) (ρ : Ev) : List D → List (Key × D) → S → R S (List (Key × D))
  | [], acc, s => if c (st s) then .ok acc s else .bad
  | d :: ds, acc, s => if c (st s) then (match f d ρ with
    | none => .bad
    | some ρ1 => match mt ρ1 s with
      | .ok true s1 => match mk ρ1 s1 with
        | .ok dk s2 => match mv ρ1 s2 with
          | .ok dv s3 => match toKey dk with
            | some k => if acc.length < 100000 then dcLS S st c f mt mk mv ρ ds (putP acc k dv) s3 else .bad
            | none => .bad
          | _ => .bad
        | _ => .bad
      | .ok false s1 => dcLS S st c f mt mk mv ρ ds acc s1
      | _ => .bad) else .bad
noncomputable def mDcS (O : Wo) (mi : MJ O) (f : D → Ev → Option Ev) (mt : MT O) (mk mv : ME O) (vs : List Nat) : MM O := fun ρ s => (mi ρ s).bind fun ic s1 => dcLS O.S O.st ic.2 f mt mk mv (wipeE ρ vs) ic.1 [] s1
theorem snd_dcS {wi : TI} {mi : MJ O} {g : TG} {f : D → Ev → Option Ev} {is vs : List Nat} {tt : TT} {mt : MT O} {tk tv : TE} {mk mv : ME O} (hi : SndJ K O Wx wi mi) (hg : SndG K O g f is) (ht : SndT K O WF tt mt) (hk : SndE K O WF tk mk) (he : SndE K O WF tv mv) (hv : ∀ i ∈ is, i ∈ vs) :
    SndM K O Wx (tDc wi g tt tk tv vs) (mDcS O mi f mt mk mv vs) := by
  intro σ ρ H0 G H s Q F h
  refine hi σ ρ H0 G H s _ F ?_
  unfold mDcS at h
  revert h
  cases mi ρ s with
  | err c fs s1 => exact fun h => h
  | bad => exact fun h => h
  | ok ic s1 =>
    obtain ⟨items, cc⟩ := ic
    intro h J G1 H1 t1 k1 ok Da nD
    dsimp only at h ok
    rw [bind_ok] at h
    have F1 := F.tr t1 k1
    have nDH : H Da = none := t1.dm Da nD
    have nW : ¬ O.W Da := nW_of k1 nD
    refine ⟨fun i m H2 => ∃ G2 s2 accV acc, m = (items.drop i).length ∧ Tr O.W G1 H1 G2 H2 ∧ O.ok K s2 G2 H2 ∧ G2 Da = none ∧ H2 Da = some (.dK accV) ∧ RepK K G2 accV acc ∧ PstM K O Wx σ G H (dcLS O.S O.st cc f mt mk mv (wipeE ρ vs) (items.drop i) acc s2) Q, ?_, ?_⟩
    · refine ⟨items.length, G1, s1, [], [], by simp, (Tr.refl F1.gh).mut nD (F1.gh.free nD), ?_, F1.gh.free nD, upd_same, .nil, by simpa using h⟩
      exact ok_off k1 (F1.gh.free nD) nW
    · rintro i m H2 ⟨G2, s2, accV, acc, rfl, t2, k2, g2, hD, ra, h2⟩
      have hcc : cc (O.st s2) := by
        unfold dcLS at h2
        split at h2 <;> split at h2 <;> first | assumption | exact (show False from h2).elim
      obtain ⟨ok1, ok2⟩ := ok G2 H2 (O.st s2) t2.gg t2.gh (O.sto _ _ _ _ k2) hcc i
      have F2 : Fm K O H0 σ ρ G2 H2 s2 := F1.tr t2 k2
      cases hd : items.drop i with
      | nil =>
        rw [hd] at h2
        unfold dcLS at h2
        rw [if_pos hcc] at h2
        exact .inl ⟨ok2 (by simpa using hd), h2 Da accV G2 H2 (t1.trans t2) k2 nDH g2 hD ra⟩
      | cons d ds =>
        have hlt : i < items.length := by
          by_cases z : i < items.length
          · exact z
          · rw [List.drop_eq_nil_of_le (by omega)] at hd; cases hd
        have hi? : items[i]? = some d := by
          have := List.drop_eq_getElem_cons hlt
          rw [hd] at this
          injection this with a b
          rw [List.getElem?_eq_getElem hlt, a]
        have hds : items.drop (i + 1) = ds := by
          have := List.drop_eq_getElem_cons hlt
          rw [hd] at this
          injection this with a b
          exact b.symm
        obtain ⟨go, yl⟩ := ok1 d hi?
        rw [hd] at h2
        refine .inr ⟨go, fun H3 => ∃ G3 s3 accV acc, Tr O.W G1 H1 G3 H3 ∧ O.ok K s3 G3 H3 ∧ G3 Da = none ∧ H3 Da = some (.dK accV) ∧ RepK K G3 accV acc ∧ PstM K O Wx σ G H (dcLS O.S O.st cc f mt mk mv (wipeE ρ vs) ds acc s3) Q, ?_, fun x H3 y => ?_⟩
        · rintro H3 ⟨G3, s3, aV, a, b1, b2, b3, b4, b5, b6⟩
          exact ⟨ds.length, by simp, G3, s3, aV, a, by rw [hds], b1, b2, b3, b4, b5, by rw [hds]; exact b6⟩
        · obtain ⟨G3, t3, r3⟩ := yl x H3 y
          have F3 := F2.tr0 t3
          have F3w := F3.wipe vs
          have kpD : ∀ {Ga : Gh} {Ha : Hp} {Gb : Gh} {Hb : Hp}, Tr O.W Ga Ha Gb Hb → Ga Da = none → Ha Da = some (.dK accV) → Gb Da = none ∧ Hb Da = some (.dK accV) := fun {Ga Ha Gb Hb} t a b => by
            refine ⟨?_, t.kp _ _ nW (fun n => by rw [a]; simp) b⟩
            cases e : Gb Da with
            | none => rfl
            | some z => rcases t.gr Da (by rw [e]; simp) with q | q <;> simp_all
          obtain ⟨g3, hD3⟩ := kpD t3.up g2 hD
          unfold dcLS at h2
          rw [if_pos hcc] at h2
          cases ef : f d (wipeE ρ vs) with
          | none => rw [ef] at h2; exact (show False from h2).elim
          | some ρ1 =>
            rw [ef] at h2
            refine hg H0 (L2.wipe σ vs) (wipeE ρ vs) G3 H3 s2 x d ρ1 _ F3w r3 ef fun σ4 F4 w4 => ?_
            refine ⟨by rw [w4 vs hv]; exact snd_lc.wipe_idem σ vs, ?_⟩
            refine ht σ4 ρ1 H0 G3 H3 s2 _ F4 ?_
            revert h2
            dsimp only
            cases mt ρ1 s2 with
            | bad => exact fun h2 => h2
            | err c fs s' => exact fun h2 => (show False from h2).elim
            | ok b s5 =>
              intro h2 b' G5 H5 t5 k5 e5
              subst e5
              obtain ⟨g5, hD5⟩ := kpD t5 g3 hD3
              cases b' with
              | false =>
                rw [if_neg Bool.false_ne_true]
                exact ⟨G5, s5, accV, acc, (t2.trans t3.up).trans t5, k5, g5, hD5, (ra.mono t3.gg).mono t5.gg, h2⟩
              | true =>
                rw [if_pos rfl]
                have F5 := F4.tr t5 k5
                refine hk σ4 ρ1 H0 G5 H5 s5 _ F5 ?_
                revert h2
                dsimp only
                cases mk ρ1 s5 with
                | bad => exact fun h2 => h2
                | err c fs s' => exact fun h2 => (show False from h2).elim
                | ok dk s6 =>
                  intro h2 kv G6 H6 t6 k6 r6
                  have F6 := F5.tr t6 k6
                  obtain ⟨g6, hD6⟩ := kpD t6 g5 hD5
                  refine he σ4 ρ1 H0 G6 H6 s6 _ F6 ?_
                  revert h2
                  dsimp only
                  cases mv ρ1 s6 with
                  | bad => exact fun h2 => h2
                  | err c fs s' => exact fun h2 => (show False from h2).elim
                  | ok dv s7 =>
                    intro h2 vv G7 H7 t7 k7 r7
                    obtain ⟨g7, hD7⟩ := kpD t7 g6 hD6
                    have ra7 : RepK K G7 accV acc := (((ra.mono t3.gg).mono t5.gg).mono t6.gg).mono t7.gg
                    dsimp only at h2
                    cases ek : toKey dk with
                    | none => rw [ek] at h2; exact (show False from h2).elim
                    | some k0 =>
                      rw [ek] at h2
                      dsimp only at h2
                      have := r6.key ek
                      subst this
                      split at h2
                      · rename_i hz
                        refine ⟨accV, k0, rfl, hD7, by rw [ra7.length]; exact sz5l hz, G7, s7, putK accV k0 vv, putP acc k0 dv, ((((t2.trans t3.up).trans t5).trans t6).trans t7).mut nD g7, ?_, g7, upd_same, ra7.put r7, h2⟩
                        exact ok_off k7 g7 nW
                      · exact (show False from h2).elim
theorem dm_dc {kx vx tg iter : Expr} {ifs : List Expr} {scope : Scope} {own : List (Str × Nat)} {pos : Pos} {wi : TI} {g : TG} {tt : TT} {tk tv : TE} {mi : MJ O} {f : D → Ev → Option Ev} {is : List Nat} {mt : MT O} {mk mv : ME O} (c : Cs K Wx X) (hi : DJ K O Wx X tg iter wi mi) (ok : BlkOk X.N X.env.scope scope own)
    (hg : ∀ (s : Shared) (H : Hp) (C : Addr) (cl : List (Str × Addr)) (fp : List Addr), DG K O (X.blk s H scope (compEnvC scope cl C X.env) fp) tg g f is)
    (ht : ∀ (s : Shared) (H : Hp) (C : Addr) (cl : List (Str × Addr)) (fp : List Addr), Cn K WF (X.blk s H scope (compEnvC scope cl C X.env) fp) → DTs K O WF (X.blk s H scope (compEnvC scope cl C X.env) fp) ifs tt mt)
    (hk : ∀ (s : Shared) (H : Hp) (C : Addr) (cl : List (Str × Addr)) (fp : List Addr), Cn K WF (X.blk s H scope (compEnvC scope cl C X.env) fp) → DE K O WF (X.blk s H scope (compEnvC scope cl C X.env) fp) kx tk mk)
    (he : ∀ (s : Shared) (H : Hp) (C : Addr) (cl : List (Str × Addr)) (fp : List Addr), Cn K WF (X.blk s H scope (compEnvC scope cl C X.env) fp) → DE K O WF (X.blk s H scope (compEnvC scope cl C X.env) fp) vx tv mv)
    (hv : ∀ i ∈ is, i ∈ own.map (·.2) := by decide) (hs : ∀ x, foldedSetIterable iter X.env x = pure x := by intro _; rfl) : DM K O Wx X (.DictComp kx vx [⟨tg, iter, ifs, 0⟩] scope pos) (tDc wi g tt tk tv (own.map (·.2))) (mDcS O mi f mt mk mv (own.map (·.2))) := by
  have cn : ∀ (s : Shared) (H : Hp) (C : Addr) (cl : List (Str × Addr)) (fp : List Addr), Cn K WF (X.blk s H scope (compEnvC scope cl C X.env) fp) := fun s H C cl fp => ⟨c.cn.hK, takes0⟩
  refine ⟨c.cn.hK, c.cn.tk, pe_dc c.hc c.nd hi.pe ok (fun s H C cl fp => (hg s H C cl fp).pe) (fun s H C cl fp => (ht s H C cl fp (cn ..)).pe) (fun s H C cl fp => (hk s H C cl fp (cn ..)).pe) (fun s H C cl fp => (he s H C cl fp (cn ..)).pe) hs, ?_⟩
  exact snd_dcS hi.sn (hg X.s_0 (fun _ => none) 0 [] []).sn (ht X.s_0 (fun _ => none) 0 [] [] (cn ..)).sn (hk X.s_0 (fun _ => none) 0 [] [] (cn ..)).sn (he X.s_0 (fun _ => none) 0 [] [] (cn ..)).sn hv
end
end Mr
namespace Mr
open PySem PySem.Spec PyProof.Rows L2 RZ
theorem call_sortedDA {X : Cx} (hcalm : X.calm = true) : CallR X (.builtin "sorted") (fun xs H Q => ∃ (a : Addr) (kvs : List (Key × V)) (ks : List Int), xs = [.ref a] ∧ Rd H a (.dK kvs) ∧ kvs.map (·.1) = ks.map Sum.inl ∧
    ∀ (ys : List Int) (p : Addr), ys.Perm ks → ys.Pairwise (· ≤ ·) → H p = none → Q (.ref p) (upd H p (.lst (ys.map V.int)))) := by
  intro pins s σ H xs us Q I r q
  obtain ⟨a, kvs, ks, ex, hd, hks, q⟩ := q
  subst ex
  obtain ⟨u, eu, rx⟩ := vals1 r
  subst eu
  cases rx
  obtain ⟨z, lo, vs, rel, dd⟩ := dk_rd I.hok hd
  obtain ⟨ep, hat⟩ := dd.dictAt
  have hkeys : vs.map (·.1) = ks.map Sum.inl := rel.keys.symm.trans hks
  have hl : vs.length = ks.length := by
    have e := congrArg List.length hkeys
    rw [List.length_map, List.length_map] at e
    exact e
  have h16 : vs.length ≤ sizeLine := by rw [← rel.length]; exact z
  have hkz : ks.length ≤ sizeLine := by rw [← hl]; exact h16
  refine Calls.call_function_entry PyProof.Rows.kind_sorted PyProof.Rows.plain_sorted PyProof.Rows.entry_sorted (PyProof.Rows.args_sorted1 _) ?_
  unfold Builtin.«sorted»
  refine wpAny_bind (m := checkCount "sorted" 1 1 _) (wpAny_pure ?_)
  refine wpAny_bind (PySem.W.kdu_collect (A := X.A.in1) (PySem.W.kdl_dict (knd := mixKind X.prog X.w) (kvs := vs) (ep := ep) lo) (I.ok.hd hcalm) hat h16 fun h' tk acc hk hacc => ?_)
  have hal : acc.toList.length = ks.length := by rw [Array.length_toList, hacc.1, hl]
  have hS : IntsAre acc.toList ks := ints_each hal fun j v e => by
    obtain ⟨k, x, e1, e2⟩ := hacc.2 j v (by rw [← Array.getElem?_toList]; exact e)
    have e3 : (vs.map (·.1))[j]? = some k := by rw [List.getElem?_map, e1]; rfl
    rw [hkeys, List.getElem?_map] at e3
    cases e4 : ks[j]? with
    | none => rw [e4] at e3; cases e3
    | some y =>
      rw [e4] at e3
      have e5 : Sum.inl y = k := Option.some.inj e3
      subst e5
      rcases keyIs_shape (show keyIs (Sum.inl y) v = true from e2) with ⟨i, t, ek, ev⟩ | ⟨z, t, ek, ev⟩
      · cases ek
        exact ⟨y, t, rfl, ev⟩
      · cases ek
  have I1 : Inv X pins σ H { s with heap := h', toks := tk } := I.kept hk
  refine wpAny_bind (wpAny_newList ?_ (by rw [hal]; exact hkz))
  have hoL : (h'.push (seqObj "list" acc.toList.toArray 0)).get? h'.objs.size = some (seqObj "list" acc.toList.toArray 0) := Heap.get?_push_size _ rfl
  show wpAny _ _ _ _ _ { s with heap := h'.push (seqObj "list" acc.toList.toArray 0), toks := tk }
  refine wpAny_bind (wpAny_holding (wpAny_call_entry PyProof.Rows.slot_list_sort ⟨_, hoL, rfl⟩ PyProof.Rows.entry_list_sort
    (PyProof.Rows.list_sort_treeAny (s := { s with heap := h'.push (seqObj "list" acc.toList.toArray 0), toks := tk }) hoL hS (by rw [hal]; exact hkz) fun out ys g1 g2 g3 => ⟨_, rfl, ?_⟩) (PyProof.Rows.args_list_sort _)))
  obtain ⟨e', he'⟩ := PyProof.Rows.sortedHeap_at (vs := acc.toList) (out := out) hoL
  have hlen : (ys.map V.int).length ≤ sizeLine := by
    rw [List.length_map, g2.length_eq]
    exact hkz
  refine wpAny_pure ⟨_, rfl, .ref h'.objs.size, upd H h'.objs.size (.lst (ys.map V.int)), I1.laid (t' := tk) (fun b u e => ?_) (Nat.le_refl _)
    (show ObjOk X.prog X.w _ _ _ (.lst (ys.map V.int)) from ⟨hlen, out.toList, e', vals_of_ints g1, by rw [Array.toArray_toList]; exact he'⟩), rfl, q ys _ g2 g3 (I1.hok.fresh (Nat.le_refl _))⟩
  have hb : b < h'.objs.size := Heap.lt_size e
  rw [PyProof.Rows.sortedHeap_old (Nat.ne_of_lt hb) (by rw [size_push']; exact Nat.lt_succ_of_lt hb)]
  exact Heap.get?_push_of_some _ e
section
variable {K : PySem.W.Frag} {O : Wo} {Wx : WX} {X : Cx} {G : Gh} {H : Hp}
def mSortDA (O : Wo) (a : MA O) : MA O := fun ρ s => (a ρ s).bind fun ds s1 => match ds with
  | [x] => (match dcS (O.st s1) x with
    | some kvs => (match keysI kvs with
      | some ns => .ok ((sortI ns).map D.int) s1
      | none => .bad)
    | none => .bad)
  | _ => .bad
theorem dn_sortedDA {e : Expr} {ta : TA} {ma : MA O} {p pos : Pos} (c : Cs K Wx X) (hm : X.mg "sorted" = none) (ha : DA K O Wx X [e] ta ma)
    (hg : Gl X "sorted" := by rfl) (he : starEach [e] X.env = (false, eval e X.env) :: starEach [] X.env := by rfl) (hpl : (backTo pos (starEach [] X.env)).any (·.1) = false := by rfl) :
    DN K O Wx X (.Call (.Name "sorted" p) [e] [] pos) (tCB (fun xs H Q => ∃ (a : Addr) (kvs : List (Key × V)) (ks : List Int), xs = [.ref a] ∧ Rd H a (.dK kvs) ∧ kvs.map (·.1) = ks.map Sum.inl ∧
    ∀ (ys : List Int) (p : Addr), ys.Perm ks → ys.Pairwise (· ≤ ·) → H p = none → Q (.ref p) (upd H p (.lst (ys.map V.int)))) ta) (mSortDA O ma) := by
  refine ⟨ha.hK, ha.tk, pe_callB (call_sortedDA c.hc) hg hm (by decide +kernel) ha.pe (by decide) (by decide) he hpl, fun σ ρ H0 G H s Q F h => ?_⟩
  refine ha.sn σ ρ H0 G H s _ F (pstN_bind h fun ds s1 _ vs G1 H1 t1 k1 r1 h1 => ?_)
  have F1 := F.tr t1 k1
  split at h1
  · rename_i x
    cases r1 with
    | cons ra rb =>
      cases rb
      split at h1
      · rename_i kvs e1
        split at h1
        · rename_i ns e2
          obtain ⟨a, vs, rfl, hR, r⟩ := dcS_ok F1.sto F1.gh ra e1
          refine ⟨a, vs, ns, rfl, hR, keysI_ok r e2, fun ys p p1 p2 n => ?_⟩
          have := sorted_uniq p1 p2
          subst this
          exact newL (.refl F1.gh) k1 F1.gh h1 (.ints _) n
        · exact (show False from h1).elim
      · exact (show False from h1).elim
  · exact (show False from h1).elim
end
section
variable {K : PySem.W.Frag} {O : Wo} {Wx : WX} {X : Cx} {G : Gh} {H : Hp}
end
end Mr
namespace Mr
open PySem PySem.Spec PyProof.Rows L2 RZ
section
variable {K : PySem.W.Frag} {O : Wo} {Wx : WX} {X : Cx} {G : Gh} {H : Hp}
theorem pt_alt {e : Expr} {t u : TE} (h1 : PT X e (tTest t)) (h2 : PT X e (tTest u)) : PT X e (tTest (fun σ H Q => t σ H Q ∨ u σ H Q)) := ⟨fun pins s σ H Q I h => h.elim (fun h => h1.run pins s σ H Q I h) (fun h => h2.run pins s σ H Q I h)⟩
theorem dt_notInS {a b : Expr} {ta tb : TE} {ma mb : ME O} {pos : Pos} {j : Nat} (hr : Room j X.A) (ha : DE K O Wx X a ta ma) (hb : DE K O Wx X b tb mb) (hm : behindInMarks .NotIn b = false := by first | rfl | with_unfolding_all rfl) :
    DT K O Wx X (.Compare a [.NotIn] [b] pos) (tTest (fun σ H Q => tDNotIn ta tb σ H Q ∨ tOp (rIn K true) ta tb σ H Q)) (mTest O (mBinS O (dInS true) ma mb)) :=
  ⟨ha.hK, ha.tk, pt_alt (pt_cmp (pc_dnotin (hu_of hr) ha.pe hb.pe) hm) (dt_notIn (pos := pos) ha hb hm).pe, snd_test (de_notInS (pos := pos) hr ha hb hm).sn⟩
theorem dt_eqS {a b : Expr} {ta tb : TE} {ma mb : ME O} {pos : Pos} {j : Nat} (hr : Room j X.A) (ha : DE K O Wx X a ta ma) (hb : DE K O Wx X b tb mb) : DT K O Wx X (.Compare a [.Eq] [b] pos) (tTest (tOp (rEqG K) ta tb)) (mTest O (mBinS O (liftO dEq) ma mb)) := dt_cmpS (op_eqG ha.hK hr.units) vop_eq.liftS ha hb (nomark _)
theorem dt_neS {a b : Expr} {ta tb : TE} {ma mb : ME O} {pos : Pos} {j : Nat} (hr : Room j X.A) (ha : DE K O Wx X a ta ma) (hb : DE K O Wx X b tb mb) : DT K O Wx X (.Compare a [.NotEq] [b] pos) (tTest (tOp (rNeG K) ta tb)) (mTest O (mBinS O (liftO dNe) ma mb)) := dt_cmpS (op_neG ha.hK hr.units) vop_ne.liftS ha hb (nomark _)
end
structure OkQ (q : List Ob) (b : Int) (s : Dr) : Prop where
  xs : ∀ x ∈ s.xs, 0 < x
  n : 0 ≤ s.n
  k : 0 ≤ s.k
  kb : s.k ≤ b
  st : s.st = q
theorem OkQ.mono {q : List Ob} {b c : Int} {s : Dr} (h : OkQ q b s) (hc : b ≤ c) : OkQ q c s := ⟨h.xs, h.n, h.k, Int.le_trans h.kb hc, h.st⟩
theorem OkQ.start (ns : List Int) : OkQ [] 0 ⟨ns.filter (fun n => decide (10 ^ 18 ≤ n)), 0, ns.filter (fun n => decide (n < 10 ^ 18)), 0, []⟩ :=
  ⟨fun x hx => by have := (List.mem_filter.mp hx).2; simp at this; omega, Int.le_refl _, Int.le_refl _, Int.le_refl _, rfl⟩
/-- the store put at another -/
def Dr.put (s : Dr) (q : List Ob) : Dr := { s with st := q }
theorem OkQ.put {q : List Ob} {b : Int} {s : Dr} (h : OkQ q b s) (q' : List Ob) : OkQ q' b { s with st := q' } := ⟨h.xs, h.n, h.k, h.kb, rfl⟩
end Mr
namespace Mr
open PySem PySem.Spec PyProof.Rows L2 RZ
section
variable {K : PySem.W.Frag} {O : Wo} {Wx : WX} {X : Cx} {G : Gh} {H : Hp}
def tDUpd (td ty : TE) : TE := fun σ H Q => td σ H fun x H1 => ∃ a, x = .ref a ∧ IsD H1 a ∧ ty σ H1 fun y H2 => ∃ (b : Addr) (kvs more : List (Key × V)), y = .ref b ∧ a ≠ b ∧ H2 a = some (.dK kvs) ∧ Rd H2 b (.dK more) ∧ kvs.length + more.length ≤ sizeLine ∧ Q .non (upd H2 a (.dK (mergeK kvs more)))
theorem pe_dupd {X : Cx} {o e : Expr} {td ty : TE} {apos cpos : Pos} (ho : PE X o td) (he : PE X e ty) (m : M1 X o "update" apos e cpos) : PE X (.Call (.Attribute o "update" apos) [e] [] cpos) (tDUpd td ty) := by
  refine ⟨fun pins s σ H Q I h => ?_⟩
  refine wpAny_Call_method m.base m.few m.line PySem.F.plainAttrs_dict PySem.F.slot_dict_update PySem.F.type_dict_update (thn (ho.run pins s σ H _ I h) fun u s1 ⟨x, H1, I1, rx, a, ex, d, q1⟩ => ?_)
  subst ex
  obtain rfl : u = Value.ref a := rx
  obtain ⟨t1, t2, _⟩ := isD_at I1 d
  refine ⟨t1, t2, ?_⟩
  rw [m.trees]
  refine Calls.callWith_builtin rfl (Calls.evalArgs_plain (Calls.spliced_cons (thn (he.run pins s1 σ H1 _ I1 q1) fun iv s2 ⟨y, H2, I2, ry, b, kvs, more, ey, hab, ea, eb, hz, q2⟩ => Calls.spliced_nil ?_)))
  subst ey
  obtain rfl : iv = Value.ref b := ry
  obtain ⟨z, hd, vs, rel, dd⟩ := dk_of I2.hok ea
  obtain ⟨z2, hd2, vs2, rel2, dd2⟩ := dk_rd I2.hok eb
  refine call_meetsIn PySem.F.slot_dict_update dd.typeIs PySem.F.entry_dict_update (PySem.F.args_dict_update_2 _ _) (meets_dict_update (mixKind X.prog X.w) a b hab hd2)
    ⟨vs, vs2, dd, dd2, by rw [← rel.length, ← rel2.length]; exact hz, fun h' dd' _ hs => ?_⟩
  have hne : ∃ q, h'.get? a = some q := let ⟨q, _, _, hq, _⟩ := dd'; ⟨q, hq⟩
  exact ⟨.non, _, d_write I2 (by rw [ea]; exact True.intro) hs hne (dk_new (by have := length_mergeK more kvs; omega) hd (KV.merge rel2 rel) dd'), rfl, q2⟩
/-- d is not the n-th thing of the store -/
def apO (n : Nat) : D → Bool
  | .obj m => decide (m ≠ n)
  | _ => true
def mUpdS (O : Wo) (mo me : ME O) : ME O := fun ρ s => (mo ρ s).bind fun x s1 => if (dcS (O.st s1) x).isSome = true then (me ρ s1).bind fun y s2 => (match x with
  | .obj n => (match (O.st s2)[n]?, dcS (O.st s2) y with
    | some (.dct kvs), some more => if kvs.length + more.length ≤ 100000 ∧ apO n y = true then .ok .non (stPut O s2 n (.dct (mergeP kvs more))) else .bad
    | _, _ => .bad)
  | _ => .bad) else .bad
theorem dcS_ne {l : List Ob} {v : V} {d : D} {n : Nat} {a : Addr} {more : List (Key × D)} (r : Rep K G v d) (e : dcS l d = some more) (hg : G a = some (.mk n)) (hn : apO n d = true) : ∀ b, v = .ref b → a ≠ b := by
  intro b eb hab
  subst hab
  cases r with
  | dct hs r =>
    cases eb
    rw [hg] at hs
    cases hs
  | @obj c m h =>
    cases eb
    have hm := of_decide_eq_true hn
    rcases h with h | ⟨o, h⟩ <;> (rw [hg] at h; cases h)
    exact hm rfl
  | _ => cases e
theorem de_updS {o e : Expr} {to te : TE} {mo me : ME O} {apos cpos : Pos} (ho : DE K O Wx X o to mo) (he : DE K O Wx X e te me) (m : M1 X o "update" apos e cpos := by exact ⟨rfl, rfl, rfl, rfl⟩) :
    DE K O Wx X (.Call (.Attribute o "update" apos) [e] [] cpos) (tDUpd to te) (mUpdS O mo me) := by
  refine ⟨ho.hK, ho.tk, pe_dupd ho.pe he.pe m, fun σ ρ H0 G H s Q F h => ?_⟩
  refine ho.sn σ ρ H0 G H s _ F (pst_bind h fun dx s1 _ x G1 H1 t1 k1 r1 h1 => ?_)
  have F1 := F.tr t1 k1
  split at h1
  · rename_i hs
    obtain ⟨a, rfl, hD⟩ := isD_of F1.sto F1.gh r1 hs
    refine ⟨a, rfl, hD, ?_⟩
    refine he.sn σ ρ H0 G1 H1 s1 _ F1 (pst_bind h1 fun dy s2 _ y G2 H2 t2 k2 r2 h2 => ?_)
    have F2 := F1.tr t2 k2
    split at h2
    · rename_i n
      split at h2
      · rename_i kvs more e1 e2
        split at h2
        · rename_i hc
          obtain ⟨b, eb, hg, vs, hp, r⟩ := F2.sto.get (r1.mono t2.gg) e1
          cases eb
          obtain ⟨c, vs2, rfl, hR, r3⟩ := dcS_ok F2.sto F2.gh r2 e2
          obtain ⟨t5, k5⟩ := F2.stw (o := .dK (mergeK vs vs2)) (ob := .dct (mergeP kvs more)) hg (nfz hp rfl) rfl ⟨_, upd_same, r3.merge r⟩ hg
          exact ⟨c, vs, vs2, rfl, dcS_ne r2 e2 hg hc.2 c rfl, hp, hR, by rw [r.length, r3.length]; exact sz5 hc.1, h2 .non G2 _ t5 k5 .non⟩
        · exact (show False from h2).elim
      · exact (show False from h2).elim
    · exact (show False from h2).elim
  · exact (show False from h1).elim
end
end Mr
namespace Mr
open PySem PySem.Spec PyProof.Rows L2 RZ
def IsP1 (h : Heap) (v : Value) (x : Int) : Prop := ∃ a o t w n, v = Value.ref a ∧ h.get? a = some o ∧ o.cls = .type "tuple" ∧ o.data = .seq #[.int x t, w] n
theorem IsP1.keeps {h h' : Heap} {v : Value} {x : Int} (p : IsP1 h v x) (k : ∀ b o, h.get? b = some o → o.cls = .type "tuple" → h'.get? b = some o) : IsP1 h' v x := by
  obtain ⟨a, o, t, u, n, e, ho, hc, hd⟩ := p
  exact ⟨a, o, t, u, n, e, k _ _ ho hc, hc, hd⟩
abbrev lt1 {α : Type} (k : α → Int) (x y : α) : Bool := decide (k x < k y)
theorem lt1_swo {α : Type} (k : α → Int) : SrtO.Swo (lt1 k) := by
  refine ⟨fun x y h => ?_, fun x y z h1 h2 => ?_⟩
  · have := of_decide_eq_true h
    exact decide_eq_false (by omega)
  · have a := of_decide_eq_false h1
    have b := of_decide_eq_false h2
    exact decide_eq_false (by omega)
section
variable {prog : Program} {w : World} {A : Around} {E : Value → Shared → Prop} {s : Shared}
theorem p1_cmp {vs : List Value} {k : Value → Int} (hp : ∀ v ∈ vs, IsP1 s.heap v (k v)) (inj : ∀ v ∈ vs, ∀ u ∈ vs, k v = k u → v = u) : SrtO.Cmp prog w A s (tuples' true) (fun p => p.1 ∈ vs) (SrtO.lt2 (lt1 k)) := by
  intro p q hm hm'
  have h1 := hp _ hm
  have h2 := hp _ hm'
  show wpAny (model prog w) A (keyLt' (tuples' true) p.1 q.1) (fun r s' => s' = s ∧ r = decide (k p.1 < k q.1)) (fun _ _ => False) s
  by_cases hk : k p.1 = k q.1
  · have e0 := inj _ hm _ hm' hk
    rw [← e0]
    obtain ⟨a, o, t, u, n, e, ho, hc, hd⟩ := h1
    rw [e]
    rw [e] at hd
    refine PySem.W.kat_lt ho hd ho hd ?_
    show PySem.W.KatLex prog w A true (decide (2 < 2)) _ [(.int _ t, .int _ t), (u, u)] 0 s
    refine PySem.W.kat_cons (SeqAt.EqAt.int_int _ t _ t prog w _ _ ?_)
    refine PySem.W.kat_go (fun e1 => ?_) (fun e1 => by simp at e1)
    refine PySem.W.kat_yes (PySem.W.kat_cons (SeqAt.EqAt.same u prog w _ _ ?_))
    refine PySem.W.kat_go (fun e2 => ?_) (fun e2 => by simp at e2)
    exact PySem.W.kat_yes (PySem.W.kat_nil ⟨rfl, (decide_eq_false (Int.lt_irrefl _)).symm⟩)
  · generalize k p.1 = x at h1 hk ⊢
    generalize k q.1 = x' at h2 hk ⊢
    obtain ⟨a, o, t, u, n, e, ho, hc, hd⟩ := h1
    obtain ⟨a', o', t', u', n', e', ho', hc', hd'⟩ := h2
    rw [e, e']
    refine PySem.W.kat_lt ho hd ho' hd' ?_
    show PySem.W.KatLex prog w A true (decide (2 < 2)) _ [(.int x t, .int x' t'), (u, u')] 0 s
    refine PySem.W.kat_cons (SeqAt.EqAt.int_int x t x' t' prog w _ _ ?_)
    refine PySem.W.kat_go (fun e1 => absurd (by simpa using e1) hk) (fun e1 => ?_)
    exact PySem.W.kat_no (oneLt_int ⟨rfl, rfl⟩)
theorem p1_firsts {h : Heap} : ∀ {vs : List Value}, (∀ v ∈ vs, ∃ x, IsP1 h v x) → ∃ fs : List Value, PySem.W.KatTups h vs fs ∧ fs.length = vs.length ∧ ∀ f ∈ fs, ∃ x t, f = Value.int x t
  | [], _ => ⟨[], PySem.W.KatTups.nil, rfl, fun _ hm => by simp at hm⟩
  | v :: vs, hp => by
    obtain ⟨fs, h1, h2, h3⟩ := p1_firsts (vs := vs) fun v' hm => hp v' (List.mem_cons_of_mem _ hm)
    obtain ⟨x, a, o, t, u, n, e, ho, hc, hd⟩ := hp v (List.mem_cons_self ..)
    subst e
    refine ⟨.int x t :: fs, PySem.W.KatTups.cons ho hc hd rfl h1, by rw [List.length_cons, List.length_cons, h2], fun f hm => ?_⟩
    rcases List.mem_cons.mp hm with rfl | hm
    · exact ⟨x, t, rfl⟩
    · exact h3 f hm
theorem p1_sortable {a : Addr} {vs : List Value} {k : Value → Int} (h0 : 0 < vs.length) (hp : ∀ v ∈ vs, IsP1 s.heap v (k v)) (inj : ∀ v ∈ vs, ∀ u ∈ vs, k v = k u → v = u) (ha : ∀ o, s.heap.get? a = some o → o.cls ≠ .type "tuple") : SrtO.SortableO prog w A s a vs (lt1 k) := by
  intro h' keep
  have hp' : ∀ v ∈ vs, IsP1 h' v (k v) := fun v hm => (hp v hm).keeps fun b o e c => keep b o (fun z => by subst z; exact ha o e c) e
  obtain ⟨fs, h1, h2, h3⟩ := p1_firsts fun v hm => ⟨_, hp' v hm⟩
  refine ⟨tuples' true, fun Q E hq => ?_, p1_cmp hp' inj⟩
  refine PySem.W.kat_kind (T := .type "int") h1 (by omega) (fun f hm => ?_) (by rfl) ?_
  · obtain ⟨x, t, rfl⟩ := h3 f hm
    exact PySem.W.Looks.now
  · have e : (Value.type "int" != Value.type "tuple") = true := by first | decide +kernel | rfl | decide
    rw [e]
    exact hq
theorem sorted_p1 {l : Addr} {vs : List Value} {k : Value → Int} {Q : Value → Shared → Prop} (hl : s.heap.IsList l vs.toArray) (hz : vs.length ≤ sizeLine) (hp : ∀ v ∈ vs, IsP1 s.heap v (k v)) (inj : ∀ v ∈ vs, ∀ u ∈ vs, k v = k u → v = u)
    (h : ∀ (h' : Heap) (d : Addr) (out : List Value), SrtO.Srtd (lt1 k) out → out.Perm vs → (∀ b o, s.heap.get? b = some o → h'.get? b = some o) → s.heap.objs.size ≤ d → (∃ n, h'.get? d = some (seqObj "list" out.toArray n)) → Q (.ref d) { s with heap := h' }) :
    wpAny (model prog w) A (call (.builtin "sorted") [.ref l]) Q E s := by
  refine SrtO.sorted_ord (lt1_swo k) hl hz (fun h2 h₁ a ha kk => ?_) fun out hs hb => ?_
  · refine p1_sortable (s := { s with heap := h₁ }) (by omega) (fun v hm => (hp v hm).keeps fun b o e _ => (kk b o e).2) inj fun o e => ?_
    have e' : some o = some (seqObj "list" vs.toArray 0) := e.symm.trans ha
    cases e'
    intro c
    exact absurd (Value.type.inj c) (by decide)
  · exact h _ _ out hs hb.perm (fun b o e => sortedAll_old e) (Nat.le_succ _) (sortedAll_at s.heap vs out.toArray)
end
def rSortedP1 (K : PySem.W.Frag) : List V → Hp → VK → Prop := fun vs H Q => ∃ (a : Addr) (xs : List V) (ns : List Int), vs = [V.ref a] ∧ SqL K H a xs ∧ Paired (fun x n => ∃ t y, x = V.ref t ∧ SqT K H t [.int n, y]) xs ns ∧ ns.Nodup ∧
  ∀ (zs : List (V × Int)) p, zs.Pairwise (fun a b => a.2 ≤ b.2) → zs.Perm (xs.zip ns) → H p = none → Q (.ref p) (upd H p (.lst (zs.map (·.1))))
theorem paired_at {α β : Type} {R : α → β → Prop} {xs : List α} {ys : List β} (h : Paired R xs ys) : ∀ {j : Nat} {x : α}, xs[j]? = some x → ∃ y, ys[j]? = some y ∧ R x y := by
  induction h with
  | nil => intro j x e; cases e
  | cons r _ ih =>
    intro j x e
    cases j with
    | zero => simp only [List.getElem?_cons_zero, Option.some.injEq] at e; subst e; exact ⟨_, rfl, r⟩
    | succ j => exact ih (by simpa using e)
theorem paired_len {α β : Type} {R : α → β → Prop} {xs : List α} {ys : List β} (h : Paired R xs ys) : xs.length = ys.length := by
  induction h with
  | nil => rfl
  | cons _ _ ih => simp [ih]
theorem zip_own {α β : Type} (k : α → β) : ∀ xs : List α, xs.zip (xs.map k) = xs.map fun x => (x, k x)
  | [] => rfl
  | x :: xs => by rw [List.map_cons, List.map_cons, List.zip_cons_cons, zip_own k xs]
open Classical in
theorem cr_sortedP1 {X : Cx} : CallR X (.builtin "sorted") (rSortedP1 X.K) := by
  intro pins s σ H vs us Q I r h
  obtain ⟨a, xs, ns, rfl, hs, hp, nd, q⟩ := h
  obtain ⟨its, rv, hl, hz⟩ := I.list hs
  obtain ⟨u, rfl, ru⟩ := vals1 r
  obtain rfl : u = Value.ref a := ru
  have hx : ∀ x ∈ xs, ∃ n t y, x = V.ref t ∧ SqT X.K H t [.int n, y] := fun x m => by
    obtain ⟨j, hj⟩ := List.mem_iff_getElem?.mp m
    obtain ⟨n, _, t, y, e, ht⟩ := paired_at hp hj
    exact ⟨n, t, y, e, ht⟩
  -- the key of a thing
  let k : V → Int := fun x => if h : ∃ n t y, x = V.ref t ∧ SqT X.K H t [.int n, y] then h.choose else 0
  have hk : ∀ n t y, SqT X.K H t [.int n, y] → k (.ref t) = n := fun n t y ht => by
    have hE : ∃ n' t' y', V.ref t = V.ref t' ∧ SqT X.K H t' [.int n', y'] := ⟨n, t, y, rfl, ht⟩
    obtain ⟨t', y', e, ht'⟩ := hE.choose_spec
    have e' : t = t' := V.ref.inj e
    subst e'
    have := I.tuple_inj ht' ht
    have e2 : V.int hE.choose = V.int n := (List.cons.inj this).1
    show (if h : _ then _ else _) = _
    rw [dif_pos hE]
    exact V.int.inj e2
  have hns : ns = xs.map k := by
    refine List.ext_getElem? fun j => ?_
    rw [List.getElem?_map]
    cases e : xs[j]? with
    | none =>
      have := paired_len hp
      rw [List.getElem?_eq_none_iff] at e
      exact List.getElem?_eq_none (by omega)
    | some x =>
      obtain ⟨n, e1, t, y, rfl, ht⟩ := paired_at hp e
      rw [e1, Option.map_some, hk n t y ht]
  have inj : ∀ x ∈ xs, ∀ y ∈ xs, k x = k y → x = y := fun x hx y hy e => by
    obtain ⟨i, hi⟩ := List.mem_iff_getElem?.mp hx
    obtain ⟨j, hj⟩ := List.mem_iff_getElem?.mp hy
    have h1 : ns[i]? = some (k x) := by rw [hns, List.getElem?_map, hi]; rfl
    have h2 : ns[j]? = some (k y) := by rw [hns, List.getElem?_map, hj]; rfl
    have hij : i = j := by
      obtain ⟨b1, c1⟩ := List.getElem?_eq_some_iff.mp h1
      obtain ⟨b2, c2⟩ := List.getElem?_eq_some_iff.mp h2
      exact (List.getElem_inj nd).mp (by rw [c1, c2, e])
    subst hij
    rw [hi] at hj
    exact Option.some.inj hj
  obtain ⟨e1, e2⟩ := refs_back rv fun x m => by
    obtain ⟨_, t, _, e, _⟩ := hx x m
    exact ⟨t, e⟩
  have mem : ∀ v ∈ its, backV v ∈ xs := fun v hv => by rw [e1]; exact List.mem_map.mpr ⟨_, hv, rfl⟩
  refine sorted_p1 (k := fun u => k (backV u)) hl.isList (by rw [← rv.length]; exact hz) (fun v hv => ?_) (fun v hv u hu e => ?_) fun h' d out h1 h2 kp hd hn => ?_
  · obtain ⟨t, rfl⟩ := e2 v hv
    obtain ⟨n, t', y, e, ht⟩ := hx _ (mem _ hv)
    have e' : t = t' := by
      have : V.ref t = V.ref t' := e
      exact V.ref.inj this
    subst e'
    obtain ⟨its2, r2, p2, _⟩ := I.tuple ht
    obtain ⟨o, ho, hc, m, hd⟩ := p2
    obtain ⟨u1, u2, rfl, ri, rj⟩ := vals2 r2
    obtain ⟨t1, rfl⟩ := ri
    have := hk n t y ht
    refine ⟨t, o, t1, u2, m, rfl, ho, hc, ?_⟩
    show o.data = .seq #[.int (k (.ref t)) t1, u2] m
    rw [this]
    exact hd
  · obtain ⟨t, rfl⟩ := e2 v hv
    obtain ⟨t', rfl⟩ := e2 u hu
    have := inj _ (mem _ hv) _ (mem _ hu) e
    have e3 : t = t' := V.ref.inj this
    rw [e3]
  · have h3 : ∀ u ∈ out, ∃ a, u = Value.ref a := fun u hu => e2 u (h2.mem_iff.mp hu)
    obtain ⟨n, hn⟩ := hn
    have hb : (out.map backV).Perm xs := by
      rw [e1]
      exact h2.map backV
    have hz2 : xs.zip ns = xs.map fun x => (x, k x) := by
      rw [hns]
      exact zip_own k xs
    have key := q ((out.map backV).map fun x => (x, k x)) d (by
      have h4 : SrtO.Srtd (lt1 k) (out.map backV) := SrtO.srtd_map h1
      rw [List.pairwise_map]
      exact h4.imp fun h => by have := of_decide_eq_false h; dsimp only; omega) (by rw [hz2]; exact hb.map _) (I.hok.fresh hd)
    have em : ((out.map backV).map fun x => (x, k x)).map (·.1) = out.map backV := by rw [List.map_map]; exact (List.map_congr_left fun x _ => rfl).trans (List.map_id _)
    rw [em] at key
    refine ⟨.ref d, upd H d (.lst (out.map backV)), I.laid (t' := s.toks) kp hd ⟨?_, out, n, vals_back h3, hn⟩, rfl, key⟩
    rw [hb.length_eq]
    exact hz
section
variable {K : PySem.W.Frag} {O : Wo} {Wx : WX} {X : Cx} {G : Gh} {H : Hp}
end
end Mr
namespace Mr
open PySem PySem.Spec PyProof.Rows L2 RZ
section
variable {K : PySem.W.Frag} {O : Wo} {Wx : WX} {X : Cx} {G : Gh} {H : Hp}
def gSq (K : PySem.W.Frag) (n : Nat) (t : TGs) : TG := fun v σ H Q => gTup K n t v σ H Q ∨ ∃ a xs, v = .ref a ∧ SqL K H a xs ∧ xs.length = n ∧ t xs σ H Q
theorem pg_sq {es : List Expr} {k : Nat} {pos : Pos} {t : TGs} {n : Nat} (hc : X.calm = true) (h : PGs X es t)
    (hn : (assignEach es X.env).length = n := by rfl) (hst : (assignEach es X.env).findIdx? (·.1) = none := by rfl) : PG X (.Tuple es k pos) (gSq X.K n t) := by
  refine ⟨fun pins s σ H v u Q I r hw => ?_⟩
  rcases hw with hw | hw
  · exact (pg_tup hc h hn hst).run pins s σ H v u Q I r hw
  obtain ⟨a, xs, e1, hq, hl, hw⟩ := hw
  subst e1
  cases r
  obtain ⟨its, rv, p, hz⟩ := I.list hq
  have hsz : (assignEach es X.env).length = its.toArray.size := by simp [hn, ← hl, rv.length]
  rw [assign_Tuple]
  refine wpAny_bind (wpAny_standAt ?_)
  unfold unpack
  rw [hst, hsz]
  refine wpAny_bind (wpAny_holding (PySem.W.kun_itemsOf (I.ok.hd hc) p.isList fun h' hx => ?_))
  have I1 : Inv X pins σ H { s with heap := h' } := I.kept (t' := s.toks) fun b o e => hx b o (Nat.ne_of_lt (Heap.lt_size e)) e
  exact h.run pins _ σ H xs _ Q I1 (by simpa using rv) hw
def fSq (n : Nat) (g : List D → Ev → Option Ev) : D → Ev → Option Ev
  | .tup xs, ρ => if xs.length = n then g xs ρ else none
  | .lst xs, ρ => if xs.length = n then g xs ρ else none
  | _, _ => none
theorem dg_sq {es : List Expr} {k : Nat} {t : TGs} {g : List D → Ev → Option Ev} {is : List Nat} {n : Nat} {pos : Pos} (hK : X.K = K) (hc : X.calm = true) (h : DGs K O X es t g is)
    (hn : (assignEach es X.env).length = n := by rfl) (hst : (assignEach es X.env).findIdx? (·.1) = none := by rfl) : DG K O X (.Tuple es k pos) (gSq K n t) (fSq n g) is := by
  subst hK
  refine ⟨pg_sq hc h.pe hn hst, fun H0 σ ρ G H s v d ρ' Q F r e q => ?_⟩
  cases r with
  | tup hs r =>
    simp only [fSq] at e
    split at e
    · rename_i hl
      exact .inl ⟨_, _, rfl, F.gh.seqT hs, r.length.trans hl, h.sn H0 σ ρ G H s _ _ ρ' _ F r e q⟩
    · cases e
  | lst hs r =>
    simp only [fSq] at e
    split at e
    · rename_i hl
      exact .inr ⟨_, _, rfl, F.gh.seq hs, r.length.trans hl, h.sn H0 σ ρ G H s _ _ ρ' _ F r e q⟩
    · cases e
  | _ => cases e
end
end Mr
namespace Mr
open PySem PySem.Spec PyProof.Rows L2 RZ
section
variable {K : PySem.W.Frag} {O : Wo} {Wx : WX} {X : Cx}
open Classical in
noncomputable def lc2LS (S : Type) (st : S → List Ob) (c : List Ob → Prop) (f : D → Ev → Option Ev) (mt : Ev → S → R S Bool) (mi1 : Ev → S → R S (List D × (List Ob → Prop))) (f1 : D → Ev → Option Ev) (mt1 : Ev → S → R S Bool) (me : Ev → S → R S D) (vs1 : List Nat) (ρ : Ev) : List D → List D → S → R S (List D)
  | [], acc, s => if c (st s) then .ok acc s else .bad
  | d :: ds, acc, s => if c (st s) then (match f d ρ with
    | none => .bad
    | some ρ1 => match mt ρ1 s with
      | .ok true s1 => match mi1 ρ1 s1 with
        | .ok ic s2 => match lcLS S st ic.2 f1 mt1 me (wipeE ρ1 vs1) ic.1 acc s2 with
          | .ok acc2 s3 => lc2LS S st c f mt mi1 f1 mt1 me vs1 ρ ds acc2 s3
          | _ => .bad
        | _ => .bad
      | .ok false s1 => lc2LS S st c f mt mi1 f1 mt1 me vs1 ρ ds acc s1
      | _ => .bad) else .bad
def tyS (l : List Ob) : D → Option String
  | .obj n => match l[n]? with
    | some (.lst _) => some "list"
    | some (.dct _) => some "dict"
    | some (.dlk _) => some "dict"
    | _ => none
  | .dct _ => some "dict"
  | d => tyD d
theorem tyS_ok {l : List Ob} {G : Gh} {H : Hp} {v : V} {d : D} {n : String} (q : StOk K G H l) (g : Sh G H) (r : Rep K G v d) (e : tyS l d = some n) : TyX K H v (.type n) := by
  cases r with
  | @obj a m h =>
    simp only [tyS] at e
    split at e
    · rename_i xs e1
      cases e
      obtain ⟨b, e2, h2, vs, e3, r⟩ := q.get (.obj h) e1
      cases e2
      exact .base (.lst e3)
    · rename_i xs e1
      cases e
      obtain ⟨b, e2, h2, vs, e3, r⟩ := q.get (.obj h) e1
      cases e2
      exact .base (.dK e3)
    · rename_i xs e1
      cases e
      obtain ⟨b, e2, h2, od, vs, e3, r⟩ := q.get (.obj h) e1
      cases e2
      exact .fDict e3
    · cases e
  | dct hs r => cases e; exact .fDict (g _ _ hs)
  | ref a => cases e
  | ty a => cases e
  | ins h r => cases e
  | non => exact Rep.ty_of g .non e
  | bl b => exact Rep.ty_of g (.bl b) e
  | int i => exact Rep.ty_of g (.int i) e
  | str x => exact Rep.ty_of g (.str x) e
  | lst h r => exact Rep.ty_of g (.lst h r) e
  | tup h r => exact Rep.ty_of g (.tup h r) e
def dIsIS (l : List Ob) : List D → Option D
  | [x, .ty c] => match tyS l x with
    | some n => (kitB n c).map .bl
    | none => none
  | _ => none
theorem vcl_isIS : VClS K (rIsi K) dIsIS := by
  intro l G H x dx d Q q g rx e k
  unfold dIsIS at e
  split at e
  · split at e
    · rename_i n en
      rw [Option.map_eq_some_iff] at e
      obtain ⟨b, eb, rfl⟩ := e
      cases rx with
      | cons r1 r2 =>
        cases r2 with
        | cons r2 r3 =>
          cases r3
          cases r2
          exact ⟨_, _, _, _, b, rfl, .ty _, tyS_ok q g r1 en, kit_ty eb, k _ G H (.refl g) (.bl _)⟩
    · cases e
  · cases e
end
end Mr
namespace Mr
open PySem PySem.Spec PyProof.Rows L2 RZ
/-- where a zip of two sources stands before its i-th tuple -/
structure ZAt (k1 k2 : Bool) (z TI TO i1 i2 l1 l2 d : Addr) (xs ys : Array Value) (i : Nat) (h : Heap) : Prop where
  ti : h.get? TI = some (tupO #[.ref i1, .ref i2])
  a1 : It01 k1 h i1 l1 i
  a2 : It01 k2 h i2 l2 i
  s1 : Sq01 k1 h l1 xs
  s2 : Sq01 k2 h l2 ys
  zz : (IsZip h z TI TO .none ∧ h.get? TO = some (tupO #[.none, .none])) ∨ ∃ T f oT, IsZipF h z TI TO T f ∧ h.get? T = some oT ∧ T ≠ z ∧ T ≠ i1 ∧ T ≠ i2 ∧ T ≠ d
section
variable {prog : Program} {w : World}
end
section
variable {K : PySem.W.Frag} {O : Wo} {Wx : WX} {X : Cx} {G : Gh} {H : Hp}
end
end Mr
namespace Mr
open PySem PySem.Spec PyProof.Rows L2 RZ
section
variable {prog : Program} {w : World} {A : Around} {E : Value → Shared → Prop} {s : Shared} {K : PySem.W.Frag} {x C f : Addr} {ox : Obj} {od : Option Obj}
end
section
variable {K : PySem.W.Frag} {O : Wo} {Wx : WX} {X : Cx} {G : Gh} {H : Hp} {C : Addr}
end
end Mr
namespace Mr
open PySem PySem.Spec PyProof.Rows L2 RZ
section
variable {X : Cx}
end
variable {K : PySem.W.Frag} {O : Wo} {Wx : WX} {X : Cx} {G : Gh} {H : Hp}
end Mr
namespace Mr
open PySem PySem.Spec PyProof.Rows L2 RZ
section
variable {K : PySem.W.Frag} {O : Wo} {Wx : WX} {X : Cx}
end
section
variable {X : Cx}
theorem ps_setDc {i : Nat} {y : Str} {py : Pos} {kx vx tg iter : Expr} {ifs : List Expr} {scope : Scope} {own : List (Str × Nat)} {pos spos : Pos} {wi : TI} {g : TG} {tt : TT} {tk tv : TE} (hc : X.calm = true) (hN : X.N.Nodup) (hy : X.N[i]? = some y) (hyl : X.env.scope.names.lookup y = some .local)
    (hsw : swapsWith (.DictComp kx vx [⟨tg, iter, ifs, 0⟩] scope pos) (some (.Name y py)) spos.line X.env = pure true) (hi : PI X tg iter wi) (ok : BlkOk X.N X.env.scope scope own)
    (hg : ∀ (s : Shared) (H : Hp) (C : Addr) (cl : List (Str × Addr)) (fp : List Addr), PG (X.blk s H scope (compEnvC scope cl C X.env) fp) tg g) (ht : ∀ (s : Shared) (H : Hp) (C : Addr) (cl : List (Str × Addr)) (fp : List Addr), PTs (X.blk s H scope (compEnvC scope cl C X.env) fp) ifs tt)
    (hk : ∀ (s : Shared) (H : Hp) (C : Addr) (cl : List (Str × Addr)) (fp : List Addr), PE (X.blk s H scope (compEnvC scope cl C X.env) fp) kx tk)
    (he : ∀ (s : Shared) (H : Hp) (C : Addr) (cl : List (Str × Addr)) (fp : List Addr), PE (X.blk s H scope (compEnvC scope cl C X.env) fp) vx tv) (hs : ∀ x, foldedSetIterable iter X.env x = pure x := by intro _; rfl) :
    PS X (.Assign [.Name y py] (.DictComp kx vx [⟨tg, iter, ifs, 0⟩] scope pos) spos) (tAsg (tDc wi g tt tk tv (own.map (·.2))) (gName i)) := by
  refine ⟨fun pins s σ H D I h => ?_⟩
  rw [exec_Assign_Name_used _ _ _ _ hsw]
  refine wpAny_bind (wpAny_standAt (wpAny_bind ?_))
  show wpAny _ X.A (do let _ ← comprehension (.DictComp kx vx [⟨tg, iter, ifs, 0⟩] scope pos) scope X.env (firstIterPos [⟨tg, iter, ifs, 0⟩] pos) newDict false (eval iter X.env) (some (assign (.Name y py) X.env))) _ _ s
  have h : tDc wi g tt tk tv (own.map (·.2)) σ H (fun x H1 => gName i x σ H1 D.nx) := h
  refine wpAny_bind (thn (dc_core (Qf := fun _ s' => SP X pins D .next s') hc hN I hi ok hg ht hk he hs h fun L C s' m H' I' q hn f => ?_) fun _ s' hq => wpAny_pure (wpAny_pure hq))
  show wpAny _ _ (assign (.Name y py) X.env (.ref L)) _ _ _
  refine wpAny_assign_Name (store_ok2 (v := V.ref L) I' hN hy (.inl hyl) rfl (fun s2 I2 ⟨a, sb, ha⟩ => ?_) (.inr hyl))
  obtain ⟨f0, f1, f2, f3, f4, f5⟩ := f
  have haC : C ≠ a := by
    rcases ha with z | z
    · rw [z]; exact f1
    · exact fun e => f4 y a z e.symm
  refine ⟨m, hn.sameBut sb haC, fun h3 sb3 => ?_⟩
  exact ⟨_, H', I2.turned (t' := s2.toks) (fun b o hb e => (sb3.2 b hb).trans e) f0 f1 f3 f4 f5, q⟩
theorem swD_true {kx vx : Expr} {gs : List Comprehension} {scope : Scope} {pos py : Pos} {y : Str} {l : Nat} {env : Env} (hk : env.scope.kind = .function) (hy : env.scope.names.lookup y = some .local) (hl : (py.line == pos.line) = true)
    (ha : (scope.names.any fun (n, k) => n == y && (k == .local || k == .cell)) = false) : swapsWith (.DictComp kx vx gs scope pos) (some (.Name y py)) l env = pure true := by
  have ky : env.kindOf y = some .local := hy
  have hb : env.blockKind = .function := by unfold Env.blockKind; rw [hk]; rfl
  unfold swapsWith
  simp only [hb, ky, ha, Expr.pos, hl]
  rfl
end
section
variable {K : PySem.W.Frag} {O : Wo} {Wx : WX} {X : Cx}
theorem ds_setDcO (i : Nat) {y : Str} {kx vx tg iter : Expr} {ifs : List Expr} {scope : Scope} {own : List (Str × Nat)} {pos py spos : Pos} {wi : TI} {g : TG} {tt : TT} {tk tv : TE} {mi : MJ O} {f : D → Ev → Option Ev} {is : List Nat} {mt : MT O} {mk mv : ME O} (c : Cs K Wx X) (hi : DJ K O Wx X tg iter wi mi) (ok : BlkOk X.N X.env.scope scope own)
    (hg : ∀ (s : Shared) (H : Hp) (C : Addr) (cl : List (Str × Addr)) (fp : List Addr), DG K O (X.blk s H scope (compEnvC scope cl C X.env) fp) tg g f is)
    (ht : ∀ (s : Shared) (H : Hp) (C : Addr) (cl : List (Str × Addr)) (fp : List Addr), Cn K WF (X.blk s H scope (compEnvC scope cl C X.env) fp) → DTs K O WF (X.blk s H scope (compEnvC scope cl C X.env) fp) ifs tt mt)
    (hk : ∀ (s : Shared) (H : Hp) (C : Addr) (cl : List (Str × Addr)) (fp : List Addr), Cn K WF (X.blk s H scope (compEnvC scope cl C X.env) fp) → DE K O WF (X.blk s H scope (compEnvC scope cl C X.env) fp) kx tk mk)
    (he : ∀ (s : Shared) (H : Hp) (C : Addr) (cl : List (Str × Addr)) (fp : List Addr), Cn K WF (X.blk s H scope (compEnvC scope cl C X.env) fp) → DE K O WF (X.blk s H scope (compEnvC scope cl C X.env) fp) vx tv mv)
    (hv : ∀ i ∈ is, i ∈ own.map (·.2) := by decide) (hs : ∀ x, foldedSetIterable iter X.env x = pure x := by intro _; rfl) (hy : X.N[i]? = some y := by rfl) (hyl : X.env.scope.names.lookup y = some .local := by rfl)
    (hsw : swapsWith (.DictComp kx vx [⟨tg, iter, ifs, 0⟩] scope pos) (some (.Name y py)) spos.line X.env = pure true := by exact swD_true rfl rfl rfl (by decide +kernel))
    (hf : X.fn y = true ∨ X.env.scope.names.lookup y = some .local := by first | exact .inl rfl | exact .inr rfl | assumption) :
    DS K O Wx X (.Assign [.Name y py] (.DictComp kx vx [⟨tg, iter, ifs, 0⟩] scope pos) spos) (tAsg (tDc wi g tt tk tv (own.map (·.2))) (gName i)) (mAsg O (mObjD O (mDcS O mi f mt mk mv (own.map (·.2)))) (fName i)) := by
  have cn : ∀ (s : Shared) (H : Hp) (C : Addr) (cl : List (Str × Addr)) (fp : List Addr), Cn K WF (X.blk s H scope (compEnvC scope cl C X.env) fp) := fun s H C cl fp => ⟨c.cn.hK, takes0⟩
  have dm := dm_dc (pos := pos) c hi ok hg ht hk he hv hs
  exact ⟨ps_setDc c.hc c.nd hy hyl hsw hi.pe ok (fun s H C cl fp => (hg s H C cl fp).pe) (fun s H C cl fp => (ht s H C cl fp (cn ..)).pe) (fun s H C cl fp => (hk s H C cl fp (cn ..)).pe) (fun s H C cl fp => (he s H C cl fp (cn ..)).pe) hs,
    snd_asg (DM.obj dm).sn (dg_name (K := K) (O := O) (X := X) (pos := py) i c.nd hy (.inl hyl) hf).sn⟩
end
end Mr
namespace Mr
open PySem PySem.Spec PyProof.Rows L2 RZ
variable {K : PySem.W.Frag}
section
variable {O : Wo} {Wx : WX} {X : Cx} {x : Str} {p p1 pos : Pos}
end
end Mr
namespace Mr
open PySem PySem.Spec PyProof.Rows L2 RZ
section
variable {K : PySem.W.Frag} {O : Wo} {Wx : WX} {X : Cx}
end
end Mr
namespace Mr
open PySem PySem.Spec PyProof.Rows L2 RZ
section
variable {M : Model} {A : Around} {E : Value → Shared → Prop} {t : Shared} {Z : Obj → Prop} {B : Heap} {env : Env} {outer : List Env} {L C a : Addr}
end
section
variable {X : Cx} {pins : List (Addr × Obj)} {σ : L2.St} {H3 : Hp} {s3 : Shared} {sc : Scope} {ce : Env} {fp : List Addr} {W : WX}
end
section
variable {X : Cx}
end
end Mr
namespace Mr
open PySem PySem.Spec PyProof.Rows L2 RZ
section
variable {X : Cx}
end
/-- an error's __init__(self, f1, ..) that stores nothing -/
def spIniN (K : PySem.W.Frag) (C : Addr) (n : Nat) : Sp := fun vs H Q _ => ∃ (a : Addr) (ws : List V), vs = .ref a :: ws ∧ ws.length = n ∧ H a = some (exo a C none) ∧ (∀ v ∈ ws, FmtV K v H) ∧ Q .non H
structure ErTN (P : Program) (w : World) (K : PySem.W.Frag) (mg : Str → Option Value) (base : Heap) (x : Str) (C : Addr) (fs : List Str) : Prop where
  gC : mg x = some (.ref C)
  T : OexC K C
  ini : ∃ fI fd, PySem.W.findIn K (.ref C) "__init__" = some (some (.ref fI)) ∧ PySem.W.typeIn K (.ref fI) = some (.type "function") ∧ FnOk P w K mg base CX0 1 fI fd ("self" :: fs) (spIniN K C fs.length) ∧ Binds K fd ("self" :: fs) []
section
variable {K : PySem.W.Frag} {O : Wo} {Wx : WX} {X : Cx} {G0 : Gh} {H0 : Hp} {G : Gh} {H : Hp} {G1 : Gh} {H1 : Hp} {σ : L2.St} {ρ : Ev} {s s1 : O.S}
end
end Mr
namespace Mr
open PySem PySem.Spec PyProof.Rows L2 RZ
section
variable {K : PySem.W.Frag} {O : Wo} {Wx : WX} {X : Cx}
open Classical in
noncomputable def lcLX (S : Type) (st : S → List Ob) (c : List Ob → Prop) (f : D → Ev → Option Ev) (mt : Ev → S → R S Bool) (me : Ev → S → R S D) (ρ : Ev) : List D → List D → S → R S (List D)
  | [], acc, s => if c (st s) then .ok acc s else .bad
  | d :: ds, acc, s => if c (st s) then (match f d ρ with
    | none => .bad
    | some ρ1 => match mt ρ1 s with
      | .ok true s1 => match me ρ1 s1 with
        | .ok y s2 => if acc.length < 100000 then lcLX S st c f mt me ρ ds (acc ++ [y]) s2 else .bad
        | .err c fs s2 => .err c fs s2
        | .bad => .bad
      | .ok false s1 => lcLX S st c f mt me ρ ds acc s1
      | _ => .bad) else .bad
end
end Mr
namespace Mr
open PySem PySem.Spec PyProof.Rows L2 RZ
def putT (kvs : List (List Key × D)) (k : List Key) (v : D) : List (List Key × D) := if (kvs.any fun kv => decide (kv.1 = k)) = true then kvs.map (fun kv => if kv.1 = k then (kv.1, v) else kv) else kvs ++ [(k, v)]
def valT (kvs : List (List Key × D)) (k : List Key) : Option D := (kvs.find? fun kv => decide (kv.1 = k)).map (·.2)
def toKeys : List D → Option (List Key)
  | [] => some []
  | .int i :: ds => (toKeys ds).map (.inl i :: ·)
  | _ :: _ => none
section
variable {K : PySem.W.Frag} {O : Wo} {Wx : WX} {X : Cx} {G0 : Gh} {H0 : Hp} {G : Gh} {H : Hp} {G1 : Gh} {H1 : Hp} {σ : L2.St} {ρ : Ev} {s s1 : O.S}
theorem RepT.any {vs : List (List Key × V)} {ds : List (List Key × D)} (r : RepT K G vs ds) (k : List Key) : (vs.any fun kv => decide (kv.1 = k)) = ds.any fun kv => decide (kv.1 = k) := by
  induction vs generalizing ds with
  | nil => cases r; rfl
  | cons p vs ih =>
    cases r with
    | cons h r => rw [List.any_cons, List.any_cons, ih r]
theorem RepT.mapK {v : V} {d : D} (q : Rep K G v d) (k : List Key) : ∀ {vs : List (List Key × V)} {ds : List (List Key × D)}, RepT K G vs ds → RepT K G (vs.map (fun kv => if kv.1 = k then (kv.1, v) else kv)) (ds.map (fun kv => if kv.1 = k then (kv.1, d) else kv))
  | _, _, .nil => .nil
  | (f, _) :: _, _, .cons h r => by
    rw [List.map_cons, List.map_cons]
    by_cases e : f = k
    · subst e
      simp only [if_true]
      exact .cons q (r.mapK q f)
    · simp only [e, if_false]
      exact .cons h (r.mapK q k)
theorem RepT.append : ∀ {a b : List (List Key × V)} {c d : List (List Key × D)}, RepT K G a c → RepT K G b d → RepT K G (a ++ b) (c ++ d)
  | _, _, _, _, .nil, r => r
  | _, _, _, _, .cons h r, q => .cons h (r.append q)
theorem RepT.put {v : V} {d : D} {k : List Key} {vs : List (List Key × V)} {ds : List (List Key × D)} (r : RepT K G vs ds) (q : Rep K G v d) : RepT K G (putK vs k v) (putT ds k d) := by
  unfold putK putT
  rw [r.any k]
  split
  · exact r.mapK q k
  · exact r.append (.cons q .nil)
theorem RepT.val {vs : List (List Key × V)} {ds : List (List Key × D)} {k : List Key} {d : D} (r : RepT K G vs ds) (h : valT ds k = some d) : ∃ v, valV vs k = some v ∧ Rep K G v d := by
  induction vs generalizing ds with
  | nil => cases r; cases h
  | cons p vs ih =>
    cases r with
    | @cons f v e vs ds q r =>
      unfold valT at h
      rw [List.find?_cons] at h
      unfold valV
      rw [List.find?_cons]
      by_cases hf : f = k
      · subst hf
        simp only [decide_true] at h ⊢
        cases h
        exact ⟨v, rfl, q⟩
      · simp only [hf, decide_false] at h ⊢
        exact ih r h
theorem RepT.length {vs : List (List Key × V)} {ds : List (List Key × D)} (r : RepT K G vs ds) : vs.length = ds.length := by
  induction vs generalizing ds with
  | nil => cases r; rfl
  | cons p vs ih =>
    cases r with
    | cons q r => rw [List.length_cons, List.length_cons, ih r]
theorem Reps.keys : ∀ {vs : List V} {ds : List D} {ks : List Key}, Reps K G vs ds → toKeys ds = some ks → vs = ks.map kV ∧ ∀ x ∈ vs, ∃ i, x = V.int i
  | _, _, _, .nil, h => by cases h; exact ⟨rfl, fun x h => by cases h⟩
  | _, _, _, .cons q r, h => by
    cases q <;> first | (cases h; done) | skip
    unfold toKeys at h
    rw [Option.map_eq_some_iff] at h
    obtain ⟨ks, e2, rfl⟩ := h
    obtain ⟨e, f⟩ := r.keys e2
    refine ⟨by rw [e]; rfl, fun x hx => ?_⟩
    rcases List.mem_cons.mp hx with rfl | hx
    · exact ⟨_, rfl⟩
    · exact f x hx
end
end Mr
namespace Mr
open PySem PySem.Spec PyProof.Rows L2 RZ
section
variable {X : Cx}
end
section
variable {K : PySem.W.Frag} {O : Wo} {Wx : WX} {X : Cx} {G : Gh} {H : Hp}
end
end Mr
namespace Mr
open PySem PySem.Spec PyProof.Rows L2 RZ
section
variable {K : PySem.W.Frag} {X : Cx}
end
def IsP2 (h : Heap) (v : Value) (x : Int × Int) : Prop := ∃ a o t t2 n, v = Value.ref a ∧ h.get? a = some o ∧ o.cls = .type "tuple" ∧ o.data = .seq #[.int x.1 t, .int x.2 t2] n
theorem IsP2.keeps {h h' : Heap} {v : Value} {x : Int × Int} (p : IsP2 h v x) (k : ∀ b o, h.get? b = some o → o.cls = .type "tuple" → h'.get? b = some o) : IsP2 h' v x := by
  obtain ⟨a, o, t, u, n, e, ho, hc, hd⟩ := p
  exact ⟨a, o, t, u, n, e, k _ _ ho hc, hc, hd⟩
def ltP (x y : Int × Int) : Prop := x.1 < y.1 ∨ x.1 = y.1 ∧ x.2 < y.2
def leP (x y : Int × Int) : Prop := x.1 < y.1 ∨ x.1 = y.1 ∧ x.2 ≤ y.2
instance : ∀ x y, Decidable (ltP x y) := fun x y => by unfold ltP; infer_instance
instance : ∀ x y, Decidable (leP x y) := fun x y => by unfold leP; infer_instance
theorem not_ltP {x y : Int × Int} : ¬ ltP y x ↔ leP x y := by unfold ltP leP; omega
abbrev lt2P {α : Type} (k : α → Int × Int) (x y : α) : Bool := decide (ltP (k x) (k y))
theorem lt2P_swo {α : Type} (k : α → Int × Int) : SrtO.Swo (lt2P k) := by
  refine ⟨fun x y h => ?_, fun x y z h1 h2 => ?_⟩
  · have := of_decide_eq_true h
    refine decide_eq_false ?_
    unfold ltP at *
    omega
  · have a := of_decide_eq_false h1
    have b := of_decide_eq_false h2
    refine decide_eq_false ?_
    unfold ltP at *
    omega
section
variable {prog : Program} {w : World} {A : Around} {E : Value → Shared → Prop} {s : Shared}
theorem p2_cmp {vs : List Value} {k : Value → Int × Int} (hp : ∀ v ∈ vs, IsP2 s.heap v (k v)) : SrtO.Cmp prog w A s (tuples' true) (fun p => p.1 ∈ vs) (SrtO.lt2 (lt2P k)) := by
  intro p q hm hm'
  have h1 := hp _ hm
  have h2 := hp _ hm'
  show wpAny (model prog w) A (keyLt' (tuples' true) p.1 q.1) (fun r s' => s' = s ∧ r = decide (ltP (k p.1) (k q.1))) (fun _ _ => False) s
  generalize k p.1 = x at h1 ⊢
  generalize k q.1 = x' at h2 ⊢
  obtain ⟨x, y⟩ := x
  obtain ⟨x', y'⟩ := x'
  obtain ⟨a, o, t, u, n, e, ho, hc, hd⟩ := h1
  obtain ⟨a', o', t', u', n', e', ho', hc', hd'⟩ := h2
  rw [e, e']
  refine PySem.W.kat_lt ho hd ho' hd' ?_
  show PySem.W.KatLex prog w A true (decide (2 < 2)) _ [(.int x t, .int x' t'), (.int y u, .int y' u')] 0 s
  refine PySem.W.kat_cons (SeqAt.EqAt.int_int x t x' t' prog w _ _ ?_)
  refine PySem.W.kat_go (fun e1 => ?_) (fun e1 => ?_)
  · have e1 : x = x' := by simpa using e1
    subst e1
    refine PySem.W.kat_yes (PySem.W.kat_cons (SeqAt.EqAt.int_int y u y' u' prog w _ _ ?_))
    refine PySem.W.kat_go (fun e2 => ?_) (fun e2 => ?_)
    · have e2 : y = y' := by simpa using e2
      subst e2
      exact PySem.W.kat_yes (PySem.W.kat_nil ⟨rfl, (decide_eq_false (by unfold ltP; omega)).symm⟩)
    · have e2 : y ≠ y' := by simpa using e2
      have : (y < y') ↔ ltP (x, y) (x, y') := by unfold ltP; simp
      exact PySem.W.kat_no (TS.oneLt_ints _ ⟨rfl, decide_eq_decide.mpr this⟩)
  · have e1 : x ≠ x' := by simpa using e1
    have : (x < x') ↔ ltP (x, y) (x', y') := by unfold ltP; simp [e1]
    exact PySem.W.kat_no (TS.oneLt_ints _ ⟨rfl, decide_eq_decide.mpr this⟩)
theorem p2_firsts {h : Heap} : ∀ {vs : List Value}, (∀ v ∈ vs, ∃ x, IsP2 h v x) → ∃ fs : List Value, PySem.W.KatTups h vs fs ∧ fs.length = vs.length ∧ ∀ f ∈ fs, ∃ x t, f = Value.int x t
  | [], _ => ⟨[], PySem.W.KatTups.nil, rfl, fun _ hm => by simp at hm⟩
  | v :: vs, hp => by
    obtain ⟨fs, h1, h2, h3⟩ := p2_firsts (vs := vs) fun v' hm => hp v' (List.mem_cons_of_mem _ hm)
    obtain ⟨x, a, o, t, u, n, e, ho, hc, hd⟩ := hp v (List.mem_cons_self ..)
    subst e
    refine ⟨.int x.1 t :: fs, PySem.W.KatTups.cons ho hc hd rfl h1, by rw [List.length_cons, List.length_cons, h2], fun f hm => ?_⟩
    rcases List.mem_cons.mp hm with rfl | hm
    · exact ⟨x.1, t, rfl⟩
    · exact h3 f hm
theorem p2_sortable {a : Addr} {vs : List Value} {k : Value → Int × Int} (h0 : 0 < vs.length) (hp : ∀ v ∈ vs, IsP2 s.heap v (k v)) (ha : ∀ o, s.heap.get? a = some o → o.cls ≠ .type "tuple") : SrtO.SortableO prog w A s a vs (lt2P k) := by
  intro h' keep
  have hp' : ∀ v ∈ vs, IsP2 h' v (k v) := fun v hm => (hp v hm).keeps fun b o e c => keep b o (fun z => by subst z; exact ha o e c) e
  obtain ⟨fs, h1, h2, h3⟩ := p2_firsts fun v hm => ⟨_, hp' v hm⟩
  refine ⟨tuples' true, fun Q E hq => ?_, p2_cmp hp'⟩
  refine PySem.W.kat_kind (T := .type "int") h1 (by omega) (fun f hm => ?_) (by rfl) ?_
  · obtain ⟨x, t, rfl⟩ := h3 f hm
    exact PySem.W.Looks.now
  · have e : (Value.type "int" != Value.type "tuple") = true := by first | decide +kernel | rfl | decide
    rw [e]
    exact hq
theorem sorted_p2 {l : Addr} {vs : List Value} {k : Value → Int × Int} {Q : Value → Shared → Prop} (hl : s.heap.IsList l vs.toArray) (hz : vs.length ≤ sizeLine) (hp : ∀ v ∈ vs, IsP2 s.heap v (k v))
    (h : ∀ (h' : Heap) (d : Addr) (out : List Value), SrtO.Srtd (lt2P k) out → out.Perm vs → (∀ b o, s.heap.get? b = some o → h'.get? b = some o) → s.heap.objs.size ≤ d → (∃ n, h'.get? d = some (seqObj "list" out.toArray n)) → Q (.ref d) { s with heap := h' }) :
    wpAny (model prog w) A (call (.builtin "sorted") [.ref l]) Q E s := by
  refine SrtO.sorted_ord (lt2P_swo k) hl hz (fun h2 h₁ a ha kk => ?_) fun out hs hb => ?_
  · refine p2_sortable (s := { s with heap := h₁ }) (by omega) (fun v hm => (hp v hm).keeps fun b o e _ => (kk b o e).2) fun o e => ?_
    have e' : some o = some (seqObj "list" vs.toArray 0) := e.symm.trans ha
    cases e'
    intro c
    exact absurd (Value.type.inj c) (by decide)
  · exact h _ _ out hs hb.perm (fun b o e => sortedAll_old e) (Nat.le_succ _) (sortedAll_at s.heap vs out.toArray)
end
def rSortedP2 (K : PySem.W.Frag) : List V → Hp → VK → Prop := fun vs H Q => ∃ (a : Addr) (xs : List V) (ns : List (Int × Int)), vs = [V.ref a] ∧ SqL K H a xs ∧ Paired (fun x n => ∃ t, x = V.ref t ∧ SqT K H t [.int n.1, .int n.2]) xs ns ∧
  ∀ (zs : List (V × (Int × Int))) p, zs.Pairwise (fun a b => leP a.2 b.2) → zs.Perm (xs.zip ns) → H p = none → Q (.ref p) (upd H p (.lst (zs.map (·.1))))
open Classical in
theorem cr_sortedP2 {X : Cx} : CallR X (.builtin "sorted") (rSortedP2 X.K) := by
  intro pins s σ H vs us Q I r h
  obtain ⟨a, xs, ns, rfl, hs, hp, q⟩ := h
  obtain ⟨its, rv, hl, hz⟩ := I.list hs
  obtain ⟨u, rfl, ru⟩ := vals1 r
  obtain rfl : u = Value.ref a := ru
  have hx : ∀ x ∈ xs, ∃ (n : Int × Int) (t : Addr), x = V.ref t ∧ SqT X.K H t [.int n.1, .int n.2] := fun x m => by
    obtain ⟨j, hj⟩ := List.mem_iff_getElem?.mp m
    obtain ⟨n, _, t, e, ht⟩ := paired_at hp hj
    exact ⟨n, t, e, ht⟩
  -- the key of a thing
  let k : V → Int × Int := fun x => if h : ∃ (n : Int × Int) (t : Addr), x = V.ref t ∧ SqT X.K H t [.int n.1, .int n.2] then h.choose else (0, 0)
  have hk : ∀ (n : Int × Int) t, SqT X.K H t [.int n.1, .int n.2] → k (.ref t) = n := fun n t ht => by
    have hE : ∃ (n' : Int × Int) (t' : Addr), V.ref t = V.ref t' ∧ SqT X.K H t' [.int n'.1, .int n'.2] := ⟨n, t, rfl, ht⟩
    obtain ⟨t', e, ht'⟩ := hE.choose_spec
    have e' : t = t' := V.ref.inj e
    subst e'
    have := I.tuple_inj ht' ht
    have e2 : V.int hE.choose.1 = V.int n.1 := (List.cons.inj this).1
    have e3 : V.int hE.choose.2 = V.int n.2 := (List.cons.inj (List.cons.inj this).2).1
    show (if h : _ then _ else _) = _
    rw [dif_pos hE]
    exact Prod.ext (V.int.inj e2) (V.int.inj e3)
  have hns : ns = xs.map k := by
    refine List.ext_getElem? fun j => ?_
    rw [List.getElem?_map]
    cases e : xs[j]? with
    | none =>
      have := paired_len hp
      rw [List.getElem?_eq_none_iff] at e
      exact List.getElem?_eq_none (by omega)
    | some x =>
      obtain ⟨n, e1, t, rfl, ht⟩ := paired_at hp e
      rw [e1, Option.map_some, hk n t ht]
  obtain ⟨e1, e2⟩ := refs_back rv fun x m => by
    obtain ⟨_, t, e, _⟩ := hx x m
    exact ⟨t, e⟩
  have mem : ∀ v ∈ its, backV v ∈ xs := fun v hv => by rw [e1]; exact List.mem_map.mpr ⟨_, hv, rfl⟩
  refine sorted_p2 (k := fun u => k (backV u)) hl.isList (by rw [← rv.length]; exact hz) (fun v hv => ?_) fun h' d out h1 h2 kp hd hn => ?_
  · obtain ⟨t, rfl⟩ := e2 v hv
    obtain ⟨n, t', e, ht⟩ := hx _ (mem _ hv)
    have e' : t = t' := by
      have : V.ref t = V.ref t' := e
      exact V.ref.inj this
    subst e'
    obtain ⟨its2, r2, p2, _⟩ := I.tuple ht
    obtain ⟨o, ho, hc, m, hd⟩ := p2
    obtain ⟨u1, u2, rfl, ri, rj⟩ := vals2 r2
    obtain ⟨t1, rfl⟩ := ri
    obtain ⟨t2, rfl⟩ := rj
    have := hk n t ht
    refine ⟨t, o, t1, t2, m, rfl, ho, hc, ?_⟩
    show o.data = .seq #[.int (k (.ref t)).1 t1, .int (k (.ref t)).2 t2] m
    rw [this]
    exact hd
  · have h3 : ∀ u ∈ out, ∃ a, u = Value.ref a := fun u hu => e2 u (h2.mem_iff.mp hu)
    obtain ⟨n, hn⟩ := hn
    have hb : (out.map backV).Perm xs := by
      rw [e1]
      exact h2.map backV
    have hz2 : xs.zip ns = xs.map fun x => (x, k x) := by
      rw [hns]
      exact zip_own k xs
    have key := q ((out.map backV).map fun x => (x, k x)) d (by
      have h4 : SrtO.Srtd (lt2P k) (out.map backV) := SrtO.srtd_map h1
      rw [List.pairwise_map]
      exact h4.imp fun h => not_ltP.mp (of_decide_eq_false h)) (by rw [hz2]; exact hb.map _) (I.hok.fresh hd)
    have em : ((out.map backV).map fun x => (x, k x)).map (·.1) = out.map backV := by rw [List.map_map]; exact (List.map_congr_left fun x _ => rfl).trans (List.map_id _)
    rw [em] at key
    refine ⟨.ref d, upd H d (.lst (out.map backV)), I.laid (t' := s.toks) kp hd ⟨?_, out, n, vals_back h3, hn⟩, rfl, key⟩
    rw [hb.length_eq]
    exact hz
section
variable {K : PySem.W.Frag} {O : Wo} {Wx : WX} {X : Cx} {G : Gh} {H : Hp}
end
end Mr
namespace S
open PySem PySem.Spec PyProof.Rows L2 RZ Mr
noncomputable section
def mb_law_mixed (A : Ad) : MS (O A) :=
  (mSeq (O A) (mAsg (O A) (mBin (O A) dMod (mBin (O A) dPow (mBin (O A) dAdd (mBin (O A) dAdd (mBin (O A) dMod (mVar (O A) 0) (mC (O A) (.int 2147483647))) (mBin (O A) dMul (mC (O A) (.int 7919)) (mVar (O A) 1))) (mC (O A) (.int 104729))) (mC (O A) (.int 5))) (mC (O A) (.int 2147483629))) (fName 2))
  (mRet (O A) (mBin (O A) dMod (mBin (O A) dPow (mBin (O A) dAdd (mBin (O A) dAdd (mBin (O A) dMul (mVar (O A) 2) (mC (O A) (.int 48271))) (mBin (O A) dMul (mBin (O A) dMul (mC (O A) (.int 40503)) (mVar (O A) 1)) (mVar (O A) 1))) (mC (O A) (.int 13))) (mC (O A) (.int 3))) (mC (O A) (.int 1000000007)))))
def m_law_mixed (A : Ad) : List D → Dr → R Dr D := runF (O A) 3 (mb_law_mixed A)
def mb_law_take (A : Ad) : MS (O A) :=
  (mSeq (O A) (mDrSet A.d A.a A.b 0 3 (mBin (O A) dAdd (mDrI A.d A.a A.b 0 3) (mC (O A) (.int 1))))
  (mSeq (O A) (mIfS (O A) (mAnd (O A) (mTest (O A) (mBin (O A) dEq (mDrI A.d A.a A.b 0 1) (mC (O A) (.int 0)))) (mDrNe A.d A.a A.b 0 0)) (mDrPop A.d A.a A.b 0) (mNext (O A)))
  (mSeq (O A) (mIfS (O A) (mTest (O A) (mBin (O A) dGt (mDrI A.d A.a A.b 0 1) (mC (O A) (.int 0))))
    (mSeq (O A) (mAsg (O A) (mBin (O A) dMod (mDrI A.d A.a A.b 0 1) (mVar (O A) 1)) (fName 2))
    (mSeq (O A) (mDrSet A.d A.a A.b 0 1 (mBin (O A) dDiv (mDrI A.d A.a A.b 0 1) (mVar (O A) 1))) (mRet (O A) (mVar (O A) 2)))) (mNext (O A)))
  (mSeq (O A) (mAsg (O A) (mC (O A) (.int 17)) (fName 3))
  (mSeq (O A) (mIfS (O A) (mDrNe A.d A.a A.b 0 2) (mAsg (O A) (mDrIx A.d A.a A.b 0 2 (mBin (O A) dMod (mDrI A.d A.a A.b 0 3) (mDrLen A.d A.a A.b 0 2))) (fName 3)) (mNext (O A)))
  (mSeq (O A) (mAsg (O A) (mC (O A) (.int 0)) (fName 2))
  (mSeq (O A) (mAsg (O A) (mC (O A) (.int 1)) (fName 4))
  (mSeq (O A) (mWhile (O A) (fun _ _ => 100) (mTest (O A) (mBin (O A) dLt (mVar (O A) 4) (mVar (O A) 1)))
    (mSeq (O A) (mAsg (O A) (mBin (O A) dAdd (mBin (O A) dMul (mVar (O A) 2) (mC (O A) (.int 1000000007))) (mCall (O A) 2 (m_law_mixed A) (mCons (O A) (mVar (O A) 3) (mCons (O A) (mBin (O A) dAdd (mDrI A.d A.a A.b 0 3) (mBin (O A) dMul (mC (O A) (.int 1009)) (mBin (O A) dMod (mVar (O A) 2) (mC (O A) (.int 97))))) (mNil (O A)))))) (fName 2))
    (mAsg (O A) (mBin (O A) dMul (mVar (O A) 4) (mC (O A) (.int 1000000007))) (fName 4))))
  (mRet (O A) (mBin (O A) dMod (mVar (O A) 2) (mVar (O A) 1)))))))))))
def m_law_take (A : Ad) : List D → Dr → R Dr D := runF (O A) 5 (mb_law_take A)
end
end S
namespace S
open PySem PySem.Spec PyProof.Rows L2 RZ Mr
/-- the evaluation equations, all in one -/
theorem EE : type_of% (And.intro @runF.eq_1 <| And.intro @mSeq.eq_1 <| And.intro @mAsg.eq_1 <| And.intro @mBin.eq_1 <| And.intro @mUn.eq_1 <| And.intro @mVar.eq_1 <| And.intro @mC.eq_1 <| And.intro @mRet.eq_1 <| And.intro @mNext.eq_1 <| And.intro @mIfS.eq_1 <| And.intro @mTest.eq_1 <| And.intro @mTruth.eq_1 <| And.intro @mAnd.eq_1 <| And.intro @mOr.eq_1 <| And.intro @mNot.eq_1 <| And.intro @mAndV.eq_1 <| And.intro @mOrV.eq_1 <| And.intro @mNotV.eq_1 <| And.intro @mCl.eq_1 <| And.intro @mCons.eq_1 <| And.intro @mNil.eq_1 <| And.intro @mCall.eq_1 <| And.intro @mDrop.eq_1 <| And.intro @mDrI.eq_1 <| And.intro @mDrNe.eq_1 <| And.intro @mDrIx.eq_1 <| And.intro @mDrLen.eq_1 <| And.intro @mDrSet.eq_1 <| And.intro @mDrPop.eq_1 <| And.intro @drL.eq_1 <| And.intro @isDr0 <| And.intro @fName.eq_1 <| And.intro @bind_ok <| And.intro @bind_err <| And.intro @bind_bad <| And.intro @eAdd <| And.intro @eSub <| And.intro @eMul <| And.intro @eDiv <| And.intro @eMod <| And.intro @ePow <| And.intro @eNeg <| And.intro @eLt <| And.intro @eLe <| And.intro @eGt <| And.intro @eGe <| And.intro @eEqI <| And.intro @eNeI <| And.intro @eEqB <| And.intro @eNeB <| And.intro @eIdxL <| And.intro @eIdxT <| And.intro @eBool <| And.intro @eAbs <| And.intro @Bool.false_eq_true <| And.intro @dList.eq_1 <| And.intro @dTup.eq_1 <| And.intro @if_true.{1} <| And.intro @if_false.{1} <| And.intro @if_pos.{1} <| And.intro @List.map_cons.{0,0} <| And.intro @List.map_nil.{0,0} <| And.intro @List.length_cons.{0} <| And.intro @List.length_nil.{0} <| And.intro @List.cons_append.{0} <| And.intro @List.nil_append.{0} <| And.intro @List.getElem?_cons_zero.{0} <| And.intro @List.getElem?_cons_succ.{0} <| And.intro @List.set_cons_zero.{0} <| And.intro @List.set_cons_succ.{0} <| And.intro @Bool.not_true <| And.intro @Bool.not_false <| And.intro @decide_true <| And.intro @decide_false <| And.intro @ite_true.{1} <| And.intro @ite_false.{1} <| And.intro @mIf.eq_1 <| And.intro @mLst.eq_1 <| And.intro @mSlice.eq_1 <| And.intro @mPart.eq_1 <| And.intro @mNoPart.eq_1 <| And.intro @mItS.eq_1 <| And.intro @mItL.eq_1 <| And.intro @mItT.eq_1 <| And.intro @mFor.eq_1 <| And.intro @mPar.eq_1 <| And.intro @mPass.eq_1 <| And.intro @mBrk.eq_1 <| And.intro @mCnt.eq_1 <| @mRetN.eq_1) :=
  (And.intro @runF.eq_1 <| And.intro @mSeq.eq_1 <| And.intro @mAsg.eq_1 <| And.intro @mBin.eq_1 <| And.intro @mUn.eq_1 <| And.intro @mVar.eq_1 <| And.intro @mC.eq_1 <| And.intro @mRet.eq_1 <| And.intro @mNext.eq_1 <| And.intro @mIfS.eq_1 <| And.intro @mTest.eq_1 <| And.intro @mTruth.eq_1 <| And.intro @mAnd.eq_1 <| And.intro @mOr.eq_1 <| And.intro @mNot.eq_1 <| And.intro @mAndV.eq_1 <| And.intro @mOrV.eq_1 <| And.intro @mNotV.eq_1 <| And.intro @mCl.eq_1 <| And.intro @mCons.eq_1 <| And.intro @mNil.eq_1 <| And.intro @mCall.eq_1 <| And.intro @mDrop.eq_1 <| And.intro @mDrI.eq_1 <| And.intro @mDrNe.eq_1 <| And.intro @mDrIx.eq_1 <| And.intro @mDrLen.eq_1 <| And.intro @mDrSet.eq_1 <| And.intro @mDrPop.eq_1 <| And.intro @drL.eq_1 <| And.intro @isDr0 <| And.intro @fName.eq_1 <| And.intro @bind_ok <| And.intro @bind_err <| And.intro @bind_bad <| And.intro @eAdd <| And.intro @eSub <| And.intro @eMul <| And.intro @eDiv <| And.intro @eMod <| And.intro @ePow <| And.intro @eNeg <| And.intro @eLt <| And.intro @eLe <| And.intro @eGt <| And.intro @eGe <| And.intro @eEqI <| And.intro @eNeI <| And.intro @eEqB <| And.intro @eNeB <| And.intro @eIdxL <| And.intro @eIdxT <| And.intro @eBool <| And.intro @eAbs <| And.intro @Bool.false_eq_true <| And.intro @dList.eq_1 <| And.intro @dTup.eq_1 <| And.intro @if_true.{1} <| And.intro @if_false.{1} <| And.intro @if_pos.{1} <| And.intro @List.map_cons.{0,0} <| And.intro @List.map_nil.{0,0} <| And.intro @List.length_cons.{0} <| And.intro @List.length_nil.{0} <| And.intro @List.cons_append.{0} <| And.intro @List.nil_append.{0} <| And.intro @List.getElem?_cons_zero.{0} <| And.intro @List.getElem?_cons_succ.{0} <| And.intro @List.set_cons_zero.{0} <| And.intro @List.set_cons_succ.{0} <| And.intro @Bool.not_true <| And.intro @Bool.not_false <| And.intro @decide_true <| And.intro @decide_false <| And.intro @ite_true.{1} <| And.intro @ite_false.{1} <| And.intro @mIf.eq_1 <| And.intro @mLst.eq_1 <| And.intro @mSlice.eq_1 <| And.intro @mPart.eq_1 <| And.intro @mNoPart.eq_1 <| And.intro @mItS.eq_1 <| And.intro @mItL.eq_1 <| And.intro @mItT.eq_1 <| And.intro @mFor.eq_1 <| And.intro @mPar.eq_1 <| And.intro @mPass.eq_1 <| And.intro @mBrk.eq_1 <| And.intro @mCnt.eq_1 <| @mRetN.eq_1)
end S
namespace S
open PySem PySem.Spec PyProof.Rows L2 RZ Mr
variable {qst : List Ob}
theorem mixed_ok (A : Ad) (z k : Int) (s : Dr) (h0 : 0 ≤ k) (h1 : k ≤ 2000000) : ∃ r, m_law_mixed A [.int z, .int k] s = .ok (.int r) s ∧ 0 ≤ r ∧ r < 1000000007 := by
  have a1 : 0 ≤ z.fmod 2147483647 := Int.fmod_nonneg_of_pos z (by decide)
  have a2 : z.fmod 2147483647 < 2147483647 := Int.fmod_lt_of_pos z (by decide)
  have c1 : CModG z 2147483647 := by unfold CModG; decide
  have c2 : CMulG 7919 k := mulG (by decide) (by decide) (by omega) (by omega)
  have c3 : CPowG (z.fmod 2147483647 + 7919 * k + 104729) 5 := ⟨by decide, by decide, by omega⟩
  have c4 : ∀ y : Int, CModG y 2147483629 := fun y => by unfold CModG; decide
  have c9 : ∀ y : Int, CModG y 1000000007 := fun y => by unfold CModG; decide
  have f1 : 0 ≤ ((z.fmod 2147483647 + 7919 * k + 104729) ^ 5).fmod 2147483629 := Int.fmod_nonneg_of_pos _ (by decide)
  have f2 : ((z.fmod 2147483647 + 7919 * k + 104729) ^ 5).fmod 2147483629 < 2147483629 := Int.fmod_lt_of_pos _ (by decide)
  have c5 : CMulG (((z.fmod 2147483647 + 7919 * k + 104729) ^ 5).fmod 2147483629) 48271 := mulG (by omega) (by omega) (by decide) (by decide)
  have c6 : CMulG 40503 k := mulG (by decide) (by decide) (by omega) (by omega)
  have c7 : CMulG (40503 * k) k := mulG (by omega) (by omega) (by omega) (by omega)
  have k1 : 0 ≤ 40503 * k * k := Int.mul_nonneg (by omega) h0
  have k2 : 40503 * k * k ≤ 40503 * 2000000 * 2000000 := Int.mul_le_mul (by omega) h1 h0 (by omega)
  have c8 : CPowG (((z.fmod 2147483647 + 7919 * k + 104729) ^ 5).fmod 2147483629 * 48271 + 40503 * k * k + 13) 3 := ⟨by decide, by decide, by omega⟩
  refine ⟨_, ?_, Int.fmod_nonneg_of_pos ((((z.fmod 2147483647 + 7919 * k + 104729) ^ 5).fmod 2147483629 * 48271 + 40503 * k * k + 13) ^ 3) (by decide), Int.fmod_lt_of_pos _ (by decide)⟩
  simp only [m_law_mixed, mb_law_mixed, EE, eEqS, seqS, toS, R.lift, asSeq, asList, asTup, List.replicate, Nat.reduceAdd, Nat.reduceSub, Nat.reduceLeDiff, Nat.reduceLT, Nat.reduceMul, Int.reduceToNat, Int.reduceEq, Int.reduceAdd, Int.reduceSub, Int.reduceNeg, reduceIte, Nat.reduceEqDiff, c1, c2, c3, c4, c5, c6, c7, c8, c9]
theorem loop_ok (A : Ad) {n seed : Int} {s : Dr} (hn : n ≤ 10 ^ 150) (k0 : 0 ≤ s.k) (k1 : s.k ≤ 1000000) : ∀ (m : Nat) (found reach : Int), 0 ≤ found → found < reach → n ≤ reach * 1000 ^ m →
    ∃ f' r' : Int, whileL (O A).S (mTest (O A) (mBin (O A) dLt (mVar (O A) 4) (mVar (O A) 1)))
    (mSeq (O A) (mAsg (O A) (mBin (O A) dAdd (mBin (O A) dMul (mVar (O A) 2) (mC (O A) (.int 1000000007))) (mCall (O A) 2 (m_law_mixed A) (mCons (O A) (mVar (O A) 3) (mCons (O A) (mBin (O A) dAdd (mDrI A.d A.a A.b 0 3) (mBin (O A) dMul (mC (O A) (.int 1009)) (mBin (O A) dMod (mVar (O A) 2) (mC (O A) (.int 97))))) (mNil (O A)))))) (fName 2))
    (mAsg (O A) (mBin (O A) dMul (mVar (O A) 4) (mC (O A) (.int 1000000007))) (fName 4))) (m + 1) [.sh (.ref A.d), .sh (.int n), .sh (.int found), .sh (.int seed), .sh (.int reach)] s = .nx [.sh (.ref A.d), .sh (.int n), .sh (.int f'), .sh (.int seed), .sh (.int r')] s := by
  intro m
  induction m with
  | zero =>
    intro found reach h0 h1 h2
    refine ⟨found, reach, ?_⟩
    have h3 : ¬ reach < n := by simpa using h2
    simp only [whileL, EE, eEqS, seqS, toS, R.lift, asSeq, asList, asTup, List.replicate, Nat.reduceAdd, Nat.reduceSub, Nat.reduceLeDiff, Nat.reduceLT, Nat.reduceMul, Int.reduceToNat, Int.reduceEq, Int.reduceAdd, Int.reduceSub, Int.reduceNeg, reduceIte, Nat.reduceEqDiff, h3]
  | succ m ih =>
    intro found reach h0 h1 h2
    by_cases h3 : reach < n
    · have g1 : 0 ≤ found.fmod 97 := Int.fmod_nonneg_of_pos found (by decide)
      have g2 : found.fmod 97 < 97 := Int.fmod_lt_of_pos found (by decide)
      obtain ⟨r, e, r0, r1⟩ := mixed_ok A seed (s.k + 1009 * found.fmod 97) s (by omega) (by omega)
      have c1 : CMulG found 1000000007 := mulG (by omega) (by omega) (by decide) (by decide)
      have c2 : CMulG 1009 (found.fmod 97) := mulG (by decide) (by decide) (by omega) (by omega)
      have c3 : CMulG reach 1000000007 := mulG (by omega) (by omega) (by decide) (by decide)
      have c4 : CModG found 97 := by unfold CModG; decide
      have hp : (0 : Int) ≤ 1000 ^ m := Int.le_of_lt (Int.pow_pos (by decide))
      have h4 : n ≤ reach * 1000000007 * 1000 ^ m := by
        refine Int.le_trans h2 ?_
        rw [Int.pow_succ, Int.mul_comm (1000 ^ m) 1000, ← Int.mul_assoc]
        exact Int.mul_le_mul_of_nonneg_right (by omega) hp
      obtain ⟨f', r', e2⟩ := ih (found * 1000000007 + r) (reach * 1000000007) (by omega) (by omega) h4
      refine ⟨f', r', ?_⟩
      rw [← e2]
      rw [whileL]
      simp only [EE, eEqS, seqS, toS, R.lift, asSeq, asList, asTup, List.replicate, Nat.reduceAdd, Nat.reduceSub, Nat.reduceLeDiff, Nat.reduceLT, Nat.reduceMul, Int.reduceToNat, Int.reduceEq, Int.reduceAdd, Int.reduceSub, Int.reduceNeg, reduceIte, Nat.reduceEqDiff, h3, c1, c2, c3, c4, e]
    · refine ⟨found, reach, ?_⟩
      simp only [whileL, EE, eEqS, seqS, toS, R.lift, asSeq, asList, asTup, List.replicate, Nat.reduceAdd, Nat.reduceSub, Nat.reduceLeDiff, Nat.reduceLT, Nat.reduceMul, Int.reduceToNat, Int.reduceEq, Int.reduceAdd, Int.reduceSub, Int.reduceNeg, reduceIte, Nat.reduceEqDiff, h3]
theorem take_ok (A : Ad) {b n : Int} {s : Dr} (h : OkQ qst b s) (hb : b < 1000000) (h1 : 1 ≤ n) (h2 : n ≤ 10 ^ 150) : ∃ r s', m_law_take A [.ref A.d, .int n] s = .ok (.int r) s' ∧ 0 ≤ r ∧ r < n ∧ OkQ qst (b + 1) s' := by
  obtain ⟨xs, n0, zs, k, st⟩ := s
  obtain ⟨hx, hn, hk, hkb, hst⟩ := h
  dsimp only at hx hn hk hkb hst
  have m0 : n ≠ 0 := by omega
  have m1 : ∀ x : Int, CModG x n := fun x => m0
  have m2 : ∀ x : Int, CDivG x n := fun x => divG m0 (by omega) (by omega)
  have ret : ∀ (x : Int) (ys : List Int), 0 < x → (∀ y ∈ ys, 0 < y) → 0 ≤ x.fmod n ∧ x.fmod n < n ∧ OkQ qst (b + 1) ⟨ys, x.fdiv n, zs, k + 1, st⟩ := fun x ys hx hy =>
    ⟨Int.fmod_nonneg_of_pos x (by omega), Int.fmod_lt_of_pos x (by omega), hy, Int.fdiv_nonneg (by omega) (by omega), by show 0 ≤ k + 1; omega, by show k + 1 ≤ b + 1; omega, hst⟩
  by_cases hz : n0 = 0
  · subst hz
    cases xs with
    | cons x xs =>
      have x0 : 0 < x := hx x List.mem_cons_self
      refine ⟨_, _, ?_, ret x xs x0 fun y hy => hx y (List.mem_cons_of_mem _ hy)⟩
      simp only [m_law_take, mb_law_take, EE, eEqS, seqS, toS, R.lift, asSeq, asList, asTup, List.replicate, Nat.reduceAdd, Nat.reduceSub, Nat.reduceLeDiff, Nat.reduceLT, Nat.reduceMul, Int.reduceToNat, Int.reduceEq, Int.reduceAdd, Int.reduceSub, Int.reduceNeg, reduceIte, Nat.reduceEqDiff, Option.map_some, m1, m2, List.isEmpty_cons, x0]
    | nil =>
      have ok : OkQ qst (b + 1) ⟨[], 0, zs, k + 1, st⟩ := ⟨hx, Int.le_refl _, by show 0 ≤ k + 1; omega, by show k + 1 ≤ b + 1; omega, hst⟩
      have fin : ∀ f : Int, 0 ≤ f.fmod n ∧ f.fmod n < n := fun f => ⟨Int.fmod_nonneg_of_pos f (by omega), Int.fmod_lt_of_pos f (by omega)⟩
      have lp : ∀ seed : Int, _ := fun seed => loop_ok A (n := n) (seed := seed) (s := ⟨[], 0, zs, k + 1, st⟩) h2 (by show 0 ≤ k + 1; omega) (by show k + 1 ≤ 1000000; omega) 99 0 1 (by decide) (by decide) (by
        refine Int.le_trans h2 ?_
        decide +kernel)
      cases zs with
      | nil =>
        obtain ⟨f', r', e⟩ := lp 17
        refine ⟨f'.fmod n, _, ?_, (fin f').1, (fin f').2, ok⟩
        simp only [m_law_take, mb_law_take, mWhile, EE, eEqS, seqS, toS, R.lift, asSeq, asList, asTup, List.replicate, Nat.reduceAdd, Nat.reduceSub, Nat.reduceLeDiff, Nat.reduceLT, Nat.reduceMul, Int.reduceToNat, Int.reduceEq, Int.reduceAdd, Int.reduceSub, Int.reduceNeg, reduceIte, Nat.reduceEqDiff, Option.map_some, m1, m2, List.isEmpty_nil, Int.lt_irrefl]
        rw [e]
        simp only [EE, eEqS, seqS, toS, R.lift, asSeq, asList, asTup, List.replicate, Nat.reduceAdd, Nat.reduceSub, Nat.reduceLeDiff, Nat.reduceLT, Nat.reduceMul, Int.reduceToNat, Int.reduceEq, Int.reduceAdd, Int.reduceSub, Int.reduceNeg, reduceIte, Nat.reduceEqDiff, m1]
      | cons z zs =>
        have l0 : ((zs.length + 1 : Nat) : Int) ≠ 0 := by omega
        have l1 : CModG (k + 1) ((zs.length + 1 : Nat) : Int) := l0
        obtain ⟨y, ey, _⟩ := atI_ok (xs := z :: zs) (i := (k + 1).fmod ((zs.length + 1 : Nat) : Int)) (Int.fmod_nonneg_of_pos _ (by omega)) (by rw [List.length_cons]; exact Int.fmod_lt_of_pos _ (by omega))
        obtain ⟨f', r', e⟩ := lp y
        refine ⟨f'.fmod n, _, ?_, (fin f').1, (fin f').2, ok⟩
        simp only [m_law_take, mb_law_take, mWhile, EE, eEqS, seqS, toS, R.lift, asSeq, asList, asTup, List.replicate, Nat.reduceAdd, Nat.reduceSub, Nat.reduceLeDiff, Nat.reduceLT, Nat.reduceMul, Int.reduceToNat, Int.reduceEq, Int.reduceAdd, Int.reduceSub, Int.reduceNeg, reduceIte, Nat.reduceEqDiff, Option.map_some, m1, m2, List.isEmpty_cons, List.isEmpty_nil, Int.lt_irrefl, l1, ey]
        rw [e]
        simp only [EE, eEqS, seqS, toS, R.lift, asSeq, asList, asTup, List.replicate, Nat.reduceAdd, Nat.reduceSub, Nat.reduceLeDiff, Nat.reduceLT, Nat.reduceMul, Int.reduceToNat, Int.reduceEq, Int.reduceAdd, Int.reduceSub, Int.reduceNeg, reduceIte, Nat.reduceEqDiff, m1]
  · have x0 : 0 < n0 := by omega
    have hz' : decide (n0 = 0) = false := decide_eq_false hz
    refine ⟨_, _, ?_, ret n0 xs x0 hx⟩
    simp only [m_law_take, mb_law_take, EE, eEqS, seqS, toS, R.lift, asSeq, asList, asTup, List.replicate, Nat.reduceAdd, Nat.reduceSub, Nat.reduceLeDiff, Nat.reduceLT, Nat.reduceMul, Int.reduceToNat, Int.reduceEq, Int.reduceAdd, Int.reduceSub, Int.reduceNeg, reduceIte, Nat.reduceEqDiff, Option.map_some, m1, m2, hz', x0]
theorem at0 {α : Type} (a : α) (r : List α) : atI (a :: r) 0 = some a := by
  unfold atI ixN
  rw [if_pos (by decide), if_pos (by simp)]
  rfl
theorem at1 {α : Type} (a b : α) (r : List α) : atI (a :: b :: r) 1 = some b := by
  unfold atI ixN
  rw [if_pos (by decide), if_pos (by simp; omega)]
  rfl
end S
namespace S
open PySem PySem.Spec PyProof.Rows L2 RZ Mr
variable {qst : List Ob}
def Nx {O : Wo} (P : Ev → O.S → Prop) (r : RS O.S) : Prop := ∃ ρ s, r = .nx ρ s ∧ P ρ s
theorem Nx.mono {O : Wo} {P Q : Ev → O.S → Prop} {r : RS O.S} (h : Nx P r) (f : ∀ ρ s, P ρ s → Q ρ s) : Nx Q r := by
  obtain ⟨ρ, s, e, p⟩ := h
  exact ⟨ρ, s, e, f ρ s p⟩
theorem nx_seq {O : Wo} {a b : MS O} {ρ : Ev} {s : O.S} {Q : Ev → O.S → Prop} (P : Ev → O.S → Prop) (h1 : Nx P (a ρ s)) (h2 : ∀ ρ' s', P ρ' s' → Nx Q (b ρ' s')) : Nx Q (mSeq O a b ρ s) := by
  obtain ⟨ρ', s', e, p⟩ := h1
  unfold mSeq seqS
  rw [e]
  exact h2 ρ' s' p
theorem nx_if {O : Wo} {c : MT O} {a b : MS O} {ρ : Ev} {s s1 : O.S} {k : Bool} {Q : Ev → O.S → Prop} (hc : c ρ s = .ok k s1) (h1 : k = true → Nx Q (a ρ s1)) (h2 : k = false → Nx Q (b ρ s1)) : Nx Q (mIfS O c a b ρ s) := by
  unfold mIfS
  rw [hc]
  simp only [toS]
  cases k with
  | true => rw [if_pos rfl]; exact h1 rfl
  | false => rw [if_neg (by decide)]; exact h2 rfl
theorem nx_next {O : Wo} {ρ : Ev} {s : O.S} {Q : Ev → O.S → Prop} (h : Q ρ s) : Nx Q (mNext O ρ s) := ⟨ρ, s, rfl, h⟩
theorem nx_of {O : Wo} {r : RS O.S} {ρ : Ev} {s : O.S} {Q : Ev → O.S → Prop} (e : r = .nx ρ s) (h : Q ρ s) : Nx Q r := ⟨ρ, s, e, h⟩
theorem cut_take (xs : List D) (n : Nat) : cutD xs none (some (n : Int)) = xs.take n := by
  unfold Mr.cutD
  rw [HT.sIx_none, HT.sIx_nat]
  simp only [List.drop_zero, Nat.sub_zero]
  rw [List.take_eq_take_iff]
  omega
def pqD : Nat → D → Bool
  | _, .non => true
  | _, .int _ => true
  | _, .str x => PyData.strOk x
  | n + 1, .lst xs => xs.all (pqD n)
  | n + 1, .tup xs => xs.all (pqD n)
  | _, _ => false
theorem toPs_pq {n : Nat} (ih : ∀ d, pqD n d = true → ∃ p, toP d = some p ∧ p.canLay0 = true ∧ p.depth ≤ n) : ∀ xs : List D, xs.all (pqD n) = true → ∃ ps, toPs xs = some ps ∧ PyData.canLayAll0 ps = true ∧ PyData.depthAll ps ≤ n
  | [], _ => ⟨[], by simp only [toPs], by simp only [PyData.canLayAll0], by simp [PyData.depthAll]⟩
  | x :: xs, h => by
    rw [List.all_cons, Bool.and_eq_true] at h
    obtain ⟨p, e1, c1, d1⟩ := ih x h.1
    obtain ⟨ps, e2, c2, d2⟩ := toPs_pq ih xs h.2
    refine ⟨p :: ps, by simp only [toPs, e1, e2], by simp only [PyData.canLayAll0, c1, c2, Bool.and_self], ?_⟩
    simp only [PyData.depthAll]
    omega
theorem toP_pq : ∀ (n : Nat) (d : D), pqD n d = true → ∃ p, toP d = some p ∧ p.canLay0 = true ∧ p.depth ≤ n
  | n, .non, _ => ⟨.none, by simp only [toP], by simp only [PyData.canLay0], by simp [PyData.depth]⟩
  | n, .int i, _ => ⟨.int i, by simp only [toP], by simp only [PyData.canLay0], by simp [PyData.depth]⟩
  | n, .str x, h => ⟨.str x, by simp only [toP], by simp only [PyData.canLay0]; cases n <;> simpa only [pqD] using h, by simp [PyData.depth]⟩
  | n + 1, .lst xs, h => by
    simp only [pqD] at h
    obtain ⟨ps, e, c, d⟩ := toPs_pq (toP_pq n) xs h
    exact ⟨.list ps, by simp only [toP, e, Option.map_some], by simp only [PyData.canLay0, c], by simp only [PyData.depth]; omega⟩
  | n + 1, .tup xs, h => by
    simp only [pqD] at h
    obtain ⟨ps, e, c, d⟩ := toPs_pq (toP_pq n) xs h
    exact ⟨.tuple ps, by simp only [toP, e, Option.map_some], by simp only [PyData.canLay0, c], by simp only [PyData.depth]; omega⟩
  | 0, .lst xs, h => by simp [pqD] at h
  | 0, .tup xs, h => by simp [pqD] at h
  | n, .bl b, h => by cases n <;> simp [pqD] at h
  | n, .ref b, h => by cases n <;> simp [pqD] at h
  | n, .ty b, h => by cases n <;> simp [pqD] at h
  | n, .ins b c, h => by cases n <;> simp [pqD] at h
  | n, .dct b, h => by cases n <;> simp [pqD] at h
  | n, .obj b, h => by cases n <;> simp [pqD] at h
theorem eqvAll_pq {n m : Nat} (ih : ∀ a b p q, pqD n a = true → pqD m b = true → toP a = some p → toP b = some q → (PyData.eqv p q = true ↔ a = b)) :
    ∀ (xs ys : List D) (ps qs : List PyData), xs.all (pqD n) = true → ys.all (pqD m) = true → toPs xs = some ps → toPs ys = some qs → (PyData.eqvAll ps qs = true ↔ xs = ys)
  | [], [], ps, qs, _, _, e1, e2 => by simp only [toPs, Option.some.injEq] at e1 e2; subst e1 e2; simp [PyData.eqvAll]
  | [], y :: ys, ps, qs, h1, h2, e1, e2 => by
    rw [List.all_cons, Bool.and_eq_true] at h2
    obtain ⟨p, f1, _, _⟩ := toP_pq m y h2.1
    obtain ⟨pp, f2, _, _⟩ := toPs_pq (toP_pq m) ys h2.2
    simp only [toPs, f1, f2, Option.some.injEq] at e1 e2
    subst e1 e2
    simp [PyData.eqvAll]
  | x :: xs, [], ps, qs, h1, h2, e1, e2 => by
    rw [List.all_cons, Bool.and_eq_true] at h1
    obtain ⟨p, f1, _, _⟩ := toP_pq n x h1.1
    obtain ⟨pp, f2, _, _⟩ := toPs_pq (toP_pq n) xs h1.2
    simp only [toPs, f1, f2, Option.some.injEq] at e1 e2
    subst e1 e2
    simp [PyData.eqvAll]
  | x :: xs, y :: ys, ps, qs, h1, h2, e1, e2 => by
    rw [List.all_cons, Bool.and_eq_true] at h1 h2
    obtain ⟨p, f1, _, _⟩ := toP_pq n x h1.1
    obtain ⟨pp, f2, _, _⟩ := toPs_pq (toP_pq n) xs h1.2
    obtain ⟨q, g1, _, _⟩ := toP_pq m y h2.1
    obtain ⟨qq, g2, _, _⟩ := toPs_pq (toP_pq m) ys h2.2
    simp only [toPs, f1, f2, g1, g2, Option.some.injEq] at e1 e2
    subst e1 e2
    have i1 := ih x y p q h1.1 h2.1 f1 g1
    have i2 := eqvAll_pq ih xs ys pp qq h1.2 h2.2 f2 g2
    simp only [PyData.eqvAll, Bool.and_eq_true, i1, i2, List.cons.injEq]
theorem eqv_pq : ∀ (n m : Nat) (a b : D) (p q : PyData), pqD n a = true → pqD m b = true → toP a = some p → toP b = some q → (PyData.eqv p q = true ↔ a = b) := by
  intro n
  induction n with
  | zero =>
    intro m a b p q h1 h2 e1 e2
    cases a <;> first | (simp [pqD] at h1; done) | skip
    all_goals (cases b <;> first | (cases m <;> simp [pqD] at h2; done) | skip)
    all_goals first | (simp only [toP, Option.some.injEq] at e1 e2; subst e1 e2; simp [PyData.eqv]; done) | skip
    all_goals (simp only [toP, Option.some.injEq, Option.map_eq_some_iff] at e1 e2; subst e1; obtain ⟨ps, _, rfl⟩ := e2; simp [PyData.eqv])
  | succ n ih =>
    intro m a b p q h1 h2 e1 e2
    cases a <;> first | (simp [pqD] at h1; done) | skip
    all_goals (cases b <;> first | (cases m <;> simp [pqD] at h2; done) | skip)
    all_goals first | (simp only [toP, Option.some.injEq] at e1 e2; subst e1 e2; simp [PyData.eqv]; done) | skip
    all_goals first | (simp only [toP, Option.some.injEq, Option.map_eq_some_iff] at e1 e2; subst e1; obtain ⟨ps, _, rfl⟩ := e2; simp [PyData.eqv]; done) | skip
    all_goals first | (simp only [toP, Option.some.injEq, Option.map_eq_some_iff] at e1 e2; subst e2; obtain ⟨ps, _, rfl⟩ := e1; simp [PyData.eqv]; done) | skip
    all_goals (simp only [toP, Option.map_eq_some_iff] at e1 e2; obtain ⟨ps, e1, rfl⟩ := e1; obtain ⟨qs, e2, rfl⟩ := e2)
    all_goals first | (simp only [PyData.eqv]; simp; done) | skip
    all_goals (cases m with
      | zero => simp [pqD] at h2
      | succ m =>
        simp only [pqD] at h1 h2
        have := eqvAll_pq (n := n) (m := m) (fun a b p q => ih m a b p q) _ _ ps qs h1 h2 e1 e2
        simp only [PyData.eqv, this, D.lst.injEq, D.tup.injEq])
theorem eq_pq {n m : Nat} {a b : D} (ha : pqD n a = true) (hb : pqD m b = true) (hn : n ≤ 60) (hm : m ≤ 60) : ∃ r, dEqB a b = some r ∧ (r = true ↔ a = b) := by
  obtain ⟨p, e1, c1, d1⟩ := toP_pq n a ha
  obtain ⟨q, e2, c2, d2⟩ := toP_pq m b hb
  have key := eqv_pq n m a b p q ha hb e1 e2
  have s1 : SeqAt.shaped p = true := by unfold SeqAt.shaped; rw [c1, Bool.true_and]; exact decide_eq_true (by omega)
  have s2 : SeqAt.shaped q = true := by unfold SeqAt.shaped; rw [c2, Bool.true_and]; exact decide_eq_true (by omega)
  unfold dEqB
  split <;> first | exact ⟨_, rfl, by simp⟩ | skip
  rw [e1, e2]
  dsimp only
  rw [if_pos ⟨s1, s2⟩]
  exact ⟨_, rfl, key⟩
end S
namespace S
open PySem PySem.Spec PyProof.Rows L2 RZ Mr
theorem forLS_eq {S : Type} {st : S → List Ob} {c : List Ob → Prop} {f : D → Ev → Option Ev} {mb : Ev → S → RS S} (hc : ∀ l, c l) : ∀ (ds : List D) (ρ : Ev) (s : S), forLS S st c f mb ds ρ s = forL S f mb ds ρ s
  | [], ρ, s => by unfold forLS forL; rw [if_pos (hc _)]
  | d :: ds, ρ, s => by
    unfold forLS forL
    rw [if_pos (hc _)]
    cases f d ρ with
    | none => rfl
    | some ρ1 =>
      dsimp only
      cases mb ρ1 s <;> first | rfl | exact forLS_eq hc ds _ _
theorem thawL_pq {l : List Ob} {m : Nat} : ∀ {xs : List D}, (∀ x ∈ xs, thawN (m + 1) l x = some x) → thawL (m + 1) l xs = some xs
  | [], _ => by simp only [thawL]
  | x :: xs, h => by simp only [thawL, h x List.mem_cons_self, thawL_pq (xs := xs) fun y hy => h y (List.mem_cons_of_mem _ hy), Option.bind_some, Option.map_some]
theorem thawN_pq {l : List Ob} : ∀ (n m : Nat) (d : D), pqD n d = true → n + 1 < m → thawN m l d = some d
  | n, 0, d, h, hm => by omega
  | n, m + 1, .non, h, hm => by simp only [thawN]
  | n, m + 1, .int i, h, hm => by simp only [thawN]
  | n, m + 1, .str i, h, hm => by simp only [thawN]
  | n + 1, m + 1, .lst xs, h, hm => by
    simp only [pqD, List.all_eq_true] at h
    obtain ⟨m, rfl⟩ : ∃ k, m = k + 1 := ⟨m - 1, by omega⟩
    simp only [thawN, thawL_pq fun x hx => thawN_pq n (m + 1) x (h x hx) (by omega), Option.map_some]
  | n + 1, m + 1, .tup xs, h, hm => by
    simp only [pqD, List.all_eq_true] at h
    obtain ⟨m, rfl⟩ : ∃ k, m = k + 1 := ⟨m - 1, by omega⟩
    simp only [thawN, thawL_pq fun x hx => thawN_pq n (m + 1) x (h x hx) (by omega), Option.map_some]
  | 0, m + 1, .lst xs, h, hm => by simp [pqD] at h
  | 0, m + 1, .tup xs, h, hm => by simp [pqD] at h
  | n, m + 1, .bl b, h, hm => by cases n <;> simp [pqD] at h
  | n, m + 1, .ref b, h, hm => by cases n <;> simp [pqD] at h
  | n, m + 1, .ty b, h, hm => by cases n <;> simp [pqD] at h
  | n, m + 1, .ins b c, h, hm => by cases n <;> simp [pqD] at h
  | n, m + 1, .dct b, h, hm => by cases n <;> simp [pqD] at h
  | n, m + 1, .obj b, h, hm => by cases n <;> simp [pqD] at h
theorem thaw_pq {l : List Ob} {n : Nat} {d : D} (h : pqD n d = true) (hn : n ≤ 20) : thaw l d = some d := thawN_pq n 24 d h (by omega)
theorem liftO_pq {f : D → D → Option D} {l : List Ob} {n m : Nat} {a b : D} (ha : pqD n a = true) (hb : pqD m b = true) (hn : n ≤ 20) (hm : m ≤ 20) : liftO f l a b = (f a b).bind scalS := by
  simp only [liftO, thaw_pq ha hn, thaw_pq hb hm, Option.bind_some]
theorem liftEq_pq {l : List Ob} {n m : Nat} {a b : D} (ha : pqD n a = true) (hb : pqD m b = true) (hn : n ≤ 20) (hm : m ≤ 20) : ∃ r, liftO dEq l a b = some (.bl r) ∧ liftO dNe l a b = some (.bl (!r)) ∧ (r = true ↔ a = b) := by
  obtain ⟨r, e, q⟩ := eq_pq ha hb (by omega) (by omega)
  refine ⟨r, ?_, ?_, q⟩ <;> rw [liftO_pq ha hb hn hm]
  · simp only [dEq, e, Option.map_some, Option.bind_some, scalS]
  · simp only [dNe, e, Option.map_some, Option.bind_some, scalS]
theorem liftNe_int {l : List Ob} (a b : Int) : liftO dNe l (.int a) (.int b) = some (.bl (decide (a ≠ b))) := by
  obtain ⟨r, _, e, q⟩ := liftEq_pq (l := l) (n := 0) (m := 0) (a := .int a) (b := .int b) rfl rfl (by decide) (by decide)
  rw [e]
  congr 2
  have : (D.int a = D.int b) ↔ a = b := ⟨fun h => by cases h; rfl, fun h => by rw [h]⟩
  rw [this] at q
  cases r with
  | true => simp [q.mp rfl]
  | false =>
    have : ¬ a = b := fun h => by have := q.mpr h; cases this
    simp [this]
def IntKs {β : Type} (kvs : List (Key × β)) (P : β → Prop) : Prop := ∀ p ∈ kvs, (∃ k : Int, p.1 = .inl k) ∧ P p.2
theorem putP_mem {β : Type} {kvs : List (Key × β)} {k : Key} {v : β} {p : Key × β} (h : p ∈ putP kvs k v) : p = (k, v) ∨ p ∈ kvs := by
  unfold putP at h
  split at h
  · obtain ⟨q, hq, e⟩ := List.mem_map.mp h
    split at e
    · rename_i ek
      exact .inl (by rw [← e, ek])
    · exact .inr (e ▸ hq)
  · rcases List.mem_append.mp h with h | h
    · exact .inr h
    · exact .inl (List.mem_singleton.mp h)
theorem putP_len {β : Type} (kvs : List (Key × β)) (k : Key) (v : β) : (putP kvs k v).length ≤ kvs.length + 1 := by
  unfold putP
  split
  · rw [List.length_map]; omega
  · simp
theorem IntKs.put {β : Type} {kvs : List (Key × β)} {P : β → Prop} {k : Int} {v : β} (h : IntKs kvs P) (hv : P v) : IntKs (putP kvs (.inl k) v) P := by
  intro p hp
  rcases putP_mem hp with rfl | hp
  · exact ⟨⟨k, rfl⟩, hv⟩
  · exact h p hp
theorem IntKs.merge {β : Type} {P : β → Prop} : ∀ (ms kvs : List (Key × β)), IntKs kvs P → IntKs ms P → IntKs (mergeP kvs ms) P
  | [], kvs, h, _ => h
  | m :: ms, kvs, h, hm => by
    obtain ⟨⟨k, ek⟩, hv⟩ := hm m List.mem_cons_self
    show IntKs (mergeP (putP kvs m.1 m.2) ms) P
    rw [ek]
    exact IntKs.merge ms _ (h.put hv) fun p hp => hm p (List.mem_cons_of_mem _ hp)
theorem merge_len {β : Type} : ∀ (ms kvs : List (Key × β)), (mergeP kvs ms).length ≤ kvs.length + ms.length
  | [], kvs => Nat.le_add_right _ _
  | m :: ms, kvs => by
    have h1 := merge_len ms (putP kvs m.1 m.2)
    have h2 := putP_len kvs m.1 m.2
    show (mergeP (putP kvs m.1 m.2) ms).length ≤ _
    rw [List.length_cons]
    omega
end S
namespace S
open PySem PySem.Spec PyProof.Rows L2 RZ Mr
def Oc {S : Type} (P : Ev → S → Prop) (Q : D → S → Prop) (r : RS S) : Prop := match r with
  | .nx ρ s => P ρ s
  | .rt d s => Q d s
  | _ => False
theorem Oc.mono {S : Type} {P P' : Ev → S → Prop} {Q Q' : D → S → Prop} {r : RS S} (h : Oc P Q r) (f : ∀ ρ s, P ρ s → P' ρ s) (g : ∀ d s, Q d s → Q' d s) : Oc P' Q' r := by
  cases r <;> first | exact f _ _ h | exact g _ _ h | exact h
theorem oc_nx {S : Type} {P : Ev → S → Prop} {Q : D → S → Prop} {r : RS S} {ρ : Ev} {s : S} (e : r = .nx ρ s) (h : P ρ s) : Oc P Q r := by rw [e]; exact h
theorem oc_rt {S : Type} {P : Ev → S → Prop} {Q : D → S → Prop} {r : RS S} {d : D} {s : S} (e : r = .rt d s) (h : Q d s) : Oc P Q r := by rw [e]; exact h
theorem oc_seq {O : Wo} {a b : MS O} {ρ : Ev} {s : O.S} {P' : Ev → O.S → Prop} {Q : D → O.S → Prop} (P : Ev → O.S → Prop) (h1 : Oc P Q (a ρ s)) (h2 : ∀ ρ' s', P ρ' s' → Oc P' Q (b ρ' s')) : Oc P' Q (mSeq O a b ρ s) := by
  unfold mSeq seqS
  revert h1
  cases a ρ s with
  | nx ρ' s' => exact fun h1 => h2 ρ' s' h1
  | rt d s' => exact fun h1 => h1
  | rn ds s' => exact fun h1 => h1
  | bk ρ' s' => exact fun h1 => h1
  | ct ρ' s' => exact fun h1 => h1
  | err c fs ρ' s' => exact fun h1 => h1
  | bad => exact fun h1 => h1
theorem oc_if {O : Wo} {c : MT O} {a b : MS O} {ρ : Ev} {s s1 : O.S} {k : Bool} {P : Ev → O.S → Prop} {Q : D → O.S → Prop} (hc : c ρ s = .ok k s1) (h1 : k = true → Oc P Q (a ρ s1)) (h2 : k = false → Oc P Q (b ρ s1)) : Oc P Q (mIfS O c a b ρ s) := by
  unfold mIfS
  rw [hc]
  simp only [toS]
  cases k with
  | true => rw [if_pos rfl]; exact h1 rfl
  | false => rw [if_neg (by decide)]; exact h2 rfl
theorem oc_next {O : Wo} {ρ : Ev} {s : O.S} {P : Ev → O.S → Prop} {Q : D → O.S → Prop} (h : P ρ s) : Oc P Q (mNext O ρ s) := h
theorem oc_run {O : Wo} {n : Nat} {m : MS O} {ds : List D} {s : O.S} {Q : D → O.S → Prop} (h : Oc (fun _ _ => False) Q (m (ds.map .sh ++ List.replicate (n - ds.length) .no) s)) : ∃ d s', runF O n m ds s = .ok d s' ∧ Q d s' := by
  unfold runF
  revert h
  cases m (ds.map .sh ++ List.replicate (n - ds.length) .no) s <;> first | exact fun h => h.elim | exact fun h => ⟨_, _, rfl, h⟩
theorem oc_of_nx {O : Wo} {r : RS O.S} {P : Ev → O.S → Prop} {Q : D → O.S → Prop} (h : Nx P r) : Oc P Q r := by
  obtain ⟨ρ, s, e, p⟩ := h
  rw [e]
  exact p
theorem nx_of_oc {O : Wo} {r : RS O.S} {P : Ev → O.S → Prop} (h : Oc P (fun _ _ => False) r) : Nx P r := by
  revert h
  cases r <;> first | exact fun h => h.elim | exact fun h => ⟨_, _, rfl, h⟩
/-- a walk with a store check -/
theorem forLS_oc {S : Type} {st : S → List Ob} {c : List Ob → Prop} {f : D → Ev → Option Ev} {mb : Ev → S → RS S} {Q : D → S → Prop} (ds : List D) (I : Nat → Ev → S → Prop) (hc : ∀ i ρ s, I i ρ s → c (st s))
    (h : ∀ i d ρ s, ds[i]? = some d → I i ρ s → ∃ ρ1, f d ρ = some ρ1 ∧ Oc (I (i + 1)) Q (mb ρ1 s)) {ρ : Ev} {s : S} (h0 : I 0 ρ s) : Oc (I ds.length) Q (forLS S st c f mb ds ρ s) := by
  suffices q : ∀ (r : List D) (i : Nat) (ρ : Ev) (s : S), ds.drop i = r → i ≤ ds.length → I i ρ s → Oc (I ds.length) Q (forLS S st c f mb r ρ s) from q ds 0 ρ s rfl (Nat.zero_le _) h0
  intro r
  induction r with
  | nil =>
    intro i ρ s e hl hi
    have : i = ds.length := by
      have := congrArg List.length e
      rw [List.length_drop, List.length_nil] at this
      omega
    subst this
    unfold forLS
    rw [if_pos (hc _ _ _ hi)]
    exact hi
  | cons d r ih =>
    intro i ρ s e hl hi
    have hd : ds[i]? = some d := by
      have := congrArg (fun l => l[0]?) e
      simpa using this
    have hlt : i < ds.length := by
      rcases Nat.lt_or_ge i ds.length with q | q
      · exact q
      · rw [List.getElem?_eq_none q] at hd; cases hd
    have he : ds.drop (i + 1) = r := by
      have := congrArg List.tail e
      rw [List.tail_drop] at this
      simpa using this
    obtain ⟨ρ1, e1, o⟩ := h i d ρ s hd hi
    unfold forLS
    rw [if_pos (hc _ _ _ hi), e1]
    dsimp only
    revert o
    cases mb ρ1 s with
    | nx ρ2 s2 => exact fun o => ih (i + 1) ρ2 s2 he hlt o
    | rt d s' => exact fun o => o
    | rn ds s' => exact fun o => o.elim
    | bk ρ' s' => exact fun o => o.elim
    | ct ρ' s' => exact fun o => o.elim
    | err c fs ρ' s' => exact fun o => o.elim
    | bad => exact fun o => o.elim
theorem forL_oc {S : Type} {f : D → Ev → Option Ev} {mb : Ev → S → RS S} {Q : D → S → Prop} (ds : List D) (I : Nat → Ev → S → Prop)
    (h : ∀ i d ρ s, ds[i]? = some d → I i ρ s → ∃ ρ1, f d ρ = some ρ1 ∧ Oc (I (i + 1)) Q (mb ρ1 s)) {ρ : Ev} {s : S} (h0 : I 0 ρ s) : Oc (I ds.length) Q (forL S f mb ds ρ s) := by
  rw [← forLS_eq (st := fun _ => []) (c := fun _ => True) (fun _ => trivial)]
  exact forLS_oc ds I (fun _ _ _ _ => trivial) h h0
theorem oc_forS {O : Wo} {mi : MJ O} {f : D → Ev → Option Ev} {mb : MS O} {ρ : Ev} {s s1 : O.S} {ds : List D} {c : List Ob → Prop} {P : Ev → O.S → Prop} {Q : D → O.S → Prop} (hi : mi ρ s = .ok (ds, c) s1) (I : Nat → Ev → O.S → Prop) (hc : ∀ i ρ s, I i ρ s → c (O.st s))
    (h : ∀ i d ρ s, ds[i]? = some d → I i ρ s → ∃ ρ1, f d ρ = some ρ1 ∧ Oc (I (i + 1)) Q (mb ρ1 s)) (h0 : I 0 ρ s1) (hP : ∀ ρ s, I ds.length ρ s → P ρ s) : Oc P Q (mForS O mi f mb ρ s) := by
  unfold mForS
  rw [hi]
  simp only [toS]
  exact (forLS_oc ds I hc h h0).mono hP (fun _ _ h => h)
theorem oc_for {O : Wo} {mi : MI O} {f : D → Ev → Option Ev} {mb : MS O} {ρ : Ev} {s s1 : O.S} {ds : List D} {P : Ev → O.S → Prop} {Q : D → O.S → Prop} (hi : mi ρ s = .ok ds s1) (I : Nat → Ev → O.S → Prop)
    (h : ∀ i d ρ s, ds[i]? = some d → I i ρ s → ∃ ρ1, f d ρ = some ρ1 ∧ Oc (I (i + 1)) Q (mb ρ1 s)) (h0 : I 0 ρ s1) (hP : ∀ ρ s, I ds.length ρ s → P ρ s) : Oc P Q (mFor O mi f mb ρ s) := by
  unfold mFor
  rw [hi]
  simp only [toS]
  exact (forL_oc ds I h h0).mono hP (fun _ _ h => h)
/-- a loop with a measure -/
theorem whileL_oc {S : Type} {mc : Ev → S → R S Bool} {mb : Ev → S → RS S} {P : Ev → S → Prop} {Q : D → S → Prop} (I : Nat → Ev → S → Prop)
    (h : ∀ k ρ s, I k ρ s → ∃ b s1, mc ρ s = .ok b s1 ∧ (b = false → P ρ s1) ∧ (b = true → Oc (fun ρ' s' => ∃ k', k' < k ∧ I k' ρ' s') Q (mb ρ s1))) :
    ∀ (n k : Nat) (ρ : Ev) (s : S), k < n → I k ρ s → Oc P Q (whileL S mc mb n ρ s)
  | 0, k, ρ, s, hk, _ => absurd hk (Nat.not_lt_zero _)
  | n + 1, k, ρ, s, hk, hi => by
    obtain ⟨b, s1, e, h1, h2⟩ := h k ρ s hi
    unfold whileL
    rw [e]
    simp only [toS]
    cases b with
    | false => rw [if_neg (by decide)]; exact h1 rfl
    | true =>
      rw [if_pos rfl]
      have o := h2 rfl
      revert o
      cases mb ρ s1 with
      | nx ρ2 s2 => exact fun ⟨k', hk', o⟩ => whileL_oc I h n k' ρ2 s2 (by omega) o
      | rt d s' => exact fun o => o
      | rn ds s' => exact fun o => o.elim
      | bk ρ' s' => exact fun o => o.elim
      | ct ρ' s' => exact fun o => o.elim
      | err c fs ρ' s' => exact fun o => o.elim
      | bad => exact fun o => o.elim
/-- a comprehension over things of a kind, told by plain values -/
theorem lcLS_fm' {S α : Type} {st : S → List Ob} {c : List Ob → Prop} {f : D → Ev → Option Ev} {mt : Ev → S → R S Bool} {me : Ev → S → R S D} {ρ : Ev} {s : S} (t : α → D) (p : α → Bool) (g : α → D) (hc : c (st s)) : ∀ (xs : List α) (acc : List D),
    (∀ x ∈ xs, ∃ ρ1, f (t x) ρ = some ρ1 ∧ mt ρ1 s = .ok (p x) s ∧ (p x = true → me ρ1 s = .ok (g x) s)) → acc.length + xs.length ≤ 100000 → lcLS S st c f mt me ρ (xs.map t) acc s = .ok (acc ++ (xs.filter p).map g) s
  | [], acc, _, _ => by rw [List.map_nil]; unfold lcLS; rw [if_pos hc]; simp
  | d :: ds, acc, h, hl => by
    rw [List.length_cons] at hl
    obtain ⟨ρ1, e1, e2, e3⟩ := h d List.mem_cons_self
    rw [List.map_cons]
    unfold lcLS
    rw [if_pos hc, e1]
    dsimp only
    rw [e2]
    cases hp : p d with
    | true =>
      dsimp only
      rw [e3 hp]
      dsimp only
      rw [if_pos (by omega), lcLS_fm' t p g hc ds (acc ++ [g d]) (fun x hx => h x (List.mem_cons_of_mem _ hx)) (by simp; omega), List.filter_cons_of_pos hp]
      simp
    | false =>
      dsimp only
      rw [lcLS_fm' t p g hc ds acc (fun x hx => h x (List.mem_cons_of_mem _ hx)) (by omega), List.filter_cons_of_neg (by simp [hp])]
theorem mLcS_fm {O : Wo} {α : Type} {mi : MJ O} {f : D → Ev → Option Ev} {mt : MT O} {me : ME O} {vs : List Nat} {ρ : Ev} {s s1 : O.S} {c : List Ob → Prop} (t : α → D) (p : α → Bool) (g : α → D) (xs : List α) (hi : mi ρ s = .ok (xs.map t, c) s1) (hc : c (O.st s1))
    (h : ∀ x ∈ xs, ∃ ρ1, f (t x) (wipeE ρ vs) = some ρ1 ∧ mt ρ1 s1 = .ok (p x) s1 ∧ (p x = true → me ρ1 s1 = .ok (g x) s1)) (hl : xs.length ≤ 100000) : mLcS O mi f mt me vs ρ s = .ok ((xs.filter p).map g) s1 := by
  unfold mLcS
  rw [hi]
  simp only [bind_ok]
  have := lcLS_fm' (st := O.st) (c := c) (f := f) (mt := mt) (me := me) (ρ := wipeE ρ vs) (s := s1) t p g hc xs [] h (by simpa using hl)
  rw [this, List.nil_append]
theorem mLcS_map {O : Wo} {α : Type} {mi : MJ O} {f : D → Ev → Option Ev} {me : ME O} {vs : List Nat} {ρ : Ev} {s s1 : O.S} {c : List Ob → Prop} (t : α → D) (g : α → D) (xs : List α) (hi : mi ρ s = .ok (xs.map t, c) s1) (hc : c (O.st s1))
    (h : ∀ x ∈ xs, ∃ ρ1, f (t x) (wipeE ρ vs) = some ρ1 ∧ me ρ1 s1 = .ok (g x) s1) (hl : xs.length ≤ 100000) : mLcS O mi f (mYes O) me vs ρ s = .ok (xs.map g) s1 := by
  rw [mLcS_fm t (fun _ => true) g xs hi hc (fun x hx => by
    obtain ⟨ρ1, e1, e2⟩ := h x hx
    exact ⟨ρ1, e1, rfl, fun _ => e2⟩) hl]
  congr 2
  simp
end S
namespace S
open PySem PySem.Spec PyProof.Rows L2 RZ Mr
noncomputable section
end
end S
namespace S
open PySem PySem.Spec PyProof.Rows L2 RZ Mr
abbrev iD (xs : List Int) : List D := xs.map D.int
theorem rangeD_eq (n : Nat) : rangeD 0 n = iD ((List.range n).map fun (k : Nat) => (k : Int)) := by
  unfold rangeD iD
  rw [List.map_map]
  refine List.map_congr_left fun k _ => ?_
  simp
def rng (l : Int) : List Int := (List.range l.toNat).map fun (k : Nat) => (k : Int)
abbrev Ax := List (Int × Int)
def shp (ax : Ax) : List Int := ax.map Prod.fst
def strd (ax : Ax) : List Int := ax.map Prod.snd
def prodL : List Int → Int
  | [] => 1
  | x :: xs => x * prodL xs
def isSq (d : D) (xs : List Int) : Prop := d = .lst (iD xs) ∨ d = .tup (iD xs)
theorem isSq.as {d : D} {xs : List Int} (h : isSq d xs) : asSeq d = some (iD xs) := by rcases h with rfl | rfl <;> rfl
theorem isSq.len {d : D} {xs : List Int} (h : isSq d xs) : dLen [d] = some (.int xs.length) := by rcases h with rfl | rfl <;> simp [dLen]
/-- two sequences of one kind -/
def sq2 (d e : D) (xs ys : List Int) : Prop := isSq d xs ∧ isSq e ys
def axD (ax : Ax) : List D := ax.map fun a => D.tup [.int a.1, .int a.2]
theorem sq2.zip {d e : D} {ax : Ax} (h : sq2 d e (shp ax) (strd ax)) : dZip [d, e] = some (axD ax) := by
  have key : zipD (iD (shp ax)) (iD (strd ax)) = axD ax := by
    clear h
    unfold zipD iD shp strd axD
    induction ax with
    | nil => rfl
    | cons a ax ih =>
      simp only [List.map_cons, List.zip_cons_cons] at ih ⊢
      rw [ih]
  obtain ⟨h1, h2⟩ := h
  rcases h1 with rfl | rfl <;> rcases h2 with rfl | rfl <;> simp only [dZip, key]
/-- bounds of what is computed with -/
structure Bd (ax : Ax) : Prop where
  pos : ∀ a ∈ ax, 1 ≤ a.1
  str : ∀ a ∈ ax, -(10 ^ 60) < a.2 ∧ a.2 < 10 ^ 60
theorem Bd.tail {a : Int × Int} {ax : Ax} (h : Bd (a :: ax)) : Bd ax := ⟨fun b hb => h.pos b (List.mem_cons_of_mem _ hb), fun b hb => h.str b (List.mem_cons_of_mem _ hb)⟩
theorem prod_pos {xs : List Int} (h : ∀ x ∈ xs, 1 ≤ x) : 1 ≤ prodL xs := by
  induction xs with
  | nil => simp [prodL]
  | cons x xs ih =>
    have h1 := h x List.mem_cons_self
    have h2 := ih fun y hy => h y (List.mem_cons_of_mem _ hy)
    have := Int.mul_le_mul h1 h2 (by decide) (by omega)
    simpa [prodL] using this
theorem Bd.shp {ax : Ax} (h : Bd ax) : ∀ x ∈ shp ax, 1 ≤ x := by
  intro x hx
  unfold S.shp at hx
  rw [List.mem_map] at hx
  obtain ⟨a, ha, rfl⟩ := hx
  exact h.pos a ha
theorem rng1_ok {A : Ad} {ma : MA (O A)} {ρ : Ev} {s s' : Dr} {l : Int} (h : ma ρ s = .ok [.int l] s') (h0 : -100000 ≤ l) (h1 : l ≤ 100000) : mRng1 (O A) ma ρ s = .ok (iD (rng l)) s' := by
  unfold mRng1
  rw [h]
  simp only [bind_ok]
  rw [if_pos ⟨h1, h0⟩, rangeD_eq]
  rfl
def neg0 (x : Int) : Int := if x < 0 then x else 0
def pos0 (x : Int) : Int := if 0 < x then x else 0
def lowS : Ax → Int
  | [] => 0
  | a :: ax => neg0 ((a.1 - 1) * a.2) + lowS ax
def highS : Ax → Int
  | [] => 0
  | a :: ax => pos0 ((a.1 - 1) * a.2) + highS ax
theorem lowS_le : ∀ ax : Ax, lowS ax ≤ 0
  | [] => by simp [lowS]
  | a :: ax => by have := lowS_le ax; unfold lowS neg0; split <;> omega
theorem highS_ge : ∀ ax : Ax, 0 ≤ highS ax
  | [] => by simp [highS]
  | a :: ax => by have := highS_ge ax; unfold highS pos0; split <;> omega
/-- a view within some cells -/
structure Vw (cells most o : Int) (ax : Ax) : Prop where
  len : ax.length ≤ 4
  pos : ∀ a ∈ ax, 1 ≤ a.1
  one : ∀ a ∈ ax, a.1 = 1 → a.2 = 0
  prd : prodL (shp ax) ≤ most
  low : 0 ≤ o + lowS ax
  high : o + highS ax ≤ cells - 1
theorem reach_bd : ∀ {ax : Ax} {a : Int × Int}, a ∈ ax → lowS ax ≤ (a.1 - 1) * a.2 ∧ (a.1 - 1) * a.2 ≤ highS ax
  | b :: ax, a, h => by
    have h1 := lowS_le ax
    have h2 := highS_ge ax
    rcases List.mem_cons.mp h with rfl | h
    · unfold lowS highS neg0 pos0
      constructor <;> (split <;> omega)
    · have := reach_bd h
      unfold lowS highS neg0 pos0
      constructor <;> (split <;> omega)
theorem Vw.str {cells most o : Int} {ax : Ax} (h : Vw cells most o ax) (hc : cells ≤ 64) : ∀ a ∈ ax, -64 < a.2 ∧ a.2 < 64 := by
  intro a ha
  have p := h.pos a ha
  by_cases h1 : a.1 = 1
  · rw [h.one a ha h1]; decide
  · have r := reach_bd ha
    have l := h.low
    have hh := h.high
    have m1 : (1 : Int) ≤ a.1 - 1 := by omega
    by_cases h2 : 0 ≤ a.2
    · have := Int.mul_le_mul_of_nonneg_right m1 h2
      have := lowS_le ax
      omega
    · have := Int.mul_le_mul_of_nonneg_right m1 (show (0 : Int) ≤ -a.2 by omega)
      rw [Int.mul_neg, Int.mul_neg] at this
      have := highS_ge ax
      omega
theorem Vw.bd {cells most o : Int} {ax : Ax} (h : Vw cells most o ax) (hc : cells ≤ 64) : Bd ax := ⟨h.pos, fun a ha => by have := h.str hc a ha; omega⟩
theorem Vw.off {cells most o : Int} {ax : Ax} (h : Vw cells most o ax) (hc : cells ≤ 64) : 0 ≤ o ∧ o < 64 := by
  have l := h.low
  have hh := h.high
  have := lowS_le ax
  have := highS_ge ax
  omega
/-- numbers that may be computed with -/
structure Wd (ax : Ax) : Prop where
  len : ∀ a ∈ ax, -(10 ^ 60) < a.1 ∧ a.1 < 10 ^ 60
  str : ∀ a ∈ ax, -(10 ^ 60) < a.2 ∧ a.2 < 10 ^ 60
  few : ax.length ≤ 100
end S
namespace S
open PySem PySem.Spec PyProof.Rows L2 RZ Mr
variable {qst : List Ob}
theorem toBools_map {α : Type} (f : α → Bool) : ∀ xs : List α, toBools (xs.map fun x => D.bl (f x)) = some (xs.map f)
  | [] => rfl
  | x :: xs => by simp only [List.map_cons, toBools, toBools_map f xs, Option.map_some]
theorem sq2.one {d e : D} {xs ys : List Int} (h : sq2 d e xs ys) : isSq d xs ∧ isSq e ys := h
/-- parts of which a view is made; the stride of an axis of length 1 may be any -/
structure Vw0 (o : Int) (ax : Ax) : Prop where
  len : ax.length ≤ 4
  pos : ∀ a ∈ ax, 1 ≤ a.1
  prd : prodL (shp ax) ≤ 64
  low : 0 ≤ o + lowS ax
  high : o + highS ax ≤ 63
  str : ∀ a ∈ ax, -(10 ^ 60) < a.2 ∧ a.2 < 10 ^ 60
theorem Vw.v0 {c m o : Int} {ax : Ax} (h : Vw c m o ax) (hc : c ≤ 64) (hm : m ≤ 64) : Vw0 o ax := ⟨h.len, h.pos, by have := h.prd; omega, h.low, by have := h.high; omega, (h.bd hc).str⟩
theorem Vw0.bd {o : Int} {ax : Ax} (h : Vw0 o ax) : Bd ax := ⟨h.pos, h.str⟩
theorem Vw0.off {o : Int} {ax : Ax} (h : Vw0 o ax) : 0 ≤ o ∧ o < 64 := by
  have l := h.low
  have hh := h.high
  have := lowS_le ax
  have := highS_ge ax
  omega
theorem lowS_snoc (ax : Ax) (a : Int × Int) : lowS (ax ++ [a]) = lowS ax + neg0 ((a.1 - 1) * a.2) := by
  induction ax with
  | nil => simp [lowS]
  | cons b ax ih => simp only [List.cons_append, lowS, ih]; omega
theorem highS_snoc (ax : Ax) (a : Int × Int) : highS (ax ++ [a]) = highS ax + pos0 ((a.1 - 1) * a.2) := by
  induction ax with
  | nil => simp [highS]
  | cons b ax ih => simp only [List.cons_append, highS, ih]; omega
theorem prod_snoc (xs : List Int) (x : Int) : prodL (xs ++ [x]) = prodL xs * x := by
  induction xs with
  | nil => simp [prodL]
  | cons y xs ih => simp only [List.cons_append, prodL, ih, Int.mul_assoc]
/-- what the loop of _law_parts keeps -/
structure Pt (cells most : Int) (ax : Ax) (room left below : Int) : Prop where
  pos : ∀ a ∈ ax, 1 ≤ a.1
  one : ∀ a ∈ ax, a.1 = 1 → a.2 = 0
  rm : 1 ≤ room
  prd : prodL (shp ax) * room ≤ most
  lf : left = cells - 1 - (highS ax - lowS ax)
  lf0 : 0 ≤ left
  bl : below = -lowS ax
theorem Pt.step {cells most room left below l reach st : Int} {ax : Ax} (h : Pt cells most ax room left below) (l0 : 1 ≤ l) (l1 : l ≤ room) (hr : reach = if 1 < l then left.fdiv (l - 1) else 0) (s0 : -reach ≤ st) (s1 : st ≤ reach) :
    Pt cells most (ax ++ [(l, st)]) (room.fdiv l) (left - (if st < 0 then -st else st) * (l - 1)) (if st < 0 then below - st * (l - 1) else below) := by
  have fd : ∀ x y : Int, 0 < y → y * x.fdiv y ≤ x ∧ x < y * x.fdiv y + y := fun x y hy => by
    have e := Int.fmod_def x y
    have m0 := Int.fmod_nonneg_of_pos x hy
    have m1 := Int.fmod_lt_of_pos x hy
    omega
  have fr := fd room l (by omega)
  have r1 : 1 ≤ room.fdiv l := by
    by_cases z : 1 ≤ room.fdiv l
    · exact z
    · exfalso
      have : l * room.fdiv l ≤ 0 := by
        have := Int.mul_le_mul_of_nonneg_left (show room.fdiv l ≤ 0 by omega) (show (0 : Int) ≤ l by omega)
        simpa using this
      omega
  have pp := prod_pos (xs := shp ax) (by intro x hx; unfold shp at hx; rw [List.mem_map] at hx; obtain ⟨a, ha, rfl⟩ := hx; exact h.pos a ha)
  have key : (if st < 0 then -st else st) * (l - 1) ≤ left ∧ (l = 1 → st = 0) := by
    by_cases hl : 1 < l
    · rw [if_pos hl] at hr
      have f := fd left (l - 1) (by omega)
      rw [← hr] at f
      refine ⟨?_, fun z => by omega⟩
      have : (if st < 0 then -st else st) ≤ reach := by split <;> omega
      have := Int.mul_le_mul_of_nonneg_right this (show (0 : Int) ≤ l - 1 by omega)
      rw [Int.mul_comm reach] at this
      omega
    · rw [if_neg hl] at hr
      have : st = 0 := by omega
      subst this
      simp
      exact h.lf0
  have abs : (if st < 0 then -st else st) * (l - 1) = pos0 ((l - 1) * st) - neg0 ((l - 1) * st) := by
    unfold pos0 neg0
    by_cases hs : st < 0
    · rw [if_pos hs]
      have : (l - 1) * st ≤ 0 := by
        have := Int.mul_le_mul_of_nonneg_left (show st ≤ 0 by omega) (show (0 : Int) ≤ l - 1 by omega)
        simpa using this
      rw [Int.neg_mul, Int.mul_comm st]
      split <;> split <;> omega
    · rw [if_neg hs]
      have : 0 ≤ (l - 1) * st := Int.mul_nonneg (by omega) (by omega)
      rw [Int.mul_comm st]
      split <;> split <;> omega
  refine ⟨fun a ha => ?_, fun a ha => ?_, r1, ?_, ?_, by omega, ?_⟩
  · rcases List.mem_append.mp ha with q | q
    · exact h.pos a q
    · rw [List.mem_singleton] at q; subst q; exact l0
  · rcases List.mem_append.mp ha with q | q
    · exact h.one a q
    · rw [List.mem_singleton] at q; subst q; exact key.2
  · have e : shp (ax ++ [(l, st)]) = shp ax ++ [l] := by simp [shp]
    rw [e, prod_snoc, Int.mul_assoc]
    have := Int.mul_le_mul_of_nonneg_left fr.1 (show (0 : Int) ≤ prodL (shp ax) by omega)
    have := h.prd
    omega
  · rw [highS_snoc, lowS_snoc, abs]
    have := h.lf
    dsimp only
    omega
  · rw [lowS_snoc]
    have := h.bl
    dsimp only
    unfold neg0
    by_cases hs : st < 0
    · rw [if_pos hs]
      have : (l - 1) * st ≤ 0 := by
        have := Int.mul_le_mul_of_nonneg_left (show st ≤ 0 by omega) (show (0 : Int) ≤ l - 1 by omega)
        simpa using this
      rw [Int.mul_comm st]
      split <;> omega
    · rw [if_neg hs]
      have : 0 ≤ (l - 1) * st := Int.mul_nonneg (by omega) (by omega)
      rw [if_neg (by omega)]
      omega
end S
namespace S
open PySem PySem.Spec PyProof.Rows L2 RZ Mr
theorem lt_of_some {α : Type} {l : List α} {n : Nat} {x : α} (h : l[n]? = some x) : n < l.length := by
  rcases Nat.lt_or_ge n l.length with q | q
  · exact q
  · rw [List.getElem?_eq_none q] at h; cases h
section
variable {β : Type}
theorem valP_map (kvs : List (Key × β)) (k k' : Key) (v : β) : valP (kvs.map fun kv => if kv.1 = k then (kv.1, v) else kv) k' = if k' = k then (valP kvs k').map fun _ => v else valP kvs k' := by
  induction kvs with
  | nil => simp [valP]
  | cons p kvs ih =>
    obtain ⟨a, b⟩ := p
    unfold valP at ih ⊢
    rw [List.map_cons, List.find?_cons, List.find?_cons]
    by_cases h1 : a = k
    · subst h1
      by_cases h2 : a = k'
      · subst h2; simp
      · have : ¬ k' = a := fun z => h2 z.symm
        simp only [if_true, h2, decide_false, this, if_false] at ih ⊢
        exact ih
    · by_cases h2 : a = k'
      · subst h2; simp [h1]
      · simp only [h1, if_false, h2, decide_false] at ih ⊢
        exact ih
theorem any_val (kvs : List (Key × β)) (k : Key) : (kvs.any fun kv => decide (kv.1 = k)) = (valP kvs k).isSome := by
  unfold valP
  rw [Option.isSome_map]
  induction kvs with
  | nil => rfl
  | cons p kvs ih =>
    rw [List.any_cons, List.find?_cons]
    cases decide (p.1 = k) with
    | true => rfl
    | false => rw [Bool.false_or]; exact ih
theorem valP_app (kvs : List (Key × β)) (k k' : Key) (v : β) (h : valP kvs k = none) : valP (kvs ++ [(k, v)]) k' = if k' = k then some v else valP kvs k' := by
  unfold valP at h ⊢
  rw [List.find?_append]
  by_cases e : k' = k
  · subst e
    have h := Option.map_eq_none_iff.mp h
    rw [h]
    simp
  · have : ¬ k = k' := fun z => e z.symm
    simp [e, this]
theorem valP_put (kvs : List (Key × β)) (k k' : Key) (v : β) : valP (putP kvs k v) k' = if k' = k then some v else valP kvs k' := by
  unfold putP
  rw [any_val]
  cases h : valP kvs k with
  | some w =>
    rw [if_pos (show (some w).isSome = true from rfl), valP_map]
    by_cases e : k' = k
    · subst e; simp [h]
    · simp [e]
  | none =>
    rw [if_neg (by simp), valP_app _ _ _ _ h]
theorem putP_len' (kvs : List (Key × β)) (k : Key) (v : β) (h : (valP kvs k).isSome = true) : (putP kvs k v).length = kvs.length := by
  unfold putP
  rw [any_val, if_pos h, List.length_map]
theorem putP_keys (kvs : List (Key × β)) (k : Key) (v : β) : (putP kvs k v).map (·.1) = if (valP kvs k).isSome = true then kvs.map (·.1) else kvs.map (·.1) ++ [k] := by
  unfold putP
  rw [any_val]
  split
  · rw [List.map_map]
    refine List.map_congr_left fun p _ => ?_
    simp only [Function.comp]
    split <;> rfl
  · rw [List.map_append]; rfl
theorem valP_mem {kvs : List (Key × β)} {k : Key} : (valP kvs k).isSome = true ↔ k ∈ kvs.map (·.1) := by
  rw [← any_val, List.any_eq_true]
  constructor
  · rintro ⟨p, hp, e⟩
    exact List.mem_map.mpr ⟨p, hp, by simpa using e⟩
  · intro h
    obtain ⟨p, hp, e⟩ := List.mem_map.mp h
    exact ⟨p, hp, by simpa using e⟩
theorem valP_none {kvs : List (Key × β)} {k : Key} : valP kvs k = none ↔ k ∉ kvs.map (·.1) := by
  rw [← valP_mem]
  cases valP kvs k <;> simp
end
/-- kvs tells the function h -/
structure DI {α : Type} (t : α → D) (kvs : List (Key × D)) (h : Int → Option α) : Prop where
  ky : ∀ k ∈ kvs.map (·.1), ∃ c : Int, k = .inl c
  vl : ∀ c : Int, valP kvs (.inl c) = (h c).map t
  nd : (kvs.map (·.1)).Nodup
def fset {α : Type} (h : Int → Option α) (c : Int) (v : α) : Int → Option α := fun d => if d = c then some v else h d
section
variable {α : Type} {t : α → D} {kvs : List (Key × D)} {h : Int → Option α}
theorem DI.nil : DI t [] (fun _ => none) := ⟨fun k hk => absurd hk List.not_mem_nil, fun c => rfl, List.nodup_nil⟩
theorem nodup_snoc {β : Type} {l : List β} {x : β} (h : l.Nodup) (hx : x ∉ l) : (l ++ [x]).Nodup := by
  rw [List.nodup_append]
  refine ⟨h, by simp, ?_⟩
  intro a ha b hb
  rw [List.mem_singleton] at hb
  subst hb
  intro e
  exact hx (e ▸ ha)
theorem DI.put (H : DI t kvs h) (c : Int) (v : α) : DI t (putP kvs (.inl c) (t v)) (fset h c v) := by
  refine ⟨fun k hk => ?_, fun d => ?_, ?_⟩
  · rw [putP_keys] at hk
    split at hk
    · exact H.ky k hk
    · rcases List.mem_append.mp hk with hk | hk
      · exact H.ky k hk
      · rw [List.mem_singleton] at hk; exact ⟨c, hk⟩
  · rw [valP_put]
    unfold fset
    by_cases e : d = c
    · subst e; simp
    · have : ¬ (Sum.inl d : Key) = .inl c := fun z => e (by cases z; rfl)
      rw [if_neg this, if_neg e]
      exact H.vl d
  · rw [putP_keys]
    split
    · exact H.nd
    · rename_i z
      exact nodup_snoc H.nd (fun q => z (valP_mem.mpr q))
theorem DI.some_ (H : DI t kvs h) (c : Int) : (valP kvs (.inl c)).isSome = (h c).isSome := by rw [H.vl, Option.isSome_map]
theorem DI.mem (H : DI t kvs h) (c : Int) : (.inl c : Key) ∈ kvs.map (·.1) ↔ (h c).isSome = true := by rw [← valP_mem, H.some_]
theorem DI.len (H : DI t kvs h) {c : Int} {v : α} (e : (h c).isSome = true) : (putP kvs (.inl c) (t v)).length = kvs.length := putP_len' _ _ _ (by rw [H.some_]; exact e)
/-- its keys, as ints -/
theorem DI.keys (H : DI t kvs h) : ∃ ns : List Int, kvs.map (·.1) = ns.map Sum.inl ∧ keysI kvs = some ns ∧ ns.Nodup ∧ ns.length = kvs.length ∧ ∀ c, c ∈ ns ↔ (h c).isSome = true := by
  have key : ∀ kvs : List (Key × D), (∀ k ∈ kvs.map (·.1), ∃ c : Int, k = .inl c) → ∃ ns : List Int, kvs.map (·.1) = ns.map Sum.inl ∧ keysI kvs = some ns ∧ ns.length = kvs.length := by
    intro kvs
    induction kvs with
    | nil => exact fun _ => ⟨[], rfl, rfl, rfl⟩
    | cons p kvs ih =>
      intro hk
      obtain ⟨ns, e1, e2, e3⟩ := ih fun k q => hk k (by rw [List.map_cons]; exact List.mem_cons_of_mem _ q)
      obtain ⟨c, e⟩ := hk p.1 (by rw [List.map_cons]; exact List.mem_cons_self)
      obtain ⟨pk, pv⟩ := p
      dsimp only at e
      subst e
      exact ⟨c :: ns, by rw [List.map_cons, List.map_cons, e1], by simp only [keysI, e2, Option.map_some], by rw [List.length_cons, List.length_cons, e3]⟩
  obtain ⟨ns, e1, e2, e3⟩ := key kvs H.ky
  refine ⟨ns, e1, e2, ?_, e3, fun c => ?_⟩
  · have := H.nd
    rw [e1] at this
    exact List.Pairwise.of_map _ (fun a b hab z => hab (by rw [z])) this
  · rw [← H.mem, e1, List.mem_map]
    exact ⟨fun hc => ⟨c, hc, rfl⟩, fun ⟨d, hd, e⟩ => by cases e; exact hd⟩
theorem keyD_map (ns : List Int) (kvs : List (Key × D)) (h : kvs.map (·.1) = ns.map Sum.inl) : (kvs.map fun kv => keyD kv.1) = iD ns := by
  have e := congrArg (List.map keyD) h
  rw [List.map_map, List.map_map] at e
  exact e
end
/-- merging pairs with distinct keys is writing them down -/
theorem mergeP_nodup {β : Type} (ms : List (Key × β)) (nd : (ms.map (·.1)).Nodup) : mergeP [] ms = ms := by
  suffices q : ∀ (ms acc : List (Key × β)), ((acc ++ ms).map (·.1)).Nodup → mergeP acc ms = acc ++ ms by simpa using q ms [] (by simpa using nd)
  intro ms
  induction ms with
  | nil => intro acc _; unfold mergeP; simp
  | cons m ms ih =>
    intro acc nd
    have hn : valP acc m.1 = none := by
      rw [valP_none]
      intro hm
      rw [List.map_append, List.map_cons, List.nodup_append] at nd
      exact nd.2.2 m.1 hm m.1 List.mem_cons_self rfl
    have e : putP acc m.1 m.2 = acc ++ [m] := by
      unfold putP
      rw [any_val, hn, if_neg (by simp)]
    show mergeP (putP acc m.1 m.2) ms = _
    rw [e, ih _ (by rw [List.append_assoc]; simpa using nd), List.append_assoc]
    rfl
end S
namespace S
open PySem PySem.Spec PyProof.Rows L2 RZ Mr
noncomputable section
def k_SCRATCH : D := .int (-1)
def mb_as_pair (A : Ad) : MS (O A) :=
  (mSeq (O A) (mAsg (O A) (mVar (O A) 0) (fSq 2 (fCons (fName 1) (fCons (fName 2) fNil))))
  (mRet (O A) (mCl (O A) dTup (mCons (O A) (mVar (O A) 1) (mCons (O A) (mIf (O A) (mTruth (O A) (mCl (O A) dIsI (mCons (O A) (mVar (O A) 2) (mCons (O A) (mC (O A) (.ty "list")) (mNil (O A)))))) (mCl (O A) dTupOf (mCons (O A) (mVar (O A) 2) (mNil (O A)))) (mVar (O A) 2)) (mNil (O A)))))))
def m_as_pair (A : Ad) : List D → Dr → R Dr D := runF (O A) 3 (mb_as_pair A)
def lc_sources_of_0 (A : Ad) : MA (O A) :=
  (mLcS (O A) (mJS (O A) (mVar (O A) 0)) (fName 1) (mYes (O A)) (mCall (O A) 1 (m_as_pair A) (mCons (O A) (mVar (O A) 1) (mNil (O A)))) [1])
def mb_sources_of (A : Ad) : MS (O A) :=
  (mRet (O A) (mDct (O A) (mDictP (O A) (mCons (O A) (mLst (O A) (lc_sources_of_0 A)) (mNil (O A))))))
def m_sources_of (A : Ad) : List D → Dr → R Dr D := runF (O A) 2 (mb_sources_of A)
end
end S
namespace S
open PySem PySem.Spec PyProof.Rows L2 RZ Mr
variable {qst : List Ob}
inductive Th where
  | i (n : Int) | b (x : Bool) | ni (n : Int) | nb (x : Bool)
  deriving DecidableEq
abbrev Mv := Th × Th
def isI : Th → Bool
  | .i _ => true
  | _ => false
def isC : Th → Bool
  | .ni _ => true
  | _ => false
abbrev Pr := Int × Th
structure POk (ps : List Pr) : Prop where
  nd : (ps.map (·.1)).Nodup
  src : ∀ p ∈ ps, isI p.2 = true ∨ isC p.2 = true
  len : ps.length ≤ 2000
def srcOf (ps : List Pr) (c : Int) : Option Th := (ps.find? fun p => decide (p.1 = c)).map (·.2)
def Nm (ps : List Pr) (c : Int) : Prop := ∃ p ∈ ps, p.1 = c ∨ p.2 = .i c
open Classical in
noncomputable def ini (ps : List Pr) : Int → Option Th := fun c => if c = -1 ∨ Nm ps c then some (.i c) else none
end S
namespace S
open PySem PySem.Spec PyProof.Rows L2 RZ Mr
variable {qst : List Ob}
abbrev Hs := Int → Option Th
def stepF (h : Hs) (m : Mv) : Option Hs := match m.1 with
  | .i t => if (h t).isSome = true then (match m.2 with
    | .ni n => some (fset h t (.ni n))
    | .i c => (h c).map fun v => fset h t v
    | _ => none) else none
  | _ => none
def runMv (h : Hs) : List Mv → Option Hs
  | [] => some h
  | m :: ms => (stepF h m).bind fun h' => runMv h' ms
/-- what the symbols held may be -/
def ValOk (h : Hs) : Prop := ∀ c v, h c = some v → isI v = true ∨ isC v = true
theorem ValOk.set {h : Hs} (q : ValOk h) (c : Int) {v : Th} (hv : isI v = true ∨ isC v = true) : ValOk (fset h c v) := by
  intro d w e
  unfold fset at e
  split at e
  · cases e; exact hv
  · exact q d w e
def due (ps : List Pr) (c : Int) : Th := (srcOf ps c).getD (.i c)
/-- the moves do what the pairs say -/
def Good (ps : List Pr) (ms : List Mv) : Prop := ∃ h, runMv (ini ps) ms = some h ∧ ∀ c, Nm ps c → h c = some (due ps c)
end S
namespace S
open PySem PySem.Spec PyProof.Rows L2 RZ Mr
theorem wk_keys {kvs : List (Key × D)} {ns : List Int} (h : kvs.map (·.1) = ns.map Sum.inl) : wkD .ks kvs = ns.map D.int := by
  have := keyD_map ns kvs h
  exact this
end S
namespace S
open PySem PySem.Spec PyProof.Rows L2 RZ Mr
variable {qst : List Ob}
end S
namespace S
open PySem PySem.Spec PyProof.Rows L2 RZ Mr
variable {qst : List Ob}
open Classical in
noncomputable def held0 (ns : List Int) : Hs := fun c => if c = -1 ∨ c ∈ ns then some (.i c) else none
end S
namespace S
open PySem PySem.Spec PyProof.Rows L2 RZ Mr
theorem valP_snoc {β : Type} (kvs : List (Key × β)) (k k' : Key) (v : β) : valP (kvs ++ [(k, v)]) k' = (valP kvs k').or (if k = k' then some v else none) := by
  unfold valP
  rw [List.find?_append]
  cases h : List.find? (fun kv => decide (kv.1 = k')) kvs with
  | some z => rfl
  | none =>
    simp only [Option.none_or, Option.map_none, List.find?_cons, List.find?_nil]
    split
    · rename_i hk
      rw [if_pos (by simpa using hk)]
      rfl
    · rename_i hk
      rw [if_neg (by simpa using hk)]
      rfl
theorem valP_any {β : Type} {kvs : List (Key × β)} {k : Key} (h : valP kvs k = none) : (kvs.any fun kv => decide (kv.1 = k)) = false := by
  unfold valP at h
  rw [Option.map_eq_none_iff, List.find?_eq_none] at h
  rw [List.any_eq_false]
  exact h
/-- the dict of the first places of cells -/
def Fst (kds : List (Key × D)) (cs : List Int) : Prop := (∀ c : Int, valP kds (.inl c) = (cs.findIdx? fun x => decide (x = c)).map fun (j : Nat) => D.int (j : Int)) ∧ kds.length ≤ cs.length
theorem Fst.step {kds : List (Key × D)} {cs : List Int} (h : Fst kds cs) (c : Int) : Fst (if (valP kds (.inl c)).isSome = true then kds else putP kds (.inl c) (.int (cs.length : Int))) (cs ++ [c]) := by
  by_cases hs : (valP kds (.inl c)).isSome = true
  · rw [if_pos hs]
    refine ⟨fun c' => ?_, by rw [List.length_append]; have := h.2; omega⟩
    rw [h.1 c', List.findIdx?_append]
    cases e : cs.findIdx? fun x => decide (x = c') with
    | some j => rfl
    | none =>
      by_cases hc : c = c'
      · subst hc
        rw [h.1 c, e] at hs
        cases hs
      · simp [hc]
  · rw [if_neg hs]
    have hn : valP kds (.inl c) = none := by simpa using hs
    have hp : putP kds (.inl c) (.int (cs.length : Int)) = kds ++ [(.inl c, .int (cs.length : Int))] := by
      unfold putP
      rw [valP_any hn]
      rfl
    rw [hp]
    refine ⟨fun c' => ?_, by rw [List.length_append, List.length_append]; have := h.2; simp; omega⟩
    rw [valP_snoc, h.1 c', List.findIdx?_append]
    cases e : cs.findIdx? fun x => decide (x = c') with
    | some j => rfl
    | none =>
      by_cases hc : c = c'
      · subst hc
        simp
      · simp [hc]
end S
namespace S
open PySem PySem.Spec PyProof.Rows L2 RZ Mr
variable {qst : List Ob}
theorem _root_.Mr.OkQ.at0 {q : List Ob} {o : Ob} {r : List Ob} {b : Int} {s : Dr} (k : OkQ (q ++ o :: r) b s) : s.st[q.length]? = some o := by rw [k.st]; simp
theorem _root_.Mr.OkQ.at1 {q : List Ob} {o o2 : Ob} {r : List Ob} {b : Int} {s : Dr} (k : OkQ (q ++ o :: o2 :: r) b s) : s.st[q.length + 1]? = some o2 := by rw [k.st]; simp
/-- a cell that a law draws -/
def CB (c : Int) : Prop := 0 ≤ c ∧ c < 100000
structure Cs1 (cs : List Int) : Prop where
  nd : cs.Nodup
  cb : ∀ c ∈ cs, CB c
end S
namespace S
open PySem PySem.Spec PyProof.Rows L2 RZ Mr
variable {qst : List Ob}
def SOk (cs : List Int) (t : Th) : Prop := (∃ c, t = .i c ∧ c ∈ cs) ∨ ∃ n, t = .ni n
theorem SOk.ic {cs : List Int} {t : Th} (h : SOk cs t) : isI t = true ∨ isC t = true := by
  rcases h with ⟨c, rfl, _⟩ | ⟨n, rfl⟩
  · exact .inl rfl
  · exact .inr rfl
/-- the pairs of the first cells -/
structure PrOk (cs : List Int) (i : Nat) (ps : List Pr) : Prop where
  ky : ∃ l : List Int, ps.map (·.1) = l ∧ l.Sublist (cs.take i)
  src : ∀ p ∈ ps, SOk cs p.2 ∧ p.2 ≠ .i p.1
/-- what a drawn assignment is -/
structure AOk (n : Nat) (ps : List Pr) : Prop where
  ok : POk ps
  len : ps.length ≤ n
  tg : ∀ p ∈ ps, CB p.1
  sc : ∀ p ∈ ps, (∃ c, p.2 = .i c ∧ CB c) ∨ ∃ n, p.2 = .ni n
  ne : ∀ p ∈ ps, p.2 ≠ .i p.1
theorem AOk.neg {n : Nat} {ps : List Pr} (h : AOk n ps) : ¬ Nm ps (-1) := by
  rintro ⟨p, hp, e | e⟩
  · have := (h.tg p hp).1; omega
  · rcases h.sc p hp with ⟨c, e2, c0, _⟩ | ⟨m, e2⟩
    · rw [e] at e2; cases e2; omega
    · rw [e] at e2; cases e2
end S
namespace S
open PySem PySem.Spec PyProof.Rows L2 RZ Mr
variable {qst : List Ob}
open Classical in
noncomputable def canB (h : Hs) (L : List Pr) (p : Pr) : Bool := decide ((∀ q ∈ L, q.2 ≠ .i p.1) ∨ ∃ c, h c = some (.i p.1) ∧ c ≠ p.1)
open Classical in
theorem canB_iff {h : Hs} {L : List Pr} {p : Pr} : canB h L p = true ↔ ((∀ q ∈ L, q.2 ≠ .i p.1) ∨ ∃ c, h c = some (.i p.1) ∧ c ≠ p.1) := by
  unfold canB
  exact decide_eq_true_iff
/-- what holds between two moves -/
structure LInv (n : Nat) (h : Hs) (L : List Pr) : Prop where
  nd : (L.map (·.1)).Nodup
  ak : AOk n L
  own : ∀ p ∈ L, h p.1 = some (.i p.1)
  src : ∀ p ∈ L, ∀ c, p.2 = .i c → ∃ d, h d = some (.i c)
  scr : (h (-1)).isSome = true
end S
namespace S
open PySem PySem.Spec PyProof.Rows L2 RZ Mr
variable {qst : List Ob}
end S
namespace S
open PySem PySem.Spec PyProof.Rows L2 RZ Mr
variable {qst : List Ob}
end S
namespace Mr
open PySem PySem.Spec PyProof.Rows L2 RZ
def keysM : List D → Option (List Key)
  | [] => some []
  | .int i :: ds => (keysM ds).map (.inl i :: ·)
  | .str x :: ds => (keysM ds).map (.inr x :: ·)
  | _ :: _ => none
def keyM : D → Option MX.MK
  | .int i => some (.inl i)
  | .tup ds => (keysM ds).map .inr
  | _ => none
def valN (kvs : List (MX.MK × D)) (k : MX.MK) : Option D := (kvs.find? fun kv => decide (kv.1 = k)).map (·.2)
section
variable {K : PySem.W.Frag} {O : Wo} {Wx : WX} {X : Cx} {G0 : Gh} {H0 : Hp} {G : Gh} {H : Hp} {G1 : Gh} {H1 : Hp} {σ : L2.St} {ρ : Ev} {s s1 : O.S}
theorem Reps.keysM : ∀ {vs : List V} {ds : List D} {ks : List Key}, Reps K G vs ds → Mr.keysM ds = some ks → vs = ks.map kV
  | _, _, _, .nil, h => by cases h; rfl
  | _, _, _, .cons q r, h => by
    cases q <;> first | (cases h; done) | skip
    all_goals
      unfold Mr.keysM at h
      rw [Option.map_eq_some_iff] at h
      obtain ⟨ks, e2, rfl⟩ := h
      rw [r.keysM e2]
      rfl
theorem Rep.keyM {v : V} {d : D} {k : MX.MK} (r : Rep K G v d) (h : Mr.keyM d = some k) : ∃ x : MX.XK, v = MX.kvX x ∧ MX.keyX x = k ∧ KeyC K G x := by
  cases r with
  | int i => cases h; exact ⟨.inl i, rfl, rfl, trivial⟩
  | @tup a vs ds hs r =>
    unfold Mr.keyM at h
    rw [Option.map_eq_some_iff] at h
    obtain ⟨ks, e, rfl⟩ := h
    refine ⟨.inr (ks, a), rfl, rfl, ?_⟩
    rw [r.keysM e] at hs
    exact hs
  | _ => cases h
theorem KeyC.keyV {x : MX.XK} (g : Sh G H) (h : KeyC K G x) : MX.KeyV K H (MX.keyX x) (MX.kvX x) := by
  cases x with
  | inl i => exact rfl
  | inr p => exact ⟨p.2, rfl, g.seqT h⟩
theorem RepX.ev {vs : List (MX.XK × V)} {ds : List (MX.MK × D)} (g : Sh G H) (r : RepX K G vs ds) : MX.EvX K H vs := by
  induction vs generalizing ds with
  | nil => intro x hx; exact nomatch hx
  | cons p vs ih =>
    cases r with
    | cons k h r =>
      intro x hx
      rcases List.mem_cons.mp hx with rfl | hx
      · exact k.keyV g
      · exact ih r x hx
theorem RepX.length {vs : List (MX.XK × V)} {ds : List (MX.MK × D)} (r : RepX K G vs ds) : vs.length = ds.length := by
  induction vs generalizing ds with
  | nil => cases r; rfl
  | cons p vs ih =>
    cases r with
    | cons k h r => rw [List.length_cons, List.length_cons, ih r]
theorem RepX.val {vs : List (MX.XK × V)} {ds : List (MX.MK × D)} (r : RepX K G vs ds) (k : MX.MK) : (MX.valX vs k = none ∧ valN ds k = none) ∨ ∃ v d, MX.valX vs k = some v ∧ valN ds k = some d ∧ Rep K G v d := by
  induction vs generalizing ds with
  | nil => cases r; exact .inl ⟨rfl, rfl⟩
  | cons p vs ih =>
    cases r with
    | @cons x v d _ ds q h r =>
      unfold MX.valX valN
      rw [List.find?_cons, List.find?_cons]
      by_cases e : MX.keyX x = k
      · simp only [e, decide_true]
        exact .inr ⟨v, d, rfl, rfl, h⟩
      · simp only [e, decide_false]
        exact ih r
theorem RepX.snoc {x : MX.XK} {v : V} {d : D} (q : KeyC K G x) (h : Rep K G v d) : ∀ {vs : List (MX.XK × V)} {ds : List (MX.MK × D)}, RepX K G vs ds → RepX K G (vs ++ [(x, v)]) (ds ++ [(MX.keyX x, d)])
  | _, _, .nil => .cons q h .nil
  | _, _, .cons q' h' r => .cons q' h' (r.snoc q h)
theorem RepK.allI {vs : List (Key × V)} {ds : List (Key × D)} (r : RepK K G vs ds) (h : ds.all (fun kv => kv.1.isLeft) = true) : ∀ kv ∈ vs, ∃ i : Int, kv.1 = .inl i := by
  induction vs generalizing ds with
  | nil => intro x hx; exact nomatch hx
  | cons p vs ih =>
    cases r with
    | @cons f v d _ ds q r =>
      rw [List.all_cons, Bool.and_eq_true] at h
      intro kv hkv
      rcases List.mem_cons.mp hkv with rfl | hkv
      · cases f with
        | inl i => exact ⟨i, rfl⟩
        | inr x => exact nomatch h.1
      · exact ih r h.2 kv hkv
/-- {} with mixed keys to come -/
def mNewX (O : Wo) (hf : Key → Int) : ME O := fun _ s => .ok (.obj (O.st s).length) (O.wi s (O.st s ++ [.dcX hf []]))
theorem de_newX {hf : Key → Int} {pos : Pos} (c : Cn K Wx X) : DE K O Wx X (.Dict [] [] pos) (MX.tDNewX hf) (mNewX O hf) := by
  refine ⟨c.hK, c.tk, MX.pe_dnewX, fun σ ρ H0 G H s Q F q p np => ?_⟩
  have gp : G p = none := F.gh.free np
  have t : Tr O.W G H G (upd H p (MX.MixD hf p [])) := (Tr.refl F.gh).mut np gp
  have k : O.ok K s G (upd H p (MX.MixD hf p [])) := ok_off F.ok gp (nW_of F.ok np)
  exact q (.ref p) (mkG G p (O.st s).length) _ (t.mark np gp upd_same rfl) (ok_mark k gp ⟨[], upd_same, .nil⟩) (.obj (.inl mkG_same))
/-- x in y, y a dict whose keys are ints, or mixed -/
def blK : D → Option Bool
  | .bl b => some b
  | _ => none
theorem blK_inv {d : D} {b : Bool} (h : blK d = some b) : d = .bl b := by
  cases d <;> first | (cases h; rfl) | cases h
def dInX0 (l : List Ob) (x y : D) : Option D := (dcS l y).bind fun kvs => match blK x with
  | some b => if kvs.all (fun kv => kv.1.isLeft) = true then some (.bl (kvs.any fun kv => decide (kv.1 = .inl (PpSet.b2 b)))) else none
  | none => match keyM x with
    | some (.inr _) => if kvs.all (fun kv => kv.1.isLeft) = true then some (.bl false) else none
    | _ => (toKey x).map fun k => .bl (valP kvs k).isSome
open Classical in
noncomputable def dcX (hf : Key → Int) (l : List Ob) (y : D) : Option (List (MX.MK × D)) := match y with
  | .obj n => (match l[n]? with
    | some (.dcX hf' kvs) => if hf' = hf then some kvs else none
    | _ => none)
  | _ => none
theorem dcX_at {hf : Key → Int} {l : List Ob} {n : Nat} {kvs : List (MX.MK × D)} (h : l[n]? = some (.dcX hf kvs)) : dcX hf l (.obj n) = some kvs := by
  simp only [dcX, h, if_true]
theorem dcX_inv {hf : Key → Int} {l : List Ob} {y : D} {kvs : List (MX.MK × D)} (h : dcX hf l y = some kvs) : ∃ n, y = .obj n ∧ l[n]? = some (.dcX hf kvs) := by
  unfold dcX at h
  split at h
  · rename_i n
    split at h
    · rename_i hf' kv e
      split at h
      · rename_i q
        subst q
        cases h
        exact ⟨n, rfl, e⟩
      · cases h
    · cases h
  · cases h
noncomputable def dInX (hf : Key → Int) (l : List Ob) (x y : D) : Option D := match dcX hf l y with
  | some kvs => (keyM x).map fun k => .bl (valN kvs k).isSome
  | none => dInX0 l x y
theorem de_inX {hf : Key → Int} {a b : Expr} {ta tb : TE} {ma mb : ME O} {pos : Pos} {j : Nat} (hh : hf = keyH X.w) (hr : Room j X.A) (ha : DE K O Wx X a ta ma) (hb : DE K O Wx X b tb mb) (hm : behindInMarks .In b = false := by first | rfl | with_unfolding_all rfl) :
    DE K O Wx X (.Compare a [.In] [b] pos) (MX.tDInX K hf ta tb) (mBinS O (dInX hf) ma mb) := by
  have hK := ha.hK
  subst hK
  refine ⟨rfl, ha.tk, pe_cmp (MX.pc_dinX hh (hu_of hr) ha.pe hb.pe) hm, fun σ ρ H0 G H s Q F h => ?_⟩
  refine ha.sn σ ρ H0 G H s _ F (pst_bind h fun dx s1 _ x G1 H1 t1 k1 r1 h1 => ?_)
  refine hb.sn σ ρ H0 G1 H1 s1 _ (F.tr t1 k1) (pst_bind h1 fun dy s2 _ y G2 H2 t2 k2 r2 h2 => ?_)
  have F2 := (F.tr t1 k1).tr t2 k2
  have r1 := r1.mono t2.gg
  obtain ⟨d, e, q⟩ := pst_lift F2 h2
  unfold dInX at e
  split at e
  · rename_i kvs ec
    obtain ⟨n, rfl, el⟩ := dcX_inv ec
    rw [Option.map_eq_some_iff] at e
    obtain ⟨k, ek, rfl⟩ := e
    obtain ⟨a', rfl, _, vs, hp, r⟩ := F2.sto.get r2 el
    obtain ⟨xk, rfl, rfl, kc⟩ := r1.keyM ek
    refine ⟨a', rfl, .inr (.inr (.inr ⟨vs, _, hp, r.ev F2.gh, kc.keyV F2.gh, ?_⟩))⟩
    have : (MX.valX vs (MX.keyX xk)).isSome = (valN kvs (MX.keyX xk)).isSome := by
      rcases r.val (MX.keyX xk) with ⟨a1, a2⟩ | ⟨v, d, a1, a2, _⟩ <;> rw [a1, a2] <;> rfl
    rw [this]
    exact q _ G2 H2 (.refl t2.gh) (.bl _)
  · unfold dInX0 at e
    rw [Option.bind_eq_some_iff] at e
    obtain ⟨kvs, e1, e⟩ := e
    obtain ⟨a', vs, rfl, hR, rk⟩ := dcS_ok F2.sto F2.gh r2 e1
    refine ⟨a', rfl, ?_⟩
    cases hb : blK dx with
    | some b =>
      rw [hb] at e
      dsimp only at e
      split at e
      · rename_i al
        cases e
        rw [← rk.any] at q
        have eb := blK_inv hb
        subst eb
        cases r1 with
        | bl => exact .inr (.inr (.inl ⟨vs, b, rfl, hR, rk.allI al, q _ G2 H2 (.refl t2.gh) (.bl _)⟩))
      · cases e
    | none =>
    rw [hb] at e
    dsimp only at e
    split at e
    · rename_i ks ek
      split at e
      · rename_i al
        cases e
        obtain ⟨xk, rfl, ex, kc⟩ := r1.keyM ek
        have kv := kc.keyV F2.gh
        rw [ex] at kv
        exact .inr (.inl ⟨vs, ks, kv, hR, rk.allI al, q _ G2 H2 (.refl t2.gh) (.bl _)⟩)
      · cases e
    · rw [Option.map_eq_some_iff] at e
      obtain ⟨k, e2, rfl⟩ := e
      have := r1.key e2
      subst this
      rw [← rk.isSome] at q
      exact .inl ⟨_, DGet.r hR, q _ G2 H2 (.refl t2.gh) (.bl _)⟩
theorem dt_inX {hf : Key → Int} {a b : Expr} {ta tb : TE} {ma mb : ME O} {pos : Pos} {j : Nat} (hh : hf = keyH X.w) (hr : Room j X.A) (ha : DE K O Wx X a ta ma) (hb : DE K O Wx X b tb mb) (hm : behindInMarks .In b = false := by first | rfl | with_unfolding_all rfl) :
    DT K O Wx X (.Compare a [.In] [b] pos) (tTest (MX.tDInX K hf ta tb)) (mTest O (mBinS O (dInX hf) ma mb)) := by
  have hK := ha.hK
  subst hK
  exact ⟨rfl, ha.tk, pt_cmp (MX.pc_dinX hh (hu_of hr) ha.pe hb.pe) hm, snd_test (de_inX (pos := pos) hh hr ha hb hm).sn⟩
/-- a[b], a a dict with mixed keys -/
noncomputable def idxX (hf : Key → Int) (l : List Ob) (x y : D) : Option D := (dcX hf l x).bind fun kvs => (keyM y).bind fun k => valN kvs k
theorem de_idxX {hf : Key → Int} {a b : Expr} {ta tb : TE} {ma mb : ME O} {pos : Pos} {j : Nat} (hh : hf = keyH X.w) (hr : Room j X.A) (ha : DE K O Wx X a ta ma) (hb : DE K O Wx X b tb mb) (hs2 : NoSl b := by exact fun _ _ => rfl) :
    DE K O Wx X (.Subscript a b pos) (MX.tDGetX K hf ta tb) (mBinS O (idxX hf) ma mb) := by
  have hK := ha.hK
  subst hK
  refine ⟨rfl, ha.tk, MX.pe_dgetX hh (hu_of hr) ha.pe hb.pe hs2, fun σ ρ H0 G H s Q F h => ?_⟩
  refine ha.sn σ ρ H0 G H s _ F (pst_bind h fun dx s1 e1 x G1 H1 t1 k1 r1 h1 => ?_)
  have F1 := F.tr t1 k1
  refine hb.sn σ ρ H0 G1 H1 _ _ F1 (pst_bind h1 fun dy s2 e2 y G2 H2 t2 k2 r2 h2 => ?_)
  have F2 := F1.tr t2 k2
  obtain ⟨d, e, q⟩ := pst_lift F2 h2
  unfold idxX at e
  rw [Option.bind_eq_some_iff] at e
  obtain ⟨kvs, ec, e⟩ := e
  rw [Option.bind_eq_some_iff] at e
  obtain ⟨k, ek, ev⟩ := e
  obtain ⟨n, rfl, el⟩ := dcX_inv ec
  obtain ⟨a', rfl, _, vs, hp, r⟩ := F2.sto.get (r1.mono t2.gg) el
  obtain ⟨xk, rfl, rfl, kc⟩ := r2.keyM ek
  rcases r.val (MX.keyX xk) with ⟨a1, a2⟩ | ⟨v, d', a1, a2, rr⟩
  · rw [a2] at ev; cases ev
  · rw [a2] at ev
    cases ev
    exact ⟨a', vs, _, v, rfl, hp, r.ev F2.gh, kc.keyV F2.gh, a1, q v G2 H2 (.refl t2.gh) rr⟩
/-- d.setdefault(k, e), d with mixed keys -/
noncomputable def mSetdX (O : Wo) (hf : Key → Int) (mo mk me : ME O) : ME O := fun ρ s => (mo ρ s).bind fun x s1 => if (dcX hf (O.st s1) x).isSome = true then (mk ρ s1).bind fun k s2 => (me ρ s2).bind fun z s3 => (match x with
  | .obj n => (match dcX hf (O.st s3) (.obj n), keyM k with
    | some kvs, some k => if kvs.length < 100000 then (match valN kvs k with
      | some v => .ok v s3
      | none => .ok z (stPut O s3 n (.dcX hf (kvs ++ [(k, z)])))) else .bad
    | _, _ => .bad)
  | _ => .bad) else .bad
theorem de_setdX {hf : Key → Int} {o e f : Expr} {to te tf : TE} {mo me mf : ME O} {apos cpos : Pos} {j : Nat} (hh : hf = keyH X.w) (hr : Room j X.A) (ho : DE K O Wx X o to mo) (he : DE K O Wx X e te me) (hf' : DE K O Wx X f tf mf) (m : M2 X o "setdefault" apos e f cpos := by exact ⟨rfl, rfl, rfl, rfl⟩) :
    DE K O Wx X (.Call (.Attribute o "setdefault" apos) [e, f] [] cpos) (MX.tDSetdX K hf to te tf) (mSetdX O hf mo me mf) := by
  have hK := ho.hK
  subst hK
  refine ⟨rfl, ho.tk, MX.pe_dsetdX hh (hu_of hr) ho.pe he.pe hf'.pe m, fun σ ρ H0 G H s Q F h => ?_⟩
  refine ho.sn σ ρ H0 G H s _ F (pst_bind h fun dx s1 _ x G1 H1 t1 k1 r1 h1 => ?_)
  have F1 := F.tr t1 k1
  split at h1
  · rename_i hs
    obtain ⟨kvs0, hs⟩ := Option.isSome_iff_exists.mp hs
    obtain ⟨n, rfl, el0⟩ := dcX_inv hs
    obtain ⟨a, rfl, _, vs0, hp0, _⟩ := F1.sto.get r1 el0
    refine ⟨a, vs0, rfl, hp0, ?_⟩
    refine he.sn σ ρ H0 G1 H1 s1 _ F1 (pst_bind h1 fun dk s2 _ kv G2 H2 t2 k2 r2 h2 => ?_)
    have F2 := F1.tr t2 k2
    refine hf'.sn σ ρ H0 G2 H2 s2 _ F2 (pst_bind h2 fun dz s3 _ zv G3 H3 t3 k3 r3 h3 => ?_)
    have F3 := F2.tr t3 k3
    dsimp only at h3
    split at h3
    · rename_i kvs k e1 e2
      split at h3
      · rename_i hz
        obtain ⟨n', en, el⟩ := dcX_inv e1
        cases en
        obtain ⟨b, eb, hg, vs, hp, r⟩ := F3.sto.get ((r1.mono t2.gg).mono t3.gg) el
        cases eb
        obtain ⟨xk, rfl, rfl, kc⟩ := (r2.mono t3.gg).keyM e2
        refine ⟨vs, xk, hp, r.ev F3.gh, rfl, kc.keyV F3.gh, by rw [r.length]; exact sz5l hz, fun w hw => ?_, fun hn => ?_⟩
        · rcases r.val (MX.keyX xk) with ⟨a1, a2⟩ | ⟨v, d', a1, a2, rr⟩
          · rw [a1] at hw; cases hw
          · rw [a2] at h3
            rw [a1] at hw
            cases hw
            exact h3 _ G3 H3 (.refl t3.gh) k3 rr
        · rcases r.val (MX.keyX xk) with ⟨a1, a2⟩ | ⟨v, d', a1, a2, rr⟩
          · rw [a2] at h3
            obtain ⟨t5, k5⟩ := F3.stw (o := MX.MixD hf a (vs ++ [(xk, zv)])) (ob := .dcX hf (kvs ++ [(MX.keyX xk, dz)])) hg (nfz hp rfl) rfl ⟨_, upd_same, r.snoc kc r3⟩ hg
            exact h3 zv G3 _ t5 k5 r3
          · rw [a1] at hn; cases hn
      · exact (show False from h3).elim
    · exact (show False from h3).elim
  · exact (show False from h1).elim
def dZipS (l : List Ob) : List D → Option (List D)
  | [d, e] => (sqS l d).bind fun x => (sqS l e).map fun y => zipD x.2 y.2
  | _ => none
theorem dZipS_sq {l : List Ob} {ds its : List D} (h : dZipS l ds = some its) : ∃ d e kx xs ky ys, ds = [d, e] ∧ sqS l d = some (kx, xs) ∧ sqS l e = some (ky, ys) ∧ its = zipD xs ys := by
  unfold dZipS at h
  split at h
  · rename_i d e
    rw [Option.bind_eq_some_iff] at h
    obtain ⟨⟨kx, xs⟩, e1, h⟩ := h
    rw [Option.map_eq_some_iff] at h
    obtain ⟨⟨ky, ys⟩, e2, rfl⟩ := h
    exact ⟨d, e, kx, xs, ky, ys, rfl, e1, e2, rfl⟩
  · cases h
def mZipLS (O : Wo) (m : MA O) : MA O := fun ρ s => (m ρ s).bind fun ds s1 => R.lift (dZipS (O.st s1) ds) s1
theorem dn_listZipS {e e2 : Expr} {ta : TA} {ma : MA O} {p p2 pos pos2 : Pos} (c : Cs K Wx X) (hm : X.mg "list" = none) (hm2 : X.mg "zip" = none) (ha : DA K O Wx X [e, e2] ta ma) (hg : Gl X "list" := by rfl) (hg2 : Gl X "zip" := by rfl)
    (na : starEach [.Call (.Name "zip" p2) [e, e2] [] pos2] X.env = (false, eval (.Call (.Name "zip" p2) [e, e2] [] pos2) X.env) :: starEach [] X.env := by rfl)
    (hs : starEach [e, e2] X.env = (false, eval e X.env) :: starEach [e2] X.env := by rfl) (hpl : (backTo pos2 (starEach [e2] X.env)).any (·.1) = false := by rfl) :
    DN K O Wx X (.Call (.Name "list" p) [.Call (.Name "zip" p2) [e, e2] [] pos2] [] pos) (tListZip K ta) (mZipLS O ma) := by
  refine ⟨ha.hK, ha.tk, by have := ha.hK; subst this; exact pe_listZip c.hc hg hm hg2 hm2 ha.pe na hs hpl, fun σ ρ H0 G H s Q F h => ?_⟩
  refine ha.sn σ ρ H0 G H s _ F (pstN_bind h fun ds s1 _ vs G1 H1 t1 k1 r1 h1 => ?_)
  have F1 := F.tr t1 k1
  cases e0 : dZipS (O.st s1) ds with
  | none => rw [e0] at h1; exact (show False from h1).elim
  | some its =>
    rw [e0] at h1
    obtain ⟨d, e, kx, xs, ky, ys, rfl, s1', s2', rfl⟩ := dZipS_sq e0
    cases r1 with
    | cons r1 r2 =>
      cases r2 with
      | cons r2 r3 =>
        cases r3
        obtain ⟨a, us, rfl, q1, p1⟩ := sqS_ok F1.sto F1.gh r1 s1'
        obtain ⟨b, ws, rfl, q2, p2⟩ := sqS_ok F1.sto F1.gh r2 s2'
        refine ⟨kx, ky, a, b, us, ws, rfl, q1, q2, fun H' p ts hk np nts hp nd hS hl hrow hoff => ?_⟩
        have gt : ∀ t ∈ ts, G1 t = none := fun t ht => F1.gh.free (nts t ht)
        have off : ∀ b, b ∉ ts → putGs G1 ts (us.zip ws) b = G1 b := fun b hb => putGs_off ts _ _ hb
        have at' := putGs_at ts (us.zip ws) G1 nd
        have row : ∀ (j : Nat) a, ts[j]? = some a → ∃ q, (us.zip ws)[j]? = some q := fun j a hj => by
          have := (List.getElem?_eq_some_iff.mp hj).1
          exact ⟨_, List.getElem?_eq_getElem (show j < (us.zip ws).length by omega)⟩
        have gg : Sx G1 (putGs G1 ts (us.zip ws)) := fun b o e => by
          rw [off b fun hb => by rw [gt b hb] at e; cases e]
          exact e
        have gh : Sh (putGs G1 ts (us.zip ws)) H' := fun b o e => by
          by_cases hb : b ∈ ts
          · obtain ⟨j, hj⟩ := List.mem_iff_getElem?.mp hb
            obtain ⟨q, hq⟩ := row j b hj
            rw [at' j b q hj hq] at e
            cases e
            exact hrow j b q hj hq
          · rw [off b hb] at e
            exact sh_mono F1.gh hk b o e
        have nm : ∀ b n, Mkk (putGs G1 ts (us.zip ws)) b n → Mkk G1 b n := fun b n e => by
          by_cases hb : b ∈ ts
          · obtain ⟨j, hj⟩ := List.mem_iff_getElem?.mp hb
            obtain ⟨q, hq⟩ := row j b hj
            rcases e with e | ⟨o, e⟩ <;> (rw [at' j b q hj hq] at e; cases e)
          · rcases e with e | ⟨o, e⟩
            · rw [off b hb] at e; exact .inl e
            · rw [off b hb] at e; exact .inr ⟨o, e⟩
        refine h1 p (ts.map V.ref) (putGs G1 ts (us.zip ws)) H' ⟨gg.m, gh, fun b e => ?_, fun b o _ _ e => hk b o e, fun b e => ?_, fun b o u e => hk b _ e⟩ ?_ np ?_ hS ?_
        · by_cases hb : b ∈ ts
          · exact .inr (nts b hb)
          · rw [off b hb] at e
            exact .inl e
        · cases e1 : H1 b with
          | none => rfl
          | some o => rw [hk b o e1] at e; cases e
        · refine O.loc K s1 G1 H1 _ H' gg nm (fun a w => ?_) k1
          have ha : H1 a ≠ none := by
            rcases w with w | ⟨n, w⟩
            · exact O.dom K s1 G1 H1 a k1 w
            · rcases w with w | ⟨o, w⟩ <;> exact Sh.some F1.gh w
          exact hoff a (fun ht => ha (nts a ht)) fun e => ha (by rw [e]; exact np)
        · rw [off p hp]
          exact F1.gh.free np
        · refine Reps.of_get ?_ fun j v d hv hd => ?_
          · rw [List.length_map, hl, zipD_length, List.length_zip, p1.length, p2.length]
          · rw [List.getElem?_map, Option.map_eq_some_iff] at hv
            obtain ⟨t, ht, rfl⟩ := hv
            obtain ⟨da, db, x1, x2, rfl⟩ := zipD_at hd
            obtain ⟨v1, g1, rv1⟩ := p1.get' x1
            obtain ⟨v2, g2, rv2⟩ := p2.get' x2
            have e1 := at' j t (v1, v2) ht (by rw [List.getElem?_zip_eq_some]; exact ⟨g1, g2⟩)
            exact .tup (.inl (fr_some.mpr e1)) (.cons (rv1.mono gg.m) (.cons (rv2.mono gg.m) .nil))
end
end Mr
namespace S
open PySem PySem.Spec PyProof.Rows L2 RZ Mr
noncomputable section
end
end S
namespace S
open PySem PySem.Spec PyProof.Rows L2 RZ Mr
noncomputable section
end
end S
namespace S
open PySem PySem.Spec PyProof.Rows L2 RZ Mr
noncomputable section
end
end S
namespace S
open PySem PySem.Spec PyProof.Rows L2 RZ Mr
noncomputable section
end
end S
namespace S
open PySem PySem.Spec PyProof.Rows L2 RZ Mr
noncomputable section
def dc_reader_counts_2_0 (A : Ad) : MM (O A) :=
  (mDcS (O A) (mJI (O A) (mItD (O A) .ks (mVar (O A) 0))) (fName 3) (mYes (O A)) (mVar (O A) 3) (mC (O A) (.int 0)) [3])
def bd_reader_counts_2_1 (A : Ad) : MS (O A) :=
  (mIfS (O A) (mTest (O A) (mBinS (O A) (dInX A.hw) (mVar (O A) 2) (mVar (O A) 1)))
  (mAugIS (O A) (dInt2 fun i j => some (.int (i + j))) (mVar (O A) 1) (mVar (O A) 2) (mC (O A) (.int 1)))
  (mNext (O A)))
def mb_reader_counts_2 (A : Ad) : MS (O A) :=
  (mSeq (O A) (mLock (O A) (mVar (O A) 0) (mAsg (O A) (mObjD (O A) (dc_reader_counts_2_0 A)) (fName 1)))
  (mSeq (O A) (mLock (O A) (mVar (O A) 0) (mForS (O A) (mJI (O A) (mItD (O A) .vs (mVar (O A) 0))) (fName 2)
  (bd_reader_counts_2_1 A)))
  (mRet (O A) (mVar (O A) 1))))
def m_reader_counts_2 (A : Ad) : List D → Dr → R Dr D := runF (O A) 4 (mb_reader_counts_2 A)
def lc_moves_outside_cycles_2_0 (A : Ad) : MA (O A) :=
  (mLcS (O A) (mJI (O A) (mItD (O A) .ks (mVar (O A) 0))) (fName 6) (mTest (O A) (mBin (O A) dEq (mIdxS (O A) (mVar (O A) 1) (mVar (O A) 6)) (mC (O A) (.int 0)))) (mVar (O A) 6) [6])
def bd_moves_outside_cycles_2_1 (A : Ad) : MS (O A) :=
  (mSeq (O A) (mAsg (O A) (mIdxO (O A) 2 (mVar (O A) 5)) (fName 6))
  (mSeq (O A) (mAsg (O A) (mIdxS (O A) (mVar (O A) 0) (mVar (O A) 6)) (fName 7))
  (mSeq (O A) (mDrop (O A) (mMutL (O A) lApp (mVar (O A) 3) (mCons (O A) (mCl (O A) dTup (mCons (O A) (mVar (O A) 6) (mCons (O A) (mVar (O A) 7) (mNil (O A))))) (mNil (O A)))))
  (mSeq (O A) (mDrop (O A) (mSetdX (O A) A.hw (mVar (O A) 4) (mVar (O A) 7) (mVar (O A) 6)))
  (mSeq (O A) (mIfS (O A) (mTest (O A) (mBinS (O A) (dInX A.hw) (mVar (O A) 7) (mVar (O A) 1)))
  (mSeq (O A) (mAugIS (O A) dSub (mVar (O A) 1) (mVar (O A) 7) (mC (O A) (.int 1)))
  (mIfS (O A) (mTest (O A) (mBin (O A) dEq (mIdxS (O A) (mVar (O A) 1) (mVar (O A) 7)) (mC (O A) (.int 0))))
  (mAppend (O A) 2 (mVar (O A) 7))
  (mNext (O A))))
  (mNext (O A)))
  (mAug (O A) 5 (dInt2 fun i j => some (.int (i + j))) (mC (O A) (.int 1))))))))
def mb_moves_outside_cycles_2 (A : Ad) : MS (O A) :=
  (mSeq (O A) (mAsg (O A) (mCall (O A) 1 (m_reader_counts_2 A) (mCons (O A) (mVar (O A) 0) (mNil (O A)))) (fName 1))
  (mSeq (O A) (mLock (O A) (mVar (O A) 0) (mOwn (O A) 2 (lc_moves_outside_cycles_2_0 A)))
  (mSeq (O A) (mAsg (O A) (mObjL (O A) (mDisp (O A) (mNil (O A)))) (fName 3))
  (mSeq (O A) (mAsg (O A) (mNewX (O A) A.hw) (fName 4))
  (mSeq (O A) (mAsg (O A) (mC (O A) (.int 0)) (fName 5))
  (mSeq (O A) (mWhile (O A) (fun _ _ => 1000) (mTest (O A) (mBin (O A) dLt (mVar (O A) 5) (mLenO (O A) 2)))
  (bd_moves_outside_cycles_2_1 A))
  (mRet (O A) (mCl (O A) dTup (mCons (O A) (mVar (O A) 3) (mCons (O A) (mVar (O A) 4) (mNil (O A))))))))))))
def m_moves_outside_cycles_2 (A : Ad) : List D → Dr → R Dr D := runF (O A) 8 (mb_moves_outside_cycles_2 A)
def bd_cycle_from_2_0 (A : Ad) : MS (O A) :=
  (mDrop (O A) (mMutL (O A) lApp (mVar (O A) 2) (mCons (O A) (mIdxS (O A) (mVar (O A) 0) (mIdxS (O A) (mVar (O A) 2) (mUn (O A) dNeg (mC (O A) (.int 1))))) (mNil (O A)))))
def mb_cycle_from_2 (A : Ad) : MS (O A) :=
  (mSeq (O A) (mAsg (O A) (mObjL (O A) (mDisp (O A) (mCons (O A) (mVar (O A) 1) (mNil (O A))))) (fName 2))
  (mSeq (O A) (mWhile (O A) (fun _ _ => 1000) (mTest (O A) (mBinS (O A) (liftO dNe) (mIdxS (O A) (mVar (O A) 0) (mIdxS (O A) (mVar (O A) 2) (mUn (O A) dNeg (mC (O A) (.int 1))))) (mVar (O A) 1)))
  (bd_cycle_from_2_0 A))
  (mRet (O A) (mVar (O A) 2))))
def m_cycle_from_2 (A : Ad) : List D → Dr → R Dr D := runF (O A) 3 (mb_cycle_from_2 A)
def dc_cycles_left_2_0 (A : Ad) : MM (O A) :=
  (mDcS (O A) (mJS (O A) (mVar (O A) 1)) (fTup 2 (fCons (fName 4) (fCons (fName 5) fNil))) (mYes (O A)) (mVar (O A) 4) (mC (O A) (.bl true)) [4, 5])
def dc_cycles_left_2_1 (A : Ad) : MM (O A) :=
  (mDcS (O A) (mJS (O A) (mIdxO (O A) 3 (mUn (O A) dNeg (mC (O A) (.int 1))))) (fName 6) (mYes (O A)) (mVar (O A) 6) (mC (O A) (.bl true)) [6])
def bd_cycles_left_2_2 (A : Ad) : MS (O A) :=
  (mIfS (O A) (mTest (O A) (mBinS (O A) (dInS true) (mVar (O A) 4) (mVar (O A) 2)))
  (mSeq (O A) (mAppend (O A) 3 (mCall (O A) 2 (m_cycle_from_2 A) (mCons (O A) (mVar (O A) 0) (mCons (O A) (mVar (O A) 4) (mNil (O A))))))
  (mDrop (O A) (mUpdS (O A) (mVar (O A) 2) (mDct (O A) (dc_cycles_left_2_1 A)))))
  (mNext (O A)))
def mb_cycles_left_2 (A : Ad) : MS (O A) :=
  (mSeq (O A) (mAsg (O A) (mObjD (O A) (dc_cycles_left_2_0 A)) (fName 2))
  (mSeq (O A) (mOwn (O A) 3 (mDisp (O A) (mNil (O A))))
  (mSeq (O A) (mForS (O A) (mJS (O A) (mLst (O A) (mSortDA (O A) (mCons (O A) (mVar (O A) 0) (mNil (O A)))))) (fName 4)
  (bd_cycles_left_2_2 A))
  (mFrz (O A) 3 (mRet (O A) (mVar (O A) 3))))))
def m_cycles_left_2 (A : Ad) : List D → Dr → R Dr D := runF (O A) 7 (mb_cycles_left_2 A)
def mb_moves_along_2 (A : Ad) : MS (O A) :=
  (mRet (O A) (mLst (O A) (mZipLS (O A) (mCons (O A) (mVar (O A) 0) (mCons (O A) (mBin (O A) dAdd (mSliceS (O A) (mVar (O A) 0) (mPart (O A) (mC (O A) (.int 1))) (mNoPart (O A))) (mCl (O A) dList (mCons (O A) (mVar (O A) 1) (mNil (O A))))) (mNil (O A)))))))
def m_moves_along_2 (A : Ad) : List D → Dr → R Dr D := runF (O A) 2 (mb_moves_along_2 A)
def mb_moves_alongN_2 (A : Ad) : MS (O A) :=
  (mRetNew (O A) (mZipLS (O A) (mCons (O A) (mVar (O A) 0) (mCons (O A) (mBin (O A) dAdd (mSliceS (O A) (mVar (O A) 0) (mPart (O A) (mC (O A) (.int 1))) (mNoPart (O A))) (mCl (O A) dList (mCons (O A) (mVar (O A) 1) (mNil (O A))))) (mNil (O A))))))
def m_moves_alongN_2 (A : Ad) : List D → Dr → R Dr (List D) := runN (O A) 2 (mb_moves_alongN_2 A)
def lc_plan_2_0 (A : Ad) : MA (O A) :=
  (mLcS (O A) (mJE (O A) (mCons (O A) (mVar (O A) 5) (mNil (O A)))) (fTup 2 (fCons (fName 8) (fCons (fName 9) fNil))) (mTest (O A) (mBinS (O A) (dInX A.hw) (mVar (O A) 9) (mVar (O A) 3))) (mVar (O A) 8) [8, 9])
def bd_plan_2_1 (A : Ad) : MS (O A) :=
  (mSeq (O A) (mAsg (O A) (mLst (O A) (lc_plan_2_0 A)) (fName 6))
  (mIfS (O A) (mTest (O A) (mBin (O A) dGt (mClS (O A) dLenS (mCons (O A) (mVar (O A) 6) (mNil (O A)))) (mC (O A) (.int 0))))
  (mSeq (O A) (mAsg (O A) (mBin (O A) dAdd (mSliceS (O A) (mVar (O A) 5) (mPart (O A) (mIdxS (O A) (mVar (O A) 6) (mC (O A) (.int 0)))) (mNoPart (O A))) (mSliceS (O A) (mVar (O A) 5) (mNoPart (O A)) (mPart (O A) (mIdxS (O A) (mVar (O A) 6) (mC (O A) (.int 0)))))) (fName 7))
  (mDrop (O A) (mExtS (O A) (mVar (O A) 2) (mCallN (O A) 2 (m_moves_alongN_2 A) (mCons (O A) (mVar (O A) 7) (mCons (O A) (mBinS (O A) (idxX A.hw) (mVar (O A) 3) (mIdxS (O A) (mVar (O A) 7) (mC (O A) (.int 0)))) (mNil (O A))))))))
  (mSeq (O A) (mDrop (O A) (mMutL (O A) lApp (mVar (O A) 4) (mCons (O A) (mVar (O A) 5) (mNil (O A)))))
  (mDrop (O A) (mExtS (O A) (mVar (O A) 2) (mCatN (O A) (mCl (O A) dList (mCons (O A) (mCl (O A) dTup (mCons (O A) (mC (O A) k_SCRATCH) (mCons (O A) (mIdxS (O A) (mVar (O A) 5) (mC (O A) (.int 0))) (mNil (O A))))) (mNil (O A)))) (mCall (O A) 2 (m_moves_along_2 A) (mCons (O A) (mVar (O A) 5) (mCons (O A) (mC (O A) k_SCRATCH) (mNil (O A)))))))))))
def mb_plan_2 (A : Ad) : MS (O A) :=
  (mSeq (O A) (mAsg (O A) (mCall (O A) 1 (m_sources_of A) (mCons (O A) (mVar (O A) 0) (mNil (O A)))) (fName 1))
  (mSeq (O A) (mAsg (O A) (mCall (O A) 1 (m_moves_outside_cycles_2 A) (mCons (O A) (mVar (O A) 1) (mNil (O A)))) (fTup 2 (fCons (fName 2) (fCons (fName 3) fNil))))
  (mSeq (O A) (mAsg (O A) (mObjL (O A) (mDisp (O A) (mNil (O A)))) (fName 4))
  (mFrz (O A) 2 (mSeq (O A) (mForS (O A) (mJS (O A) (mCall (O A) 2 (m_cycles_left_2 A) (mCons (O A) (mVar (O A) 1) (mCons (O A) (mVar (O A) 2) (mNil (O A)))))) (fName 5)
  (bd_plan_2_1 A))
  (mRet (O A) (mCl (O A) dTup (mCons (O A) (mVar (O A) 2) (mCons (O A) (mVar (O A) 4) (mNil (O A)))))))))))
def m_plan_2 (A : Ad) : List D → Dr → R Dr D := runF (O A) 10 (mb_plan_2 A)
end
end S
namespace S
open PySem PySem.Spec PyProof.Rows L2 RZ Mr
abbrev Prs := List (Int × Int)
def tgs (L : Prs) : List Int := L.map (·.1)
def sL (L : Prs) (t : Int) : Int := ((L.find? fun p => decide (p.1 = t)).map (·.2)).getD 0
theorem sL_mem {L : Prs} (nd : (tgs L).Nodup) {p : Int × Int} (h : p ∈ L) : sL L p.1 = p.2 := by
  induction L with
  | nil => cases h
  | cons q L ih =>
    have nd' : q.1 ∉ tgs L ∧ (tgs L).Nodup := List.nodup_cons.mp nd
    unfold sL
    rw [List.find?_cons]
    rcases List.mem_cons.mp h with rfl | h
    · simp
    · have : ¬ (q.1 = p.1) := fun z => nd'.1 (by rw [z]; exact List.mem_map_of_mem h)
      simp only [decide_eq_false this]
      exact ih nd'.2 h
theorem sL_pair {L : Prs} (nd : (tgs L).Nodup) {t : Int} (h : t ∈ tgs L) : (t, sL L t) ∈ L := by
  obtain ⟨p, hp, rfl⟩ := List.mem_map.mp h
  rw [sL_mem nd hp]
  exact hp
def kvL (L : Prs) : List (Key × D) := L.map fun p => (.inl p.1, .int p.2)
theorem kvL_val {L : Prs} (t : Int) : valP (kvL L) (.inl t) = if t ∈ tgs L then some (.int (sL L t)) else none := by
  induction L with
  | nil => rfl
  | cons q L ih =>
    have e1 : valP (kvL (q :: L)) (.inl t) = if q.1 = t then some (.int q.2) else valP (kvL L) (.inl t) := by
      unfold valP kvL
      rw [List.map_cons, List.find?_cons]
      by_cases h : q.1 = t
      · simp [h]
      · have : ¬ ((.inl q.1 : Key) = .inl t) := fun z => h (by cases z; rfl)
        simp only [decide_eq_false this, if_neg h]
    have e2 : sL (q :: L) t = if q.1 = t then q.2 else sL L t := by
      unfold sL
      rw [List.find?_cons]
      by_cases h : q.1 = t
      · simp [h]
      · simp only [decide_eq_false h, if_neg h]
    rw [e1, e2, ih]
    by_cases h : q.1 = t
    · rw [if_pos h, if_pos h, if_pos (by unfold tgs; rw [List.map_cons]; exact List.mem_cons.mpr (.inl h.symm))]
    · rw [if_neg h, if_neg h]
      have : t ∈ tgs (q :: L) ↔ t ∈ tgs L := by
        unfold tgs
        rw [List.map_cons, List.mem_cons]
        exact ⟨fun z => z.resolve_left fun z => h z.symm, .inr⟩
      by_cases h2 : t ∈ tgs L
      · rw [if_pos h2, if_pos (this.mpr h2)]
      · rw [if_neg h2, if_neg (fun z => h2 (this.mp z))]
/-- the pairs that read x and have not been executed -/
def cntL (L : Prs) (P : List Int) (x : Int) : Nat := (L.filter fun p => decide (p.2 = x ∧ p.1 ∉ P)).length
theorem cnt_zero {L : Prs} {P : List Int} {x : Int} : cntL L P x = 0 ↔ ∀ p ∈ L, p.2 = x → p.1 ∈ P := by
  unfold cntL
  rw [List.length_eq_zero_iff, List.filter_eq_nil_iff]
  constructor
  · intro h p hp hx
    have := h p hp
    simp only [decide_eq_true_eq, not_and, Decidable.not_not] at this
    exact this hx
  · intro h p hp
    simp only [decide_eq_true_eq, not_and, Decidable.not_not]
    exact h p hp
theorem cnt_step {L : Prs} (nd : (tgs L).Nodup) {P : List Int} {t : Int} (ht : t ∈ tgs L) (hn : t ∉ P) (x : Int) : cntL L P x = cntL L (P ++ [t]) x + if sL L t = x then 1 else 0 := by
  induction L with
  | nil => cases ht
  | cons q L ih =>
    have nd' : q.1 ∉ tgs L ∧ (tgs L).Nodup := List.nodup_cons.mp nd
    have e2 : sL (q :: L) t = if q.1 = t then q.2 else sL L t := by
      unfold sL
      rw [List.find?_cons]
      by_cases h : q.1 = t
      · simp [h]
      · simp only [decide_eq_false h, if_neg h]
    have f : ∀ P, cntL (q :: L) P x = (if q.2 = x ∧ q.1 ∉ P then 1 else 0) + cntL L P x := fun P => by
      unfold cntL
      rw [List.filter_cons]
      by_cases h : q.2 = x ∧ q.1 ∉ P
      · rw [if_pos (decide_eq_true h), if_pos h, List.length_cons]; omega
      · rw [if_neg (by rw [decide_eq_false h]; decide), if_neg h]; omega
    rw [f, f, e2]
    by_cases h : q.1 = t
    · have same : cntL L P x = cntL L (P ++ [t]) x := by
        unfold cntL
        congr 1
        refine List.filter_congr fun p hp => ?_
        have : p.1 ≠ t := fun z => nd'.1 (by rw [h, ← z]; exact List.mem_map_of_mem hp)
        congr 1
        simp [this]
      rw [if_pos h, same]
      by_cases hx : q.2 = x
      · rw [if_pos ⟨hx, by rw [h]; exact hn⟩, if_neg (by rw [h]; simp), if_pos hx]; omega
      · rw [if_neg (fun z => hx z.1), if_neg (fun z => hx z.1), if_neg hx]; omega
    · have ht' : t ∈ tgs L := by
        unfold tgs at ht
        rw [List.map_cons, List.mem_cons] at ht
        exact ht.resolve_left fun z => h z.symm
      rw [if_neg h, ih nd'.2 ht']
      have : (q.2 = x ∧ q.1 ∉ P) ↔ (q.2 = x ∧ q.1 ∉ P ++ [t]) := by simp [h]
      by_cases z : q.2 = x ∧ q.1 ∉ P
      · rw [if_pos z, if_pos (this.mp z)]; omega
      · rw [if_neg z, if_neg (fun y => z (this.mpr y))]; omega
structure Out1 (L : Prs) (R : List Int) (i : Nat) (cp : List (Key × Int)) : Prop where
  nd : R.Nodup
  sub : ∀ x ∈ R, x ∈ tgs L
  zero : ∀ x ∈ tgs L, x ∈ R ↔ cntL L (R.take i) x = 0
  ord : ∀ (k : Nat) x, R[k]? = some x → ∀ p ∈ L, p.2 = x → p.1 ∈ R.take k
  cpk : ∀ k t, valP cp k = some t → ∃ y, k = .inl y ∧ t ∈ R.take i ∧ sL L t = y
  cpa : ∀ t ∈ R.take i, (valP cp (.inl (sL L t))).isSome = true
theorem take_next {R : List Int} {i : Nat} {t : Int} (h : R[i]? = some t) : R.take (i + 1) = R.take i ++ [t] := by rw [List.take_add_one, h]; rfl
theorem not_take {R : List Int} (nd : R.Nodup) {i : Nat} {t : Int} (h : R[i]? = some t) : t ∉ R.take i := by
  intro hm
  obtain ⟨j, hj⟩ := List.mem_iff_getElem?.mp hm
  have hlt : j < i := by have := lt_of_some hj; rw [List.length_take] at this; omega
  rw [List.getElem?_take_of_lt hlt] at hj
  have l1 := lt_of_some hj
  have l2 := lt_of_some h
  rw [List.getElem?_eq_getElem l1] at hj
  rw [List.getElem?_eq_getElem l2] at h
  have : R[j] = R[i] := (Option.some.inj hj).trans (Option.some.inj h).symm
  exact List.pairwise_iff_getElem.mp nd j i l1 l2 hlt this
/-- setdefault -/
def setd (cp : List (Key × Int)) (k : Key) (t : Int) : List (Key × Int) := if (valP cp k).isSome = true then cp else putP cp k t
theorem Out1.start {L : Prs} (nd : (tgs L).Nodup) : Out1 L ((tgs L).filter fun x => decide (cntL L [] x = 0)) 0 [] := by
  refine ⟨nd.filter _, fun x hx => (List.mem_filter.mp hx).1, fun x hx => ?_, fun k x hk p hp hpx => ?_, fun k t h => (by cases h), fun t ht => absurd ht List.not_mem_nil⟩
  · rw [List.take_zero, List.mem_filter, decide_eq_true_eq]
    exact ⟨fun h => h.2, fun h => ⟨hx, h⟩⟩
  · have := (List.mem_filter.mp (List.mem_of_getElem? hk)).2
    rw [decide_eq_true_eq] at this
    exact absurd (cnt_zero.mp this p hp hpx) List.not_mem_nil
/-- one more is executed -/
theorem Out1.step {L : Prs} (nd : (tgs L).Nodup) {R : List Int} {i : Nat} {cp : List (Key × Int)} (h : Out1 L R i cp) {t : Int} (ht : R[i]? = some t) :
    Out1 L (if sL L t ∈ tgs L ∧ cntL L (R.take (i + 1)) (sL L t) = 0 then R ++ [sL L t] else R) (i + 1) (setd cp (.inl (sL L t)) t) := by
  have htR := List.mem_of_getElem? ht
  have htL := h.sub t htR
  have nt := not_take h.nd ht
  have st := cnt_step nd htL nt
  rw [← take_next ht] at st
  have hlt := lt_of_some ht
  have cpk' : ∀ k t', valP (setd cp (.inl (sL L t)) t) k = some t' → ∃ y, k = .inl y ∧ t' ∈ R.take (i + 1) ∧ sL L t' = y := fun k t' hk => by
    have old : valP cp k = some t' → ∃ y, k = .inl y ∧ t' ∈ R.take (i + 1) ∧ sL L t' = y := fun hk => by
      obtain ⟨y, e, h1, h2⟩ := h.cpk k t' hk
      exact ⟨y, e, by rw [take_next ht]; exact List.mem_append_left _ h1, h2⟩
    unfold setd at hk
    split at hk
    · exact old hk
    · rw [valP_put] at hk
      by_cases e : k = .inl (sL L t)
      · rw [if_pos e] at hk
        cases hk
        exact ⟨_, e, by rw [take_next ht]; simp, rfl⟩
      · rw [if_neg e] at hk
        exact old hk
  have cpa' : ∀ t' ∈ R.take (i + 1), (valP (setd cp (.inl (sL L t)) t) (.inl (sL L t'))).isSome = true := fun t' h' => by
    rw [take_next ht] at h'
    unfold setd
    split
    · rename_i z
      rcases List.mem_append.mp h' with h' | h'
      · exact h.cpa t' h'
      · rw [List.mem_singleton] at h'
        subst h'
        exact z
    · rw [valP_put]
      by_cases e : (.inl (sL L t') : Key) = .inl (sL L t)
      · rw [if_pos e]; rfl
      · rw [if_neg e]
        rcases List.mem_append.mp h' with h' | h'
        · exact h.cpa t' h'
        · rw [List.mem_singleton] at h'
          subst h'
          exact absurd rfl e
  have pos : cntL L (R.take i) (sL L t) ≠ 0 := by
    have := st (sL L t)
    rw [if_pos rfl] at this
    omega
  split
  · rename_i hz
    obtain ⟨hx, hz⟩ := hz
    have xn : sL L t ∉ R := fun z => pos ((h.zero _ hx).mp z)
    have tk : (R ++ [sL L t]).take (i + 1) = R.take (i + 1) := List.take_append_of_le_length (by omega)
    refine ⟨nodup_snoc h.nd xn, fun x hxm => ?_, fun x hxt => ?_, fun k x hk p hp hpx => ?_, ?_, ?_⟩
    · rcases List.mem_append.mp hxm with hxm | hxm
      · exact h.sub x hxm
      · rw [List.mem_singleton] at hxm
        rw [hxm]
        exact hx
    · rw [tk, List.mem_append, List.mem_singleton]
      by_cases e : x = sL L t
      · subst e
        exact ⟨fun _ => hz, fun _ => .inr rfl⟩
      · have := st x
        rw [if_neg (Ne.symm e)] at this
        rw [h.zero x hxt]
        exact ⟨fun z => by rcases z with z | z <;> first | omega | exact absurd z e, fun z => .inl (by omega)⟩
    · by_cases hkl : k < R.length
      · rw [List.getElem?_append_left hkl] at hk
        rw [List.take_append_of_le_length (by omega)]
        exact h.ord k x hk p hp hpx
      · rw [List.getElem?_append_right (by omega)] at hk
        have k0 : k - R.length = 0 := by have := lt_of_some hk; simpa using this
        rw [k0] at hk
        have ex : x = sL L t := (Option.some.inj hk).symm
        have hp' := cnt_zero.mp hz p hp (by rw [hpx, ex])
        have ek : k = R.length := by omega
        rw [ek, List.take_left']
        · exact List.mem_of_mem_take hp'
        · rfl
    · rw [tk]; exact cpk'
    · rw [tk]; exact cpa'
  · rename_i hz
    refine ⟨h.nd, h.sub, fun x hxt => ?_, h.ord, cpk', cpa'⟩
    by_cases e : x = sL L t
    · subst e
      constructor
      · intro z
        exact absurd ((h.zero _ hxt).mp z) pos
      · intro z
        exact absurd ⟨hxt, z⟩ hz
    · have := st x
      rw [if_neg (Ne.symm e)] at this
      rw [h.zero x hxt]
      omega
/-- at the end -/
theorem Out1.fin {L : Prs} {R : List Int} {cp : List (Key × Int)} (h : Out1 L R R.length cp) {x : Int} (hx : x ∈ tgs L) (hn : x ∉ R) : ∃ p ∈ L, p.2 = x ∧ p.1 ∉ R := by
  have hz := fun z => hn ((h.zero x hx).mpr z)
  rw [List.take_length] at hz
  rw [cnt_zero] at hz
  exact Classical.byContradiction fun q => hz fun p hp hpx => Classical.byContradiction fun r => q ⟨p, hp, hpx, r⟩
end S
namespace S
open PySem PySem.Spec PyProof.Rows L2 RZ Mr
theorem pig : ∀ {A B : List Int}, A.Nodup → (∀ x ∈ A, x ∈ B) → B.length ≤ A.length → B.Nodup ∧ ∀ x ∈ B, x ∈ A
  | [], B, _, _, hl => by
    have : B = [] := List.eq_nil_of_length_eq_zero (by simpa using hl)
    subst this
    exact ⟨List.nodup_nil, fun x hx => hx⟩
  | a :: A, B, nd, sub, hl => by
    rw [List.nodup_cons] at nd
    have ha := sub a List.mem_cons_self
    have pm := List.perm_cons_erase ha
    have le := List.length_erase_of_mem ha
    obtain ⟨h1, h2⟩ := pig (A := A) (B := B.erase a) nd.2 (fun x hx => (List.mem_erase_of_ne (fun z => nd.1 (by rw [← z]; exact hx))).mpr (sub x (List.mem_cons_of_mem _ hx))) (by rw [List.length_cons] at hl; omega)
    refine ⟨pm.nodup_iff.mpr (List.nodup_cons.mpr ⟨fun z => nd.1 (h2 a z), h1⟩), fun x hx => ?_⟩
    rcases List.mem_cons.mp (pm.mem_iff.mp hx) with rfl | hx
    · exact List.mem_cons_self
    · exact List.mem_cons_of_mem _ (h2 x hx)
theorem nodup_len : ∀ {A B : List Int}, A.Nodup → (∀ x ∈ A, x ∈ B) → A.length ≤ B.length
  | [], _, _, _ => Nat.zero_le _
  | a :: A, B, nd, sub => by
    rw [List.nodup_cons] at nd
    have ha := sub a List.mem_cons_self
    have le := List.length_erase_of_mem ha
    have pos := List.length_pos_of_mem ha
    have := nodup_len (A := A) (B := B.erase a) nd.2 (fun x hx => (List.mem_erase_of_ne (fun z => nd.1 (by rw [← z]; exact hx))).mpr (sub x (List.mem_cons_of_mem _ hx)))
    rw [List.length_cons]
    omega
theorem map_inj {f : Int → Int} : ∀ {l : List Int}, (l.map f).Nodup → ∀ a ∈ l, ∀ b ∈ l, f a = f b → a = b
  | [], _, a, ha, _, _, _ => absurd ha List.not_mem_nil
  | x :: l, nd, a, ha, b, hb, e => by
    rw [List.map_cons, List.nodup_cons] at nd
    rcases List.mem_cons.mp ha with ea | ha'
    · rcases List.mem_cons.mp hb with eb | hb'
      · rw [ea, eb]
      · exact absurd (by rw [← ea, e]; exact List.mem_map_of_mem hb') nd.1
    · rcases List.mem_cons.mp hb with eb | hb'
      · exact absurd (by rw [← eb, ← e]; exact List.mem_map_of_mem ha') nd.1
      · exact map_inj nd.2 a ha' b hb' e
def lft (L : Prs) (R : List Int) : List Int := (tgs L).filter fun x => decide (x ∉ R)
theorem mem_lft {L : Prs} {R : List Int} {x : Int} : x ∈ lft L R ↔ x ∈ tgs L ∧ x ∉ R := by
  unfold lft
  rw [List.mem_filter, decide_eq_true_eq]
/-- what is left is a permutation -/
structure Pm (L : Prs) (F : List Int) : Prop where
  nd : F.Nodup
  cl : ∀ x ∈ F, sL L x ∈ F
  inj : ∀ a ∈ F, ∀ b ∈ F, sL L a = sL L b → a = b
theorem left_pm {L : Prs} (nd : (tgs L).Nodup) {R : List Int} {cp : List (Key × Int)} (h : Out1 L R R.length cp) : Pm L (lft L R) := by
  have n1 : (lft L R).Nodup := nd.filter _
  obtain ⟨h1, h2⟩ := pig (A := lft L R) (B := (lft L R).map (sL L)) n1 (fun x hx => by
    obtain ⟨hx1, hx2⟩ := mem_lft.mp hx
    obtain ⟨p, hp, e, hn⟩ := h.fin hx1 hx2
    rw [← e, ← sL_mem nd hp]
    exact List.mem_map_of_mem (mem_lft.mpr ⟨List.mem_map_of_mem hp, hn⟩)) (by rw [List.length_map]; exact Nat.le_refl _)
  exact ⟨n1, fun x hx => h2 _ (List.mem_map_of_mem hx), map_inj h1⟩
/-- cells, each the source of the one ahead -/
structure Ch (L : Prs) (F : List Int) (x0 : Int) (cy : List Int) : Prop where
  hd : cy[0]? = some x0
  nx : ∀ (i : Nat) a b, cy[i]? = some a → cy[i + 1]? = some b → sL L a = b
  nd : cy.Nodup
  sub : ∀ x ∈ cy, x ∈ F
theorem Ch.one {L : Prs} {F : List Int} {x0 : Int} (h : x0 ∈ F) : Ch L F x0 [x0] := ⟨rfl, fun i a b _ h => by simp at h, by simp, fun x hx => by rw [List.mem_singleton] at hx; rw [hx]; exact h⟩
theorem nd_get {l : List Int} (nd : l.Nodup) {i j : Nat} {a : Int} (h1 : l[i]? = some a) (h2 : l[j]? = some a) : i = j := by
  have l1 := lt_of_some h1
  have l2 := lt_of_some h2
  rw [List.getElem?_eq_getElem l1] at h1
  rw [List.getElem?_eq_getElem l2] at h2
  have e : l[i] = l[j] := (Option.some.inj h1).trans (Option.some.inj h2).symm
  rcases Nat.lt_trichotomy i j with z | z | z
  · exact absurd e (List.pairwise_iff_getElem.mp nd i j l1 l2 z)
  · exact z
  · exact absurd e.symm (List.pairwise_iff_getElem.mp nd j i l2 l1 z)
theorem get_last {ys : List Int} {a : Int} : (ys ++ [a])[ys.length]? = some a := by simp
theorem Ch.snoc {L : Prs} {F : List Int} (pm : Pm L F) {x0 a : Int} {ys : List Int} (h : Ch L F x0 (ys ++ [a])) (hne : sL L a ≠ x0) : Ch L F x0 (ys ++ [a] ++ [sL L a]) := by
  have aF : a ∈ F := h.sub a (by simp)
  have nw : sL L a ∉ ys ++ [a] := by
    intro hm
    obtain ⟨i, hi⟩ := List.mem_iff_getElem?.mp hm
    cases i with
    | zero => rw [h.hd] at hi; exact hne (Option.some.inj hi).symm
    | succ j =>
      have hl := lt_of_some hi
      have hj : j < (ys ++ [a]).length := by omega
      have hj' := List.getElem?_eq_getElem hj
      have e := h.nx j _ _ hj' hi
      have := pm.inj _ (h.sub _ (List.getElem_mem hj)) a aF e
      rw [this] at hj'
      have := nd_get h.nd hj' get_last
      rw [List.length_append, List.length_cons, List.length_nil] at hl
      omega
  refine ⟨?_, fun i x y hx hy => ?_, nodup_snoc h.nd nw, fun x hx => ?_⟩
  · rw [List.getElem?_append_left (by simp)]
    exact h.hd
  · by_cases hl : i + 1 < (ys ++ [a]).length
    · rw [List.getElem?_append_left (by omega)] at hx
      rw [List.getElem?_append_left hl] at hy
      exact h.nx i x y hx hy
    · have l2 := lt_of_some hy
      rw [List.length_append, List.length_cons, List.length_nil] at l2
      have ei : i + 1 = (ys ++ [a]).length := by omega
      have ei' : i = ys.length := by rw [List.length_append, List.length_cons, List.length_nil] at ei; omega
      rw [List.getElem?_append_left (by omega), ei', get_last] at hx
      rw [ei, get_last] at hy
      rw [← Option.some.inj hx]
      exact Option.some.inj hy
  · rcases List.mem_append.mp hx with hx | hx
    · exact h.sub x hx
    · rw [List.mem_singleton] at hx
      rw [hx]
      exact pm.cl a aF
/-- a whole cycle -/
structure Cy (L : Prs) (F : List Int) (cy : List Int) : Prop where
  ch : ∃ x0 ys a, cy = ys ++ [a] ∧ Ch L F x0 cy ∧ sL L a = x0
theorem Cy.nd {L : Prs} {F cy : List Int} (h : Cy L F cy) : cy.Nodup := by
  obtain ⟨x0, ys, a, rfl, c, e⟩ := h.ch
  exact c.nd
theorem Cy.sub {L : Prs} {F cy : List Int} (h : Cy L F cy) : ∀ x ∈ cy, x ∈ F := by
  obtain ⟨x0, ys, a, rfl, c, e⟩ := h.ch
  exact c.sub
theorem Cy.fwd {L : Prs} {F cy : List Int} (h : Cy L F cy) {x : Int} (hx : x ∈ cy) : sL L x ∈ cy := by
  obtain ⟨x0, ys, a, rfl, c, e⟩ := h.ch
  obtain ⟨i, hi⟩ := List.mem_iff_getElem?.mp hx
  have hl := lt_of_some hi
  by_cases h2 : i + 1 < (ys ++ [a]).length
  · rw [c.nx i x _ hi (List.getElem?_eq_getElem h2)]
    exact List.getElem_mem h2
  · have : i = ys.length := by rw [List.length_append, List.length_cons, List.length_nil] at hl h2; omega
    rw [this, get_last] at hi
    rw [← Option.some.inj hi, e]
    exact List.mem_of_getElem? c.hd
theorem Cy.bwd {L : Prs} {F cy : List Int} (pm : Pm L F) (h : Cy L F cy) {y : Int} (hy : y ∈ F) (hs : sL L y ∈ cy) : y ∈ cy := by
  obtain ⟨x0, ys, a, rfl, c, e⟩ := h.ch
  obtain ⟨i, hi⟩ := List.mem_iff_getElem?.mp hs
  cases i with
  | zero =>
    rw [c.hd] at hi
    have := pm.inj y hy a (c.sub a (by simp)) (by rw [e, Option.some.inj hi])
    rw [this]
    simp
  | succ j =>
    have hl := lt_of_some hi
    have hj : j < (ys ++ [a]).length := by omega
    have ej := c.nx j _ _ (List.getElem?_eq_getElem hj) hi
    have := pm.inj y hy _ (c.sub _ (List.getElem_mem hj)) ej.symm
    rw [this]
    exact List.getElem_mem hj
theorem Ch.off {L : Prs} {F cy cy' : List Int} {x0 : Int} (pm : Pm L F) (h : Ch L F x0 cy) (h' : Cy L F cy') (hn : x0 ∉ cy') : ∀ x ∈ cy, x ∉ cy' := by
  have key : ∀ (i : Nat) x, cy[i]? = some x → x ∉ cy' := by
    intro i
    induction i with
    | zero => intro x hx; rw [h.hd] at hx; rw [← Option.some.inj hx]; exact hn
    | succ i ih =>
      intro x hx hm
      have hl := lt_of_some hx
      have hi : i < cy.length := by omega
      have e := h.nx i _ x (List.getElem?_eq_getElem hi) hx
      exact ih _ (List.getElem?_eq_getElem hi) (h'.bwd pm (h.sub _ (List.getElem_mem hi)) (by rw [e]; exact hm))
  intro x hx
  obtain ⟨i, hi⟩ := List.mem_iff_getElem?.mp hx
  exact key i x hi
/-- the cycles found among the first cells -/
structure Cls (L : Prs) (F : List Int) (P : List Int) (C : List (List Int)) : Prop where
  all : ∀ cy ∈ C, Cy L F cy
  cov : ∀ x ∈ P, x ∈ F → x ∈ C.flatten
  dis : C.flatten.Nodup
theorem Cls.sub {L : Prs} {F P : List Int} {C : List (List Int)} (h : Cls L F P C) : ∀ x ∈ C.flatten, x ∈ F := fun x hx => by
  obtain ⟨cy, hc, hx⟩ := List.mem_flatten.mp hx
  exact (h.all cy hc).sub x hx
theorem Cls.len {L : Prs} {F P : List Int} {C : List (List Int)} (h : Cls L F P C) : C.flatten.length ≤ F.length := nodup_len h.dis h.sub
theorem cls_count {L : Prs} {F : List Int} : ∀ {C : List (List Int)}, (∀ cy ∈ C, Cy L F cy) → C.length ≤ C.flatten.length
  | [], _ => Nat.le_refl _
  | cy :: C, h => by
    have := cls_count (C := C) fun c hc => h c (List.mem_cons_of_mem _ hc)
    obtain ⟨x0, ys, a, e, _⟩ := (h cy List.mem_cons_self).ch
    rw [List.flatten_cons, List.length_append, List.length_cons, e, List.length_append, List.length_cons]
    omega
theorem Cls.skip {L : Prs} {F P : List Int} {C : List (List Int)} (h : Cls L F P C) {x : Int} (hx : x ∉ F ∨ x ∈ C.flatten) : Cls L F (P ++ [x]) C := ⟨h.all, fun y hy hF => by
  rcases List.mem_append.mp hy with hy | hy
  · exact h.cov y hy hF
  · rw [List.mem_singleton] at hy
    subst hy
    exact hx.resolve_left fun z => z hF, h.dis⟩
theorem Cls.add {L : Prs} {F P : List Int} {C : List (List Int)} (pm : Pm L F) (h : Cls L F P C) {x : Int} {cy : List Int} (hc : Cy L F cy) (hd : cy[0]? = some x) (hn : x ∉ C.flatten) : Cls L F (P ++ [x]) (C ++ [cy]) := by
  obtain ⟨x0, ys, a, e, ch, e2⟩ := hc.ch
  have ex : x0 = x := by rw [ch.hd] at hd; exact Option.some.inj hd
  subst ex
  refine ⟨fun c hcm => ?_, fun y hy hF => ?_, ?_⟩
  · rcases List.mem_append.mp hcm with hcm | hcm
    · exact h.all c hcm
    · rw [List.mem_singleton] at hcm
      rw [hcm]
      exact hc
  · rw [List.flatten_append, List.mem_append]
    rcases List.mem_append.mp hy with hy | hy
    · exact .inl (h.cov y hy hF)
    · rw [List.mem_singleton] at hy
      subst hy
      exact .inr (by simpa using List.mem_of_getElem? hd)
  · rw [List.flatten_append, List.nodup_append]
    refine ⟨h.dis, by simpa using hc.nd, fun y hy z hz e => ?_⟩
    subst e
    obtain ⟨c, hcm, hyc⟩ := List.mem_flatten.mp hy
    have hz : y ∈ cy := by simpa using hz
    exact ch.off pm (h.all c hcm) (fun w => hn (List.mem_flatten.mpr ⟨c, hcm, w⟩)) y hz hyc
end S
namespace S
open PySem PySem.Spec PyProof.Rows L2 RZ Mr
section
variable {β γ : Type}
def mapv (t : β → γ) (l : List (Key × β)) : List (Key × γ) := l.map fun e => (e.1, t e.2)
end
abbrev Tb := Int × List Int
structure AM where
  tab : List (Key × Tb)
  nxt : Int
  cc : Int
  mc : Int
  hol : List (Key × Int)
  crt : Int
  cont : Int → List Int
  sav : List (List (Key × Tb) × Int)
def tabV (e : Tb) : D := .tup [.int e.1, .tup (iD e.2)]
inductive Ro where
  | mem | pgs | tab | sav | con | hol | pg (p : Int) | sn (k : Nat)
  deriving DecidableEq
/-- where a memory stands in the store -/
structure Ly where
  ix : Ro → Option Nat
  loc : List (Key × Nat)
def Ly.g (L : Ly) (r : Ro) : Nat := (L.ix r).getD 0
def obR (A : Ad) (M : AM) (L : Ly) : Ro → Ob
  | .mem => .ins (A.k .Memory) [("stored", .obj (L.g .pgs)), ("tables", .obj (L.g .tab)), ("following", .int M.nxt), ("saved", .obj (L.g .sav)), ("copy_count", .int M.cc), ("move_count", .int M.mc)]
  | .pgs => .ins (A.k .Pages) [("contents", .obj (L.g .con)), ("holders", .obj (L.g .hol)), ("created", .int M.crt)]
  | .tab => .dct (mapv tabV M.tab)
  | .con => .dct (mapv D.obj L.loc)
  | .hol => .dct (mapv D.int M.hol)
  | .sav => .lst ((List.range M.sav.length).map fun k => .tup [.obj (L.g (.sn k)), .int ((M.sav.map (·.2)).getD k 0)])
  | .pg p => .lst (iD (M.cont p))
  | .sn k => .dct (mapv tabV ((M.sav.map (·.1)).getD k []))
structure Lay (A : Ad) (l : List Ob) (M : AM) (L : Ly) : Prop where
  at_ : ∀ r j, L.ix r = some j → l[j]? = some (obR A M L r)
  inj : ∀ r r' j, L.ix r = some j → L.ix r' = some j → r = r'
  mem : (L.ix .mem).isSome = true
  pgs : (L.ix .pgs).isSome = true
  tab : (L.ix .tab).isSome = true
  sav : (L.ix .sav).isSome = true
  con : (L.ix .con).isSome = true
  hol : (L.ix .hol).isSome = true
  pgx : ∀ p, L.ix (.pg p) = valP L.loc (.inl p)
  snx : ∀ k, (L.ix (.sn k)).isSome = true ↔ k < M.sav.length
  ky : L.loc.map (·.1) = M.hol.map (·.1)
/-- the rest of the store stays; what the memory takes is its own or new -/
structure Fr (l : List Ob) (L : Ly) (l' : List Ob) (L' : Ly) : Prop where
  len : l.length ≤ l'.length
  off : ∀ i, i < l.length → (∀ r, L.ix r ≠ some i) → l'[i]? = l[i]?
  own : ∀ r i, L'.ix r = some i → (∃ r', L.ix r' = some i) ∨ l.length ≤ i
  mem : L'.ix .mem = L.ix .mem
  pgs : L'.ix .pgs = L.ix .pgs
theorem Fr.refl (l : List Ob) (L : Ly) : Fr l L l L := ⟨Nat.le_refl _, fun _ _ _ => rfl, fun r i h => .inl ⟨r, h⟩, rfl, rfl⟩
theorem Fr.trans {l l1 l2 : List Ob} {L L1 L2 : Ly} (a : Fr l L l1 L1) (b : Fr l1 L1 l2 L2) : Fr l L l2 L2 := by
  refine ⟨Nat.le_trans a.len b.len, fun i hi hn => ?_, fun r i h => ?_, b.mem.trans a.mem, b.pgs.trans a.pgs⟩
  · rw [b.off i (Nat.lt_of_lt_of_le hi a.len) fun r e => ?_, a.off i hi hn]
    rcases a.own r i e with ⟨r', e'⟩ | e'
    · exact hn r' e'
    · omega
  · rcases b.own r i h with ⟨r', e'⟩ | e'
    · exact a.own r' i e'
    · exact .inr (Nat.le_trans a.len e')
section
variable {A : Ad} {l : List Ob} {M : AM} {L : Ly}
theorem Lay.g (h : Lay A l M L) {r : Ro} (hr : (L.ix r).isSome = true) : L.ix r = some (L.g r) := by
  unfold Ly.g
  obtain ⟨j, e⟩ := Option.isSome_iff_exists.mp hr
  rw [e]
  rfl
theorem Lay.at' (h : Lay A l M L) {r : Ro} (hr : (L.ix r).isSome = true) : l[L.g r]? = some (obR A M L r) := h.at_ r _ (h.g hr)
theorem Lay.ne (h : Lay A l M L) {r r' : Ro} (hr : (L.ix r).isSome = true) (hr' : (L.ix r').isSome = true) (n : r ≠ r') : L.g r ≠ L.g r' := fun e => by
  have h1 := h.g hr
  have h2 := h.g hr'
  rw [← e] at h2
  exact n (h.inj _ _ _ h1 h2)
theorem Lay.lt (h : Lay A l M L) {r : Ro} {j : Nat} (hr : L.ix r = some j) : j < l.length := by
  have := h.at_ r j hr
  rcases Nat.lt_or_ge j l.length with q | q
  · exact q
  · rw [List.getElem?_eq_none q] at this; cases this
/-- the same memory in another store that agrees where it stands -/
theorem Lay.of (h : Lay A l M L) {l' : List Ob} (e : ∀ r j, L.ix r = some j → l'[j]? = l[j]?) : Lay A l' M L := ⟨fun r j hr => by rw [e r j hr]; exact h.at_ r j hr, h.inj, h.mem, h.pgs, h.tab, h.sav, h.con, h.hol, h.pgx, h.snx, h.ky⟩
theorem Lay.push (h : Lay A l M L) (o : Ob) : Lay A (l ++ [o]) M L := h.of fun r j hr => by rw [List.getElem?_append_left (h.lt hr)]
theorem Fr.push (l : List Ob) (L : Ly) (o : Ob) : Fr l L (l ++ [o]) L := ⟨by simp, fun i hi _ => by rw [List.getElem?_append_left hi], fun r i h => .inl ⟨r, h⟩, rfl, rfl⟩
end
def sto (s : Dr) (l : List Ob) : Dr := { s with st := l }
theorem sto_st (s : Dr) (l : List Ob) : (sto s l).st = l := rfl
theorem sto_sto (s : Dr) (l l' : List Ob) : sto (sto s l) l' = sto s l' := rfl
theorem sto_mk (s : Dr) (l l' : List Ob) : ({ xs := (sto s l).xs, n := (sto s l).n, zs := (sto s l).zs, k := (sto s l).k, st := l' } : Dr) = sto s l' := rfl
theorem stPut_sto (A : Ad) (s : Dr) (l : List Ob) (n : Nat) (o : Ob) : stPut (O A) (sto s l) n o = sto s (l.set n o) := rfl
theorem _root_.Mr.OkQ.sto {q : List Ob} {b : Int} {s : Dr} (k : OkQ q b s) (l : List Ob) : OkQ l b (S.sto s l) := k.put l
section
variable {A : Ad} {l : List Ob} {M : AM} {L : Ly} {s : Dr} {ρ : Ev}
end
end S
namespace S
open PySem PySem.Spec PyProof.Rows L2 RZ Mr
def pr2 (p : Int × Int) : D := .tup [.int p.1, .int p.2]
def prD (L : Prs) : List D := L.map pr2
def fnD (xs : List Int) (g : Int → D) : List (Key × D) := xs.map fun x => (.inl x, g x)
theorem fnD_keys (xs : List Int) (g : Int → D) : (fnD xs g).map (·.1) = xs.map Sum.inl := by
  unfold fnD
  rw [List.map_map]
  rfl
theorem fnD_val (g : Int → D) (x : Int) : ∀ xs : List Int, valP (fnD xs g) (.inl x) = if x ∈ xs then some (g x) else none
  | [] => rfl
  | y :: xs => by
    have ih := fnD_val g x xs
    unfold valP fnD at ih ⊢
    rw [List.map_cons, List.find?_cons]
    by_cases e : y = x
    · subst e
      simp
    · have : ¬ ((.inl y : Key) = .inl x) := fun z => e (by cases z; rfl)
      simp only [decide_eq_false this]
      rw [ih]
      by_cases h : x ∈ xs
      · rw [if_pos h, if_pos (List.mem_cons_of_mem _ h)]
      · rw [if_neg h, if_neg (fun z => h ((List.mem_cons.mp z).resolve_left fun w => e w.symm))]
theorem fnD_put {xs : List Int} {g : Int → D} {x : Int} (hx : x ∈ xs) (v : D) : putP (fnD xs g) (.inl x) v = fnD xs fun y => if y = x then v else g y := by
  unfold putP
  rw [any_val, fnD_val, if_pos hx, if_pos (show (some (g x)).isSome = true from rfl)]
  unfold fnD
  rw [List.map_map]
  refine List.map_congr_left fun y _ => ?_
  simp only [Function.comp]
  by_cases e : y = x
  · rw [if_pos (by rw [e]), if_pos e]
  · rw [if_neg (fun z => e (by cases z; rfl)), if_neg e]
theorem fnD_congr {xs : List Int} {g h : Int → D} (e : ∀ x ∈ xs, g x = h x) : fnD xs g = fnD xs h := List.map_congr_left fun x hx => by rw [e x hx]
/-- a dict comprehension with int keys -/
theorem mDcS_ints {A : Ad} {α : Type} {mi : MJ (O A)} {f : D → Ev → Option Ev} {mk mv : ME (O A)} {vs : List Nat} {ρ : Ev} {s s1 : Dr} {c : List Ob → Prop} (t : α → D) (key : α → Int) (val : α → D) (xs : List α) (hi : mi ρ s = .ok (xs.map t, c) s1) (hc : c s1.st)
    (h : ∀ x ∈ xs, ∃ ρ1, f (t x) (wipeE ρ vs) = some ρ1 ∧ mk ρ1 s1 = .ok (.int (key x)) s1 ∧ mv ρ1 s1 = .ok (val x) s1) (hl : xs.length ≤ 90000) : mDcS (O A) mi f (mYes (O A)) mk mv vs ρ s = .ok (mergeP [] (xs.map fun x => ((.inl (key x) : Key), val x))) s1 := by
  have key' : ∀ (xs : List α) (acc : List (Key × D)), (∀ x ∈ xs, ∃ ρ1, f (t x) (wipeE ρ vs) = some ρ1 ∧ mk ρ1 s1 = .ok (.int (key x)) s1 ∧ mv ρ1 s1 = .ok (val x) s1) → acc.length + xs.length < 100000 → dcLS Dr (O A).st c f (mYes (O A)) mk mv (wipeE ρ vs) (xs.map t) acc s1 = .ok (mergeP acc (xs.map fun x => ((.inl (key x) : Key), val x))) s1 := by
    intro xs
    have hcc : c ((O A).st s1) := hc
    induction xs with
    | nil => intro acc _ _; simp only [List.map_nil, dcLS, if_pos hcc]; rfl
    | cons x xs ih =>
      intro acc h hl
      obtain ⟨ρ1, e1, e2, e3⟩ := h x List.mem_cons_self
      have pl := putP_len acc (.inl (key x)) (val x)
      rw [List.length_cons] at hl
      have := ih (putP acc (.inl (key x)) (val x)) (fun y hy => h y (List.mem_cons_of_mem _ hy)) (by omega)
      have y1 : mYes (O A) ρ1 s1 = .ok true s1 := rfl
      simp only [List.map_cons, dcLS, if_pos hcc, e1, y1, e2, e3, toKey]
      rw [if_pos (by omega)]
      exact this
  unfold mDcS
  rw [hi]
  simp only [bind_ok]
  exact key' xs [] h (by simp only [List.length_nil]; omega)
section
variable {A : Ad} {q : List Ob} {s : Dr} {ρ : Ev} {L : Prs}
def rdL (L : Prs) (x : Int) : Nat := (L.filter fun p => decide (p.2 = x)).length
theorem rd_cnt (L : Prs) (x : Int) : rdL L x = cntL L [] x := by
  unfold rdL cntL
  congr 1
  refine List.filter_congr fun p _ => ?_
  simp
end
end S
namespace S
open PySem PySem.Spec PyProof.Rows L2 RZ Mr
section
variable {q : List Ob} {a b c : Ob}
theorem g3_0 : (q ++ [a, b, c])[q.length]? = some a := by simp
theorem g3_1 : (q ++ [a, b, c])[q.length + 1]? = some b := by rw [List.getElem?_append_right (by omega)]; simp
theorem g3_2 : (q ++ [a, b, c])[q.length + 2]? = some c := by rw [List.getElem?_append_right (by omega)]; simp
theorem s3_0 (x : Ob) : (q ++ [a, b, c]).set q.length x = q ++ [x, b, c] := by rw [List.set_append_right _ _ (Nat.le_refl _), Nat.sub_self]; rfl
theorem s3_1 (x : Ob) : (q ++ [a, b, c]).set (q.length + 1) x = q ++ [a, x, c] := by rw [List.set_append_right _ _ (by omega), show q.length + 1 - q.length = 1 by omega]; rfl
theorem s3_2 (x : Ob) : (q ++ [a, b, c]).set (q.length + 2) x = q ++ [a, b, x] := by rw [List.set_append_right _ _ (by omega), show q.length + 2 - q.length = 2 by omega]; rfl
end
def mvR (L : Prs) (R : List Int) : Prs := R.map fun t => (t, sL L t)
theorem Out1.len {L : Prs} {R : List Int} {i : Nat} {cp : List (Key × Int)} (h : Out1 L R i cp) : R.length ≤ L.length := by
  have := nodup_len h.nd h.sub
  unfold tgs at this
  rw [List.length_map] at this
  exact this
section
variable {A : Ad} {q : List Ob} {s : Dr} {ρ : Ev} {L : Prs}
end
end S
namespace S
open PySem PySem.Spec PyProof.Rows L2 RZ Mr
theorem at_last {α : Type} {L : List α} {x : α} : atI (L ++ [x]) (-1) = some x := by
  unfold atI ixN
  rw [if_neg (by decide)]
  simp only [List.length_append, List.length_cons, List.length_nil]
  rw [if_pos (by omega)]
  have : ((-1 : Int) + ((L.length + (0 + 1) : Nat) : Int)).toNat = L.length := by omega
  rw [this]
  simp
theorem iD_snoc (xs : List Int) (x : Int) : iD (xs ++ [x]) = iD xs ++ [.int x] := by unfold iD; rw [List.map_append]; rfl
section
variable {A : Ad} {q : List Ob} {s : Dr} {ρ : Ev} {L : Prs} {F : List Int}
theorem valP_merge {β : Type} : ∀ (ms acc : List (Key × β)) (k : Key), (valP (mergeP acc ms) k).isSome = true ↔ (valP acc k).isSome = true ∨ k ∈ ms.map (·.1)
  | [], acc, k => by simp [mergeP]
  | m :: ms, acc, k => by
    show (valP (mergeP (putP acc m.1 m.2) ms) k).isSome = true ↔ _
    rw [valP_merge ms, valP_put, List.map_cons, List.mem_cons]
    by_cases e : k = m.1
    · rw [if_pos e]
      exact ⟨fun _ => .inr (.inl e), fun _ => .inl rfl⟩
    · rw [if_neg e]
      exact ⟨fun h => h.elim .inl fun h => .inr (.inr h), fun h => h.elim .inl fun h => .inr (h.resolve_left e)⟩
end
end S
namespace S
open PySem PySem.Spec PyProof.Rows L2 RZ Mr
/-- the moves of a cycle -/
def alongL (cy : List Int) (sv : Int) : Prs := cy.zip (cy.drop 1 ++ [sv])
theorem along_len {cy : List Int} {sv : Int} (h : cy ≠ []) : (alongL cy sv).length = cy.length := by
  unfold alongL
  cases cy with
  | nil => exact absurd rfl h
  | cons c cy => simp
theorem zipD_pr : ∀ (a b : List Int), zipD (iD a) (iD b) = prD (a.zip b)
  | [], b => by cases b <;> rfl
  | x :: a, [] => rfl
  | x :: a, y :: b => by
    have := zipD_pr a b
    unfold iD prD at this ⊢
    simp only [List.map_cons, List.zip_cons_cons]
    rw [← this]
    rfl
theorem cutI_from (xs : List D) (n : Nat) : Mr.cutD xs (some (n : Int)) none = xs.drop n := by
  unfold Mr.cutD HT.sIx
  simp only
  rw [if_neg (by omega)]
  have : (min (n : Int) (xs.length : Int)).toNat = min n xs.length := by omega
  by_cases h : n ≤ xs.length
  · simp [List.take_of_length_le, h]
  · have h2 : xs.drop n = [] := List.drop_eq_nil_of_le (by omega)
    rw [h2]
    have h3 : xs.drop xs.length = [] := List.drop_length
    simp [h]
    omega
section
variable {A : Ad} {q : List Ob} {s : Dr} {ρ : Ev} {L : Prs} {F : List Int}
theorem add_lst {xs ys : List D} (h : xs.length + ys.length ≤ 100000) : dAdd (.lst xs) (.lst ys) = some (.lst (xs ++ ys)) := by
  show (if xs.length + ys.length ≤ 100000 then some (D.lst (xs ++ ys)) else none) = _
  rw [if_pos h]
/-- what a cycle adds to the moves -/
def clB (cp : List (Key × Int)) (cy : List Int) : Bool := cy.all fun c => !(valP cp (.inl c)).isSome
structure Add (cp : List (Key × Int)) (cy : List Int) (ms : Prs) : Prop where
  cl : clB cp cy = true → ∃ c0, cy[0]? = some c0 ∧ ms = (-1, c0) :: alongL cy (-1)
  op : clB cp cy = false → ∃ (i : Nat) (c sv : Int), cy[i]? = some c ∧ valP cp (.inl c) = some sv ∧ ms = alongL (cy.drop i ++ cy.take i) sv
theorem Add.len {cp : List (Key × Int)} {cy : List Int} {ms : Prs} (h : Add cp cy ms) (hne : cy ≠ []) : ms.length = cy.length + if clB cp cy = true then 1 else 0 := by
  by_cases e : clB cp cy = true
  · obtain ⟨c0, _, rfl⟩ := h.cl e
    rw [if_pos e, List.length_cons, along_len hne]
  · have e' : clB cp cy = false := by simpa using e
    obtain ⟨i, c, sv, hc, _, rfl⟩ := h.op e'
    have hl := lt_of_some hc
    rw [if_neg e, along_len, List.length_append, List.length_drop, List.length_take]
    · omega
    · intro z
      have := congrArg List.length z
      rw [List.length_append, List.length_drop, List.length_take, List.length_nil] at this
      omega
/-- the moves of all cycles -/
inductive Adds (cp : List (Key × Int)) : List (List Int) → Prs → Prop
  | nil : Adds cp [] []
  | snoc {C : List (List Int)} {ms : Prs} {cy : List Int} {m : Prs} : Adds cp C ms → Add cp cy m → Adds cp (C ++ [cy]) (ms ++ m)
theorem Adds.len {cp : List (Key × Int)} {C : List (List Int)} {ms : Prs} (h : Adds cp C ms) (hne : ∀ cy ∈ C, cy ≠ []) : ms.length = C.flatten.length + (C.filter (clB cp)).length := by
  induction h with
  | nil => rfl
  | @snoc C ms cy m h1 h2 ih =>
    have i1 := ih fun c hc => hne c (List.mem_append_left _ hc)
    have i2 := h2.len (hne cy (by simp))
    rw [List.length_append, i1, i2, List.flatten_append, List.length_append, List.filter_append, List.length_append]
    have : [cy].flatten = cy := by simp
    rw [this]
    by_cases e : clB cp cy = true
    · rw [if_pos e, List.filter_cons, if_pos e]; simp; omega
    · rw [if_neg e, List.filter_cons, if_neg e]; simp; omega
def posL (cp : List (Key × Int)) (cy : List Int) : List (Int × Nat) := cy.zipIdx.filter fun p => (valP cp (.inl p.1)).isSome
theorem pos_nil {cp : List (Key × Int)} {cy : List Int} : posL cp cy = [] ↔ clB cp cy = true := by
  unfold posL clB
  rw [List.filter_eq_nil_iff, List.all_eq_true]
  constructor
  · intro h c hc
    obtain ⟨i, hi⟩ := List.mem_iff_getElem?.mp hc
    have := h (c, i) (List.mk_mem_zipIdx_iff_getElem?.mpr hi)
    simpa using this
  · intro h p hp
    have := List.mk_mem_zipIdx_iff_getElem?.mp (show (p.1, p.2) ∈ cy.zipIdx from hp)
    have := h p.1 (List.mem_of_getElem? this)
    simpa using this
end
end S
namespace S
open PySem PySem.Spec PyProof.Rows L2 RZ Mr
def cst (n : Int) : Int := if 0 ≤ n then -2 - 2 * n else 2 * n - 1
def ucst (c : Int) : Int := if c % 2 = 0 then (-2 - c) / 2 else (c + 1) / 2
theorem ucst_cst (n : Int) : ucst (cst n) = n := by
  unfold ucst cst
  by_cases h : 0 ≤ n
  · rw [if_pos h, if_pos (by omega)]; omega
  · rw [if_neg h, if_neg (by omega)]; omega
theorem cst_low (n : Int) : cst n < -1 := by
  unfold cst
  split <;> omega
theorem ucst_inj {a b : Int} (ha : a < -1) (hb : b < -1) (h : ucst a = ucst b) : a = b := by
  unfold ucst at h
  by_cases x : a % 2 = 0 <;> by_cases y : b % 2 = 0 <;> simp only [x, y, if_true, if_false] at h <;> omega
def cD (n : Int) : D := .tup [.str "number", .int n]
def srD (c : Int) : D := if -1 ≤ c then .int c else cD (ucst c)
def srK (c : Int) : MX.MK := if -1 ≤ c then .inl c else .inr [.inr "number", .inl (ucst c)]
theorem srD_int {c : Int} (h : -1 ≤ c) : srD c = .int c := if_pos h
theorem srD_cst (n : Int) : srD (cst n) = cD n := by
  unfold srD
  rw [if_neg (by have := cst_low n; omega), ucst_cst]
theorem srD_low {c : Int} (h : ¬ -1 ≤ c) : srD c = cD (ucst c) := if_neg h
theorem keyM_sr (c : Int) : keyM (srD c) = some (srK c) := by
  unfold srD srK
  split <;> rfl
theorem srK_inj {a b : Int} (h : srK a = srK b) : a = b := by
  unfold srK at h
  by_cases ha : -1 ≤ a <;> by_cases hb : -1 ≤ b <;> simp only [ha, hb, if_true, if_false] at h
  · exact Sum.inl.inj h
  · cases h
  · cases h
  · have e := Sum.inr.inj h
    simp only [List.cons.injEq, and_true, true_and] at e
    exact ucst_inj (by omega) (by omega) (Sum.inl.inj e)
/-- copies: by source -/
def kkX : Key → MX.MK
  | .inl c => srK c
  | .inr x => .inr [.inr x]
theorem kkX_inj {a b : Key} (h : kkX a = kkX b) : a = b := by
  cases a with
  | inl a =>
    cases b with
    | inl b => rw [srK_inj h]
    | inr y =>
      have h : srK a = .inr [.inr y] := h
      unfold srK at h
      split at h
      · cases h
      · have e := Sum.inr.inj h
        simp at e
  | inr x =>
    cases b with
    | inl b =>
      have h : .inr [.inr x] = srK b := h
      unfold srK at h
      split at h
      · cases h
      · have e := Sum.inr.inj h
        simp at e
    | inr y =>
      have h : (.inr [.inr x] : MX.MK) = .inr [.inr y] := h
      have e := Sum.inr.inj h
      simp at e
      rw [e]
def mxD (cp : List (Key × Int)) : List (MX.MK × D) := cp.map fun e => (kkX e.1, .int e.2)
theorem mxD_len (cp : List (Key × Int)) : (mxD cp).length = cp.length := List.length_map _
theorem mxD_val (k : Key) : ∀ cp : List (Key × Int), valN (mxD cp) (kkX k) = (valP cp k).map D.int
  | [] => rfl
  | e :: cp => by
    have ih := mxD_val k cp
    unfold valN valP at ih ⊢
    show Option.map _ (List.find? _ ((kkX e.1, D.int e.2) :: mxD cp)) = _
    rw [List.find?_cons, List.find?_cons]
    by_cases h : e.1 = k
    · simp only [h, decide_true, Option.map_some]
    · have h' : ¬ kkX e.1 = kkX k := fun z => h (kkX_inj z)
      simp only [h, h', decide_false]
      exact ih
theorem mxD_put {cp : List (Key × Int)} {k : Key} (h : valP cp k = none) (v : Int) : mxD (putP cp k v) = mxD cp ++ [(kkX k, .int v)] := by
  have : putP cp k v = cp ++ [(k, v)] := by
    unfold putP
    rw [any_val, h, if_neg (by simp)]
  rw [this]
  unfold mxD
  rw [List.map_append]
  rfl
def pr3 (p : Int × Int) : D := .tup [.int p.1, srD p.2]
def prX (L : Prs) : List D := L.map pr3
def kvY (L : Prs) : List (Key × D) := L.map fun p => (.inl p.1, srD p.2)
theorem kvY_keys (L : Prs) : (kvY L).map (·.1) = (tgs L).map Sum.inl := by
  unfold kvY tgs
  rw [List.map_map, List.map_map]
  rfl
theorem kvY_val {L : Prs} (t : Int) : valP (kvY L) (.inl t) = if t ∈ tgs L then some (srD (sL L t)) else none := by
  have e : kvY L = (kvL L).map fun kv => (kv.1, match kv.2 with | .int i => srD i | d => d) := by
    unfold kvY kvL
    rw [List.map_map]
    rfl
  have key : ∀ (f : D → D) (l : List (Key × D)) (k : Key), valP (l.map fun kv => (kv.1, f kv.2)) k = (valP l k).map f := fun f l k => by
    induction l with
    | nil => rfl
    | cons a l ih =>
      unfold valP at ih ⊢
      rw [List.map_cons, List.find?_cons, List.find?_cons]
      by_cases h : a.1 = k
      · simp only [h, decide_true, Option.map_some]
      · simp only [h, decide_false]
        exact ih
  rw [e, key (fun d => match d with | .int i => srD i | d => d), kvL_val]
  split <;> rfl
theorem keysI_kvY : ∀ L : Prs, keysI (kvY L) = some (tgs L)
  | [] => rfl
  | p :: L => by
    show keysI ((.inl p.1, srD p.2) :: kvY L) = _
    simp only [keysI, keysI_kvY L, Option.map_some]
    rfl
/-- any source looked up in an int dict -/
theorem inX_of {hf : Key → Int} {l : List Ob} {y : D} {kvs : List (Key × D)} (hx : dcX hf l y = none) (hc : dcS l y = some kvs) (al : kvs.all (fun kv => kv.1.isLeft) = true) (c : Int) (hn : ∀ x : Int, x < -1 → valP kvs (.inl x) = none) :
    dInX hf l (srD c) y = some (.bl (valP kvs (.inl c)).isSome) := by
  unfold dInX dInX0
  rw [hx, hc]
  simp only [Option.bind_some]
  by_cases h : -1 ≤ c
  · rw [srD_int h]
    rfl
  · rw [srD_low h, hn c (by omega)]
    show (if kvs.all (fun kv => kv.1.isLeft) = true then some (D.bl false) else none) = _
    rw [if_pos al]
    rfl
theorem dcX_dct {hf : Key → Int} {l : List Ob} {n : Nat} {kvs : List (Key × D)} (h : l[n]? = some (.dct kvs)) : dcX hf l (.obj n) = none := by
  simp only [dcX, h]
theorem fnD_left (xs : List Int) (g : Int → D) : (fnD xs g).all (fun kv => kv.1.isLeft) = true := by
  rw [List.all_eq_true]
  intro kv h
  unfold fnD at h
  obtain ⟨p, _, rfl⟩ := List.mem_map.mp h
  rfl
end S
namespace S
open PySem PySem.Spec PyProof.Rows L2 RZ Mr
section
variable {A : Ad} {q : List Ob} {s : Dr} {ρ : Ev} {L : Prs}
theorem as_pairX_ok (A : Ad) (p : Int × Int) (s : Dr) : m_as_pair A [pr3 p] s = .ok (pr3 p) s := by
  have h1 : dIsI [srD p.2, .ty "list"] = some (.bl false) := by unfold srD; split <;> rfl
  have t0 : dTruth (.bl false) = some false := rfl
  have fs : fSq 2 (fCons (fName 1) (fCons (fName 2) fNil)) (.tup [.int p.1, srD p.2]) [.sh (.tup [.int p.1, srD p.2]), .no, .no] = some [.sh (.tup [.int p.1, srD p.2]), .sh (.int p.1), .sh (srD p.2)] := rfl
  simp only [m_as_pair, mb_as_pair, pr3, EE, eEqS, seqS, toS, R.lift, asSeq, asList, asTup, List.replicate, Nat.reduceAdd, Nat.reduceSub, Nat.reduceLeDiff, Nat.reduceLT, Nat.reduceMul, Int.reduceToNat, Int.reduceEq, Int.reduceAdd, Int.reduceSub, Int.reduceNeg, reduceIte, Nat.reduceEqDiff, fs, h1, t0]
theorem sourcesX_ok (A : Ad) {L : Prs} (nd : (tgs L).Nodup) (hl : L.length ≤ 9000) (s : Dr) : m_sources_of A [.lst (prX L)] s = .ok (.dct (kvY L)) s := by
  have hst : ∀ s : Dr, (O A).st s = s.st := fun _ => rfl
  have sq : ∀ l ds, sqS l (.lst ds) = some (true, ds) := fun _ _ => rfl
  have lc : lc_sources_of_0 A [.sh (.lst (prX L)), .no] s = .ok (prX L) s := by
    unfold lc_sources_of_0
    exact mLcS_map (c := fun l => sqS l (.lst (prX L)) = some (true, prX L)) pr3 pr3 L (by simp only [mJS, EE, eEqS, seqS, toS, R.lift, asSeq, asList, asTup, List.replicate, Nat.reduceAdd, Nat.reduceSub, Nat.reduceLeDiff, Nat.reduceLT, Nat.reduceMul, Int.reduceToNat, Int.reduceEq, Int.reduceAdd, Int.reduceSub, Int.reduceNeg, reduceIte, Nat.reduceEqDiff, hst, sq] <;> rfl) rfl (fun p _ => ⟨[.sh (.lst (prX L)), .sh (pr3 p)], rfl, by
      have := as_pairX_ok A p s
      simp only [EE, eEqS, seqS, toS, R.lift, asSeq, asList, asTup, List.replicate, Nat.reduceAdd, Nat.reduceSub, Nat.reduceLeDiff, Nat.reduceLT, Nat.reduceMul, Int.reduceToNat, Int.reduceEq, Int.reduceAdd, Int.reduceSub, Int.reduceNeg, reduceIte, Nat.reduceEqDiff, this]⟩) (by omega)
  have pp : ∀ L : Prs, pairsP (prX L) = some (kvY L) := fun L => by
    induction L with
    | nil => rfl
    | cons p L ih =>
      show pairsP (D.tup [.int p.1, srD p.2] :: prX L) = _
      simp only [pairsP, ih, toKey, Option.bind_some, Option.map_some, kvY, List.map_cons]
  have mn : mergeP [] (kvY L) = kvY L := mergeP_nodup _ (by rw [kvY_keys]; exact List.Pairwise.map _ (fun a b hab z => hab (by cases z; rfl)) nd)
  simp only [m_sources_of, mb_sources_of, mDct, mDictP, EE, eEqS, seqS, toS, R.lift, asSeq, asList, asTup, List.replicate, Nat.reduceAdd, Nat.reduceSub, Nat.reduceLeDiff, Nat.reduceLT, Nat.reduceMul, Int.reduceToNat, Int.reduceEq, Int.reduceAdd, Int.reduceSub, Int.reduceNeg, reduceIte, Nat.reduceEqDiff, lc, hst, sq, pp, mn]
theorem reader_countsX_ok (nd : (tgs L).Nodup) (pos : ∀ x ∈ tgs L, 0 ≤ x) (hl : L.length ≤ 9000) : m_reader_counts_2 A [.dct (kvY L)] (sto s q) = .ok (.obj q.length) (sto s (q ++ [.dct (fnD (tgs L) fun x => .int (cntL L [] x : Nat))])) := by
  have hst : ∀ s : Dr, (O A).st s = s.st := fun _ => rfl
  have tl : (tgs L).length = L.length := List.length_map _
  let E : Sl → Sl → Sl → Ev := fun y1 y2 y3 => [.sh (.dct (kvY L)), y1, y2, y3]
  have lk : ∀ l, lkS l (.dct (kvY L)) = some (kvY L) := fun _ => rfl
  have wk : wkD .ks (kvY L) = (tgs L).map D.int := wk_keys (kvY_keys L)
  have wv : wkD .vs (kvY L) = L.map fun p => srD p.2 := by
    unfold wkD kvY
    rw [List.map_map]
    rfl
  have dc0 : dc_reader_counts_2_0 A (E .no .no .no) (sto s q) = .ok (fnD (tgs L) fun _ => .int 0) (sto s q) := by
    unfold dc_reader_counts_2_0
    refine (mDcS_ints (s1 := sto s q) (c := fun _ => True) D.int id (fun _ => D.int 0) (tgs L) (by simp only [E, mJI, mItD, EE, eEqS, seqS, toS, R.lift, asSeq, asList, asTup, List.replicate, Nat.reduceAdd, Nat.reduceSub, Nat.reduceLeDiff, Nat.reduceLT, Nat.reduceMul, Int.reduceToNat, Int.reduceEq, Int.reduceAdd, Int.reduceSub, Int.reduceNeg, reduceIte, Nat.reduceEqDiff, hst, sto_st, lk, Option.map_some, wk, R.lift]) trivial (fun x _ => ⟨[.sh (.dct (kvY L)), .no, .no, .sh (.int x)], rfl, by simp only [EE, eEqS, seqS, toS, R.lift, asSeq, asList, asTup, List.replicate, Nat.reduceAdd, Nat.reduceSub, Nat.reduceLeDiff, Nat.reduceLT, Nat.reduceMul, Int.reduceToNat, Int.reduceEq, Int.reduceAdd, Int.reduceSub, Int.reduceNeg, reduceIte, Nat.reduceEqDiff] <;> rfl, by simp only [EE, eEqS, seqS, toS, R.lift, asSeq, asList, asTup, List.replicate, Nat.reduceAdd, Nat.reduceSub, Nat.reduceLeDiff, Nat.reduceLT, Nat.reduceMul, Int.reduceToNat, Int.reduceEq, Int.reduceAdd, Int.reduceSub, Int.reduceNeg, reduceIte, Nat.reduceEqDiff]⟩) (by omega)).trans ?_
    have e : ((tgs L).map fun x => ((.inl (id x) : Key), D.int 0)) = fnD (tgs L) fun _ => .int 0 := rfl
    rw [e, mergeP_nodup _ (by rw [fnD_keys]; exact List.Pairwise.map _ (fun a b hab z => hab (by cases z; rfl)) nd)]
  let st_ : Nat → List Ob := fun i => q ++ [.dct (fnD (tgs L) fun x => .int (rdL (L.take i) x : Nat))]
  have it : mJI (O A) (mItD (O A) .vs (mVar (O A) 0)) (E (.sh (.obj q.length)) .no .no) (sto s (st_ 0)) = .ok (L.map fun p => srD p.2, fun _ => True) (sto s (st_ 0)) := by
    simp only [E, mJI, mItD, EE, eEqS, seqS, toS, R.lift, asSeq, asList, asTup, List.replicate, Nat.reduceAdd, Nat.reduceSub, Nat.reduceLeDiff, Nat.reduceLT, Nat.reduceMul, Int.reduceToNat, Int.reduceEq, Int.reduceAdd, Int.reduceSub, Int.reduceNeg, reduceIte, Nat.reduceEqDiff, hst, sto_st, lk, Option.map_some, wv, R.lift]
  have nx : Nx (O := O A) (fun ρ' s' => (∃ y2, ρ' = E (.sh (.obj q.length)) y2 .no) ∧ sto s (st_ L.length) = s') (mForS (O A) (mJI (O A) (mItD (O A) .vs (mVar (O A) 0))) (fName 2) (bd_reader_counts_2_1 A) (E (.sh (.obj q.length)) .no .no) (sto s (st_ 0))) := by
    refine nx_of_oc (O := O A) (oc_forS (O := O A) it (fun i ρ' s' => (∃ y2, ρ' = E (.sh (.obj q.length)) y2 .no) ∧ sto s (st_ i) = s') (fun _ _ _ _ => trivial) ?_ ⟨⟨_, rfl⟩, rfl⟩ (fun ρ' s' h => by rw [List.length_map] at h; exact h))
    rintro i dd ρ' s' hd ⟨⟨y2, rfl⟩, rfl⟩
    rw [List.getElem?_map, Option.map_eq_some_iff] at hd
    obtain ⟨p, hpi, rfl⟩ := hd
    refine ⟨E (.sh (.obj q.length)) (.sh (srD p.2)) .no, rfl, ?_⟩
    have tk : L.take (i + 1) = L.take i ++ [p] := by rw [List.take_add_one, hpi]; rfl
    have rs : ∀ x, rdL (L.take (i + 1)) x = rdL (L.take i) x + if p.2 = x then 1 else 0 := fun x => by
      rw [tk]
      unfold rdL
      rw [List.filter_append, List.length_append, List.filter_cons]
      by_cases e : p.2 = x
      · rw [if_pos (decide_eq_true e), if_pos e]; rfl
      · rw [if_neg (by rw [decide_eq_false e]; decide), if_neg e]; rfl
    have a1 : (st_ i)[q.length]? = some (.dct (fnD (tgs L) fun x => .int (rdL (L.take i) x : Nat))) := by simp [st_]
    have dc : dcS (st_ i) (.obj q.length) = some (fnD (tgs L) fun x => .int (rdL (L.take i) x : Nat)) := by simp only [dcS, a1]
    have low : ∀ x : Int, x < -1 → valP (fnD (tgs L) fun x => D.int (rdL (L.take i) x : Nat)) (.inl x) = none := fun x hx => by rw [fnD_val, if_neg (fun z => by have := pos _ z; omega)]
    have fl : (fnD (tgs L) fun x => D.int (rdL (L.take i) x : Nat)).length < 100000 := by unfold fnD; rw [List.length_map]; omega
    unfold bd_reader_counts_2_1
    by_cases hx : p.2 ∈ tgs L
    · have pe : srD p.2 = .int p.2 := srD_int (by have := pos _ hx; omega)
      have ins : dInX A.hw (st_ i) (.int p.2) (.obj q.length) = some (.bl true) := by
        have := inX_of (hf := A.hw) (dcX_dct a1) dc (fnD_left _ _) p.2 low
        rw [pe] at this
        rw [this, fnD_val, if_pos hx]
        rfl
      rw [pe]
      have v1 : valP (fnD (tgs L) fun x => D.int (rdL (L.take i) x : Nat)) (.inl p.2) = some (.int (rdL (L.take i) p.2 : Nat)) := by rw [fnD_val, if_pos hx]
      have pu : putP (fnD (tgs L) fun x => D.int (rdL (L.take i) x : Nat)) (.inl p.2) (.int ((rdL (L.take i) p.2 : Nat) + 1)) = fnD (tgs L) fun x => .int (rdL (L.take (i + 1)) x : Nat) := by
        rw [fnD_put hx]
        refine fnD_congr fun x _ => ?_
        rw [rs]
        by_cases e : x = p.2
        · rw [if_pos e, if_pos e.symm, e]; congr 1
        · rw [if_neg e, if_neg (Ne.symm e)]; rfl
      have fin : stPut (O A) (sto s (st_ i)) q.length (.dct (fnD (tgs L) fun x => .int (rdL (L.take (i + 1)) x : Nat))) = sto s (st_ (i + 1)) := by
        rw [stPut_sto]
        congr 1
        show (q ++ [_]).set q.length _ = q ++ [_]
        rw [List.set_append_right _ _ (Nat.le_refl _), Nat.sub_self]
        rfl
      have i2 : ∀ a b : Int, dInt2 (fun i j => some (D.int (i + j))) (.int a) (.int b) = some (.int (a + b)) := fun _ _ => rfl
      exact oc_nx (ρ := E (.sh (.obj q.length)) (.sh (.int p.2)) .no) (s := sto s (st_ (i + 1))) (by simp only [E, mBinS, mAugIS, EE, eEqS, seqS, toS, R.lift, asSeq, asList, asTup, List.replicate, Nat.reduceAdd, Nat.reduceSub, Nat.reduceLeDiff, Nat.reduceLT, Nat.reduceMul, Int.reduceToNat, Int.reduceEq, Int.reduceAdd, Int.reduceSub, Int.reduceNeg, reduceIte, Nat.reduceEqDiff, hst, sto_st, ins, dBool, a1, toKey, v1, i2, fl, pu, fin]) ⟨⟨_, rfl⟩, rfl⟩
    · have ins : dInX A.hw (st_ i) (srD p.2) (.obj q.length) = some (.bl false) := by
        rw [inX_of (hf := A.hw) (dcX_dct a1) dc (fnD_left _ _) p.2 low, fnD_val, if_neg hx]
        rfl
      have same : st_ (i + 1) = st_ i := by
        show q ++ [_] = q ++ [_]
        congr 3
        refine fnD_congr fun x hxx => ?_
        rw [rs, if_neg (fun z => hx (by rw [z]; exact hxx))]
        rfl
      rw [same]
      exact oc_nx (ρ := E (.sh (.obj q.length)) (.sh (srD p.2)) .no) (s := sto s (st_ i)) (by simp only [E, mBinS, EE, eEqS, seqS, toS, R.lift, asSeq, asList, asTup, List.replicate, Nat.reduceAdd, Nat.reduceSub, Nat.reduceLeDiff, Nat.reduceLT, Nat.reduceMul, Int.reduceToNat, Int.reduceEq, Int.reduceAdd, Int.reduceSub, Int.reduceNeg, reduceIte, Nat.reduceEqDiff, hst, sto_st, ins, dBool]) ⟨⟨_, rfl⟩, rfl⟩
  obtain ⟨ρ', s', e, ⟨y2, rfl⟩, rfl⟩ := nx
  have e0 : st_ 0 = q ++ [.dct (fnD (tgs L) fun _ => .int 0)] := rfl
  have eL : st_ L.length = q ++ [.dct (fnD (tgs L) fun x => .int (cntL L [] x : Nat))] := by
    show q ++ [Ob.dct (fnD (tgs L) fun x => .int (rdL (L.take L.length) x : Nat))] = _
    rw [List.take_length]
    congr 3
    refine fnD_congr fun x _ => ?_
    rw [rd_cnt]
  rw [e0, eL] at e
  simp only [E] at e dc0
  simp only [m_reader_counts_2, mb_reader_counts_2, mLock, mObjD, EE, eEqS, seqS, toS, R.lift, asSeq, asList, asTup, List.replicate, Nat.reduceAdd, Nat.reduceSub, Nat.reduceLeDiff, Nat.reduceLT, Nat.reduceMul, Int.reduceToNat, Int.reduceEq, Int.reduceAdd, Int.reduceSub, Int.reduceNeg, reduceIte, Nat.reduceEqDiff, dc0, hst, sto_st, sto_mk, e]
end
end S
namespace S
open PySem PySem.Spec PyProof.Rows L2 RZ Mr
section
variable {A : Ad} {q : List Ob} {s : Dr} {ρ : Ev} {L : Prs}
/-- the run itself: one step after another -/
inductive OutR (L : Prs) : List Int → Nat → List (Key × Int) → Prop
  | start : OutR L ((tgs L).filter fun x => decide (cntL L [] x = 0)) 0 []
  | step {R : List Int} {i : Nat} {cp : List (Key × Int)} {t : Int} : OutR L R i cp → R[i]? = some t → OutR L (if sL L t ∈ tgs L ∧ cntL L (R.take (i + 1)) (sL L t) = 0 then R ++ [sL L t] else R) (i + 1) (setd cp (.inl (sL L t)) t)
structure Out2 (L : Prs) (R : List Int) (i : Nat) (cp : List (Key × Int)) : Prop extends Out1 L R i cp where
  run : OutR L R i cp
theorem Out2.start {L : Prs} (nd : (tgs L).Nodup) : Out2 L ((tgs L).filter fun x => decide (cntL L [] x = 0)) 0 [] := ⟨Out1.start nd, .start⟩
theorem Out2.len {L : Prs} {R : List Int} {i : Nat} {cp : List (Key × Int)} (h : Out2 L R i cp) : R.length ≤ L.length := h.toOut1.len
theorem Out2.step {L : Prs} (nd : (tgs L).Nodup) {R : List Int} {i : Nat} {cp : List (Key × Int)} (h : Out2 L R i cp) {t : Int} (ht : R[i]? = some t) :
    Out2 L (if sL L t ∈ tgs L ∧ cntL L (R.take (i + 1)) (sL L t) = 0 then R ++ [sL L t] else R) (i + 1) (setd cp (.inl (sL L t)) t) := ⟨h.toOut1.step nd ht, h.run.step ht⟩
theorem OutR.inv {L : Prs} {R : List Int} {i : Nat} {cp : List (Key × Int)} (h : OutR L R (i + 1) cp) : ∃ R0 cp0 t, OutR L R0 i cp0 ∧ R0[i]? = some t ∧ R = (if sL L t ∈ tgs L ∧ cntL L (R0.take (i + 1)) (sL L t) = 0 then R0 ++ [sL L t] else R0) ∧ cp = setd cp0 (.inl (sL L t)) t := by
  cases h with
  | step h ht => exact ⟨_, _, _, h, ht, rfl, rfl⟩
/-- the state at an earlier step -/
theorem OutR.at_ {L : Prs} : ∀ {i : Nat} {R : List Int} {cp : List (Key × Int)}, OutR L R i cp → ∀ j, j < i → ∃ R0 cp0 t, OutR L R0 j cp0 ∧ R0[j]? = some t
  | 0, _, _, _, j, hj => absurd hj (Nat.not_lt_zero _)
  | i + 1, _, _, h, j, hj => by
    obtain ⟨R0, cp0, t, a1, a2, _, _⟩ := h.inv
    by_cases e : j = i
    · subst e
      exact ⟨R0, cp0, t, a1, a2⟩
    · exact a1.at_ j (by omega)
theorem outsideX_ok (nd : (tgs L).Nodup) (pos : ∀ x ∈ tgs L, 0 ≤ x) (hl : L.length ≤ 900) : ∃ T cp cs, Out2 L T T.length cp ∧ m_moves_outside_cycles_2 A [.dct (kvY L)] (sto s q) = .ok (.tup [.obj (q.length + 1), .obj (q.length + 2)]) (sto s (q ++ [cs, .lst (prX (mvR L T)), .dcX A.hw (mxD cp)])) ∧ cp.length ≤ L.length := by
  have hst : ∀ s : Dr, (O A).st s = s.st := fun _ => rfl
  have tl : (tgs L).length = L.length := List.length_map _
  let n := q.length
  let E : Sl → Sl → Sl → Sl → Sl → Sl → Sl → Ev := fun y1 y2 y3 y4 y5 y6 y7 => [.sh (.dct (kvY L)), y1, y2, y3, y4, y5, y6, y7]
  let cO : List Int → Ob := fun P => .dct (fnD (tgs L) fun x => .int (cntL L P x : Nat))
  let st_ : List Int → List (Key × Int) → List Ob := fun P cp => q ++ [cO P, .lst (prX (mvR L P)), .dcX A.hw (mxD cp)]
  let R0 := (tgs L).filter fun x => decide (cntL L [] x = 0)
  let Q : D → Dr → Prop := fun d s' => d = .tup [.obj (q.length + 1), .obj (q.length + 2)] ∧ ∃ T cp, Out2 L T T.length cp ∧ s' = sto s (st_ T cp) ∧ cp.length ≤ L.length
  have key : ∃ d s', m_moves_outside_cycles_2 A [.dct (kvY L)] (sto s q) = .ok d s' ∧ Q d s' := by
    refine oc_run (O := O A) (n := 8) (m := mb_moves_outside_cycles_2 A) (Q := Q) ?_
    unfold mb_moves_outside_cycles_2
    have rc := reader_countsX_ok (A := A) (q := q) (s := s) nd pos (by omega)
    obtain ⟨q1, hq1⟩ : ∃ q1, q ++ [cO []] = q1 := ⟨_, rfl⟩
    have a1 : (q ++ [cO []])[q.length]? = some (cO []) := by simp
    have rc : m_reader_counts_2 A [.dct (kvY L)] (sto s q) = .ok (.obj q.length) (sto s (q ++ [cO []])) := rc
    rw [hq1] at rc a1
    refine oc_seq (O := O A) (fun ρ s' => ρ = E (.sh (.obj n)) .no .no .no .no .no .no ∧ sto s q1 = s') (oc_nx (by simp only [EE, eEqS, seqS, toS, R.lift, asSeq, asList, asTup, List.replicate, Nat.reduceAdd, Nat.reduceSub, Nat.reduceLeDiff, Nat.reduceLT, Nat.reduceMul, Int.reduceToNat, Int.reduceEq, Int.reduceAdd, Int.reduceSub, Int.reduceNeg, reduceIte, Nat.reduceEqDiff, rc] <;> rfl) ⟨rfl, rfl⟩) ?_
    rintro _ _ ⟨rfl, rfl⟩
    have lk : ∀ l, lkS l (.dct (kvY L)) = some (kvY L) := fun _ => rfl
    have wk : wkD .ks (kvY L) = (tgs L).map D.int := wk_keys (kvY_keys L)
    have lc : lc_moves_outside_cycles_2_0 A (E (.sh (.obj n)) .no .no .no .no .no .no) (sto s q1) = .ok (iD R0) (sto s q1) := by
      unfold lc_moves_outside_cycles_2_0
      have dc : dcS q1 (.obj n) = some (fnD (tgs L) fun x => .int (cntL L [] x : Nat)) := by
        show dcS q1 (.obj q.length) = _
        simp only [dcS, a1]
        rfl
      refine mLcS_fm (O := O A) (s1 := sto s q1) (c := fun _ => True) D.int (fun x => decide (cntL L [] x = 0)) D.int (tgs L) (by simp only [E, mJI, mItD, EE, eEqS, seqS, toS, R.lift, asSeq, asList, asTup, List.replicate, Nat.reduceAdd, Nat.reduceSub, Nat.reduceLeDiff, Nat.reduceLT, Nat.reduceMul, Int.reduceToNat, Int.reduceEq, Int.reduceAdd, Int.reduceSub, Int.reduceNeg, reduceIte, Nat.reduceEqDiff, hst, sto_st, lk, Option.map_some, wk, R.lift]) trivial (fun x hx => ?_) (by omega)
      have ix : dIdxS q1 (.obj n) (.int x) = some (.int (cntL L [] x : Nat)) := by simp only [dIdxS, dc, toKey, Option.bind_some, fnD_val, if_pos hx]
      have eq : decide (((cntL L [] x : Nat) : Int) = 0) = decide (cntL L [] x = 0) := by
        by_cases e : cntL L [] x = 0
        · rw [decide_eq_true e, decide_eq_true (by omega)]
        · rw [decide_eq_false e, decide_eq_false (by omega)]
      exact ⟨E (.sh (.obj n)) .no .no .no .no (.sh (.int x)) .no, rfl, by simp only [E, mIdxS, mBinS, EE, eEqS, seqS, toS, R.lift, asSeq, asList, asTup, List.replicate, Nat.reduceAdd, Nat.reduceSub, Nat.reduceLeDiff, Nat.reduceLT, Nat.reduceMul, Int.reduceToNat, Int.reduceEq, Int.reduceAdd, Int.reduceSub, Int.reduceNeg, reduceIte, Nat.reduceEqDiff, hst, sto_st, ix, eq], fun _ => by simp only [E, EE, eEqS, seqS, toS, R.lift, asSeq, asList, asTup, List.replicate, Nat.reduceAdd, Nat.reduceSub, Nat.reduceLeDiff, Nat.reduceLT, Nat.reduceMul, Int.reduceToNat, Int.reduceEq, Int.reduceAdd, Int.reduceSub, Int.reduceNeg, reduceIte, Nat.reduceEqDiff]⟩
    refine oc_seq (O := O A) (fun ρ s' => ρ = E (.sh (.obj n)) (.own (iD R0)) .no .no .no .no .no ∧ sto s q1 = s') (oc_nx (by
      simp only [E] at lc ⊢
      simp only [mLock, mOwn, EE, eEqS, seqS, toS, R.lift, asSeq, asList, asTup, List.replicate, Nat.reduceAdd, Nat.reduceSub, Nat.reduceLeDiff, Nat.reduceLT, Nat.reduceMul, Int.reduceToNat, Int.reduceEq, Int.reduceAdd, Int.reduceSub, Int.reduceNeg, reduceIte, Nat.reduceEqDiff, lc] <;> rfl) ⟨rfl, rfl⟩) ?_
    rintro _ _ ⟨rfl, rfl⟩
    have l1 : q1.length = n + 1 := by rw [← hq1, List.length_append]; rfl
    refine oc_seq (O := O A) (fun ρ s' => ρ = E (.sh (.obj n)) (.own (iD R0)) (.sh (.obj (n + 1))) .no .no .no .no ∧ sto s (q1 ++ [.lst []]) = s') (oc_nx (by
      simp only [E, mObjL, mDisp, listMax, EE, eEqS, seqS, toS, R.lift, asSeq, asList, asTup, List.replicate, Nat.reduceAdd, Nat.reduceSub, Nat.reduceLeDiff, Nat.reduceLT, Nat.reduceMul, Int.reduceToNat, Int.reduceEq, Int.reduceAdd, Int.reduceSub, Int.reduceNeg, reduceIte, Nat.reduceEqDiff, hst, sto_st, sto_mk, l1] <;> rfl) ⟨rfl, rfl⟩) ?_
    rintro _ _ ⟨rfl, rfl⟩
    have l2 : (q1 ++ [Ob.lst []]).length = n + 2 := by rw [List.length_append, l1]; rfl
    refine oc_seq (O := O A) (fun ρ s' => ρ = E (.sh (.obj n)) (.own (iD R0)) (.sh (.obj (n + 1))) (.sh (.obj (n + 2))) .no .no .no ∧ sto s (st_ [] []) = s') (oc_nx (ρ := E (.sh (.obj n)) (.own (iD R0)) (.sh (.obj (n + 1))) (.sh (.obj (n + 2))) .no .no .no) (s := sto s (st_ [] [])) (by
      have e : q1 ++ [Ob.lst []] ++ [.dcX A.hw []] = st_ [] [] := by rw [← hq1]; show q ++ [_] ++ [_] ++ [_] = q ++ [_, _, _]; simp [mvR, prX, mxD]
      simp only [E, mNewX, EE, eEqS, seqS, toS, R.lift, asSeq, asList, asTup, List.replicate, Nat.reduceAdd, Nat.reduceSub, Nat.reduceLeDiff, Nat.reduceLT, Nat.reduceMul, Int.reduceToNat, Int.reduceEq, Int.reduceAdd, Int.reduceSub, Int.reduceNeg, reduceIte, Nat.reduceEqDiff, hst, sto_st, sto_mk, l2, e]) ⟨rfl, rfl⟩) ?_
    rintro _ _ ⟨rfl, rfl⟩
    refine oc_seq (O := O A) (fun ρ s' => ρ = E (.sh (.obj n)) (.own (iD R0)) (.sh (.obj (n + 1))) (.sh (.obj (n + 2))) (.sh (.int 0)) .no .no ∧ sto s (st_ [] []) = s') (oc_nx (by simp only [E, EE, eEqS, seqS, toS, R.lift, asSeq, asList, asTup, List.replicate, Nat.reduceAdd, Nat.reduceSub, Nat.reduceLeDiff, Nat.reduceLT, Nat.reduceMul, Int.reduceToNat, Int.reduceEq, Int.reduceAdd, Int.reduceSub, Int.reduceNeg, reduceIte, Nat.reduceEqDiff] <;> rfl) ⟨rfl, rfl⟩) ?_
    rintro _ _ ⟨rfl, rfl⟩
    let I : Nat → Ev → Dr → Prop := fun k ρ s' => ∃ T i cp y6 y7, Out2 L T i cp ∧ i ≤ T.length ∧ k = L.length - i ∧ ρ = E (.sh (.obj n)) (.own (iD T)) (.sh (.obj (n + 1))) (.sh (.obj (n + 2))) (.sh (.int (i : Nat))) y6 y7 ∧ s' = sto s (st_ (T.take i) cp) ∧ cp.length ≤ i
    refine oc_seq (O := O A) (fun ρ s' => ∃ T cp y5 y6 y7, Out2 L T T.length cp ∧ ρ = E (.sh (.obj n)) (.own (iD T)) (.sh (.obj (n + 1))) (.sh (.obj (n + 2))) y5 y6 y7 ∧ s' = sto s (st_ T cp) ∧ cp.length ≤ L.length) ?_ ?_
    · refine whileL_oc I ?_ 1000 L.length _ _ (by omega) ⟨R0, 0, [], .no, .no, Out2.start nd, Nat.zero_le _, rfl, rfl, rfl, Nat.le_refl _⟩
      rintro k _ _ ⟨T, i, cp, y6, y7, h, hi, rfl, rfl, rfl, hcp⟩
      have hR := h.len
      have ir : (iD T).length = T.length := List.length_map _
      refine ⟨decide (i < T.length), sto s (st_ (T.take i) cp), ?_, fun hf => ?_, fun ht => ?_⟩
      · have e : decide (((i : Nat) : Int) < (T.length : Int)) = decide (i < T.length) := by
          by_cases e : i < T.length
          · rw [decide_eq_true e, decide_eq_true (by omega)]
          · rw [decide_eq_false e, decide_eq_false (by omega)]
        simp only [E, mLenO, EE, eEqS, seqS, toS, R.lift, asSeq, asList, asTup, List.replicate, Nat.reduceAdd, Nat.reduceSub, Nat.reduceLeDiff, Nat.reduceLT, Nat.reduceMul, Int.reduceToNat, Int.reduceEq, Int.reduceAdd, Int.reduceSub, Int.reduceNeg, reduceIte, Nat.reduceEqDiff, ir, e]
      · have e : i = T.length := by have := of_decide_eq_false hf; omega
        subst e
        exact ⟨T, cp, _, _, _, h, rfl, by rw [List.take_length], by omega⟩
      · have hlt : i < T.length := of_decide_eq_true ht
        obtain ⟨t, htR⟩ : ∃ t, T[i]? = some t := ⟨T[i], List.getElem?_eq_getElem hlt⟩
        have htL := h.sub t (List.mem_of_getElem? htR)
        have nt := not_take h.nd htR
        have tk := take_next htR
        have st := h.step nd htR
        have at1 : L2.atI (iD T) (i : Int) = some (.int t) := by
          unfold atI ixN
          rw [if_pos (by omega), if_pos (by rw [ir]; omega)]
          have : ((i : Int)).toNat = i := by omega
          simp only [Option.bind_some, this, iD, List.getElem?_map, htR, Option.map_some]
        obtain ⟨x, hx⟩ : ∃ x, sL L t = x := ⟨_, rfl⟩
        have ixs : ∀ l, dIdxS l (.dct (kvY L)) (.int t) = some (srD x) := fun l => by
          have dc : dcS l (.dct (kvY L)) = some (kvY L) := rfl
          simp only [dIdxS, dc, toKey, Option.bind_some, kvY_val, if_pos htL, hx]
        refine oc_of_nx (O := O A) ?_
        unfold bd_moves_outside_cycles_2_1
        refine nx_seq (fun ρ' s' => ρ' = E (.sh (.obj n)) (.own (iD T)) (.sh (.obj (n + 1))) (.sh (.obj (n + 2))) (.sh (.int (i : Nat))) (.sh (.int t)) y7 ∧ sto s (st_ (T.take i) cp) = s') (nx_of (by simp only [E, mIdxO, EE, eEqS, seqS, toS, R.lift, asSeq, asList, asTup, List.replicate, Nat.reduceAdd, Nat.reduceSub, Nat.reduceLeDiff, Nat.reduceLT, Nat.reduceMul, Int.reduceToNat, Int.reduceEq, Int.reduceAdd, Int.reduceSub, Int.reduceNeg, reduceIte, Nat.reduceEqDiff, at1] <;> rfl) ⟨rfl, rfl⟩) ?_
        rintro _ _ ⟨rfl, rfl⟩
        let E2 : List Int → Ev := fun T => E (.sh (.obj n)) (.own (iD T)) (.sh (.obj (n + 1))) (.sh (.obj (n + 2))) (.sh (.int (i : Nat))) (.sh (.int t)) (.sh (srD x))
        refine nx_seq (fun ρ' s' => ρ' = E2 T ∧ sto s (st_ (T.take i) cp) = s') (nx_of (by simp only [E, mIdxS, mBinS, EE, eEqS, seqS, toS, R.lift, asSeq, asList, asTup, List.replicate, Nat.reduceAdd, Nat.reduceSub, Nat.reduceLeDiff, Nat.reduceLT, Nat.reduceMul, Int.reduceToNat, Int.reduceEq, Int.reduceAdd, Int.reduceSub, Int.reduceNeg, reduceIte, Nat.reduceEqDiff, hst, sto_st, ixs] <;> rfl) ⟨rfl, rfl⟩) ?_
        rintro _ _ ⟨rfl, rfl⟩
        -- the move
        have mv1 : (st_ (T.take i) cp)[n + 1]? = some (.lst (prX (mvR L (T.take i)))) := g3_1
        have la : lApp (prX (mvR L (T.take i))) [.tup [.int t, srD x]] = some (.non, prX (mvR L (T.take (i + 1)))) := by
          show (if (prX (mvR L (T.take i))).length < 100000 then some (D.non, prX (mvR L (T.take i)) ++ [.tup [.int t, srD x]]) else none) = _
          have lz : (prX (mvR L (T.take i))).length < 100000 := by
            unfold prX mvR
            rw [List.length_map, List.length_map, List.length_take]
            omega
          rw [if_pos lz, tk]
          unfold prX mvR
          rw [List.map_append, List.map_append, ← hx]
          rfl
        obtain ⟨qa, hqa⟩ : ∃ qa, q ++ [cO (T.take i), .lst (prX (mvR L (T.take (i + 1)))), .dcX A.hw (mxD cp)] = qa := ⟨_, rfl⟩
        have f1 : stPut (O A) (sto s (st_ (T.take i) cp)) (n + 1) (.lst (prX (mvR L (T.take (i + 1))))) = sto s qa := by rw [stPut_sto, ← hqa]; congr 1; exact s3_1 _
        refine nx_seq (fun ρ' s' => ρ' = E2 T ∧ sto s qa = s') (nx_of (by simp only [E2, E, mMutL, EE, eEqS, seqS, toS, R.lift, asSeq, asList, asTup, List.replicate, Nat.reduceAdd, Nat.reduceSub, Nat.reduceLeDiff, Nat.reduceLT, Nat.reduceMul, Int.reduceToNat, Int.reduceEq, Int.reduceAdd, Int.reduceSub, Int.reduceNeg, reduceIte, Nat.reduceEqDiff, hst, sto_st, mv1, la, f1] <;> rfl) ⟨rfl, rfl⟩) ?_
        rintro _ _ ⟨rfl, rfl⟩
        -- the copy
        have cp1 : qa[n + 2]? = some (.dcX A.hw (mxD cp)) := by rw [← hqa]; exact g3_2
        have dcc : dcX A.hw qa (.obj (n + 2)) = some (mxD cp) := dcX_at cp1
        obtain ⟨qb, hqb⟩ : ∃ qb, q ++ [cO (T.take i), .lst (prX (mvR L (T.take (i + 1)))), .dcX A.hw (mxD (setd cp (.inl x) t))] = qb := ⟨_, rfl⟩
        have lcp : (mxD cp).length < 100000 := by rw [mxD_len]; omega
        have lcp' : (setd cp (.inl x) t).length ≤ i + 1 := by
          unfold setd
          split
          · omega
          · have := putP_len cp (.inl x) t
            omega
        have sd : ∃ d, mSetdX (O A) A.hw (mVar (O A) 4) (mVar (O A) 7) (mVar (O A) 6) (E2 T) (sto s qa) = .ok d (sto s qb) := by
          cases hv : valP cp (.inl x) with
          | some v =>
            have v1 : valN (mxD cp) (srK x) = some (.int v) := by have := mxD_val (.inl x) cp; rw [hv] at this; exact this
            have eb : qb = qa := by rw [← hqb, ← hqa]; congr 5; unfold setd; rw [hv]; rfl
            refine ⟨.int v, ?_⟩
            rw [eb]
            simp only [E2, E, mSetdX, EE, eEqS, seqS, toS, R.lift, asSeq, asList, asTup, List.replicate, Nat.reduceAdd, Nat.reduceSub, Nat.reduceLeDiff, Nat.reduceLT, Nat.reduceMul, Int.reduceToNat, Int.reduceEq, Int.reduceAdd, Int.reduceSub, Int.reduceNeg, reduceIte, Nat.reduceEqDiff, hst, sto_st, dcc, Option.isSome_some, keyM_sr, lcp, v1]
          | none =>
            have v1 : valN (mxD cp) (srK x) = none := by have := mxD_val (.inl x) cp; rw [hv] at this; exact this
            have eb : setd cp (.inl x) t = putP cp (.inl x) t := by unfold setd; rw [hv]; rfl
            have f2 : stPut (O A) (sto s qa) (n + 2) (.dcX A.hw (mxD cp ++ [(srK x, .int t)])) = sto s qb := by
              have mp : mxD (putP cp (.inl x) t) = mxD cp ++ [(srK x, .int t)] := mxD_put hv t
              rw [stPut_sto, ← hqb, eb, mp, ← hqa]
              congr 1
              exact s3_2 _
            exact ⟨.int t, by simp only [E2, E, mSetdX, EE, eEqS, seqS, toS, R.lift, asSeq, asList, asTup, List.replicate, Nat.reduceAdd, Nat.reduceSub, Nat.reduceLeDiff, Nat.reduceLT, Nat.reduceMul, Int.reduceToNat, Int.reduceEq, Int.reduceAdd, Int.reduceSub, Int.reduceNeg, reduceIte, Nat.reduceEqDiff, hst, sto_st, dcc, Option.isSome_some, keyM_sr, lcp, v1, f2]⟩
        obtain ⟨dd, sd⟩ := sd
        refine nx_seq (fun ρ' s' => ρ' = E2 T ∧ sto s qb = s') (nx_of (by simp only [mDrop, sd, toS] <;> rfl) ⟨rfl, rfl⟩) ?_
        rintro _ _ ⟨rfl, rfl⟩
        rw [hx] at st
        -- the count
        have co1 : qb[n]? = some (cO (T.take i)) := by rw [← hqb]; exact g3_0
        have dco : dcS qb (.obj n) = some (fnD (tgs L) fun x => .int (cntL L (T.take i) x : Nat)) := by simp only [dcS, co1]; rfl
        have low : ∀ x : Int, x < -1 → valP (fnD (tgs L) fun x => D.int (cntL L (T.take i) x : Nat)) (.inl x) = none := fun x hx => by rw [fnD_val, if_neg (fun z => by have := pos _ z; omega)]
        have cst := fun y => cnt_step nd htL nt y
        rw [← tk] at cst
        have fl : (fnD (tgs L) fun x => D.int (cntL L (T.take i) x : Nat)).length < 100000 := by unfold fnD; rw [List.length_map]; omega
        have i2 : ∀ a b : Int, dInt2 (fun i j => some (D.int (i + j))) (.int a) (.int b) = some (.int (a + b)) := fun _ _ => rfl
        have fin : ∀ (T' : List Int), T'.take (i + 1) = T.take (i + 1) → Out2 L T' (i + 1) (setd cp (.inl x) t) → Nx (O := O A) (fun ρ' s' => ∃ k', k' < L.length - i ∧ I k' ρ' s') (mAug (O A) 5 (dInt2 fun i j => some (.int (i + j))) (mC (O A) (.int 1)) (E2 T') (sto s (st_ (T.take (i + 1)) (setd cp (.inl x) t)))) := fun T' ht' ho => by
          have il : i + 1 ≤ T'.length := by
            have := congrArg List.length ht'
            rw [List.length_take, List.length_take] at this
            omega
          have : ((i : Nat) : Int) + 1 = ((i + 1 : Nat) : Int) := by omega
          exact nx_of (ρ := E (.sh (.obj n)) (.own (iD T')) (.sh (.obj (n + 1))) (.sh (.obj (n + 2))) (.sh (.int ((i + 1 : Nat) : Int))) (.sh (.int t)) (.sh (srD x))) (s := sto s (st_ (T.take (i + 1)) (setd cp (.inl x) t))) (by simp only [E2, E, mAug, EE, eEqS, seqS, toS, R.lift, asSeq, asList, asTup, List.replicate, Nat.reduceAdd, Nat.reduceSub, Nat.reduceLeDiff, Nat.reduceLT, Nat.reduceMul, Int.reduceToNat, Int.reduceEq, Int.reduceAdd, Int.reduceSub, Int.reduceNeg, reduceIte, Nat.reduceEqDiff, i2, this]) ⟨L.length - (i + 1), by omega, T', i + 1, _, _, _, ho, il, rfl, rfl, by rw [ht'], lcp'⟩
        by_cases hxt : x ∈ tgs L
        · have xe : srD x = .int x := srD_int (by have := pos _ hxt; omega)
          have ins : dInX A.hw qb (.int x) (.obj n) = some (.bl true) := by
            have := inX_of (hf := A.hw) (dcX_dct co1) dco (fnD_left _ _) x low
            rw [xe] at this
            rw [this, fnD_val, if_pos hxt]
            rfl
          have v1 : valP (fnD (tgs L) fun x => D.int (cntL L (T.take i) x : Nat)) (.inl x) = some (.int (cntL L (T.take i) x : Nat)) := by rw [fnD_val, if_pos hxt]
          have cx := cst x
          rw [if_pos hx] at cx
          have sb : dSub (.int ((cntL L (T.take i) x : Nat) : Int)) (.int 1) = some (.int (cntL L (T.take (i + 1)) x : Nat)) := by
            rw [eSub]
            congr 2
            omega
          have pu : putP (fnD (tgs L) fun x => D.int (cntL L (T.take i) x : Nat)) (.inl x) (.int (cntL L (T.take (i + 1)) x : Nat)) = fnD (tgs L) fun x => .int (cntL L (T.take (i + 1)) x : Nat) := by
            rw [fnD_put hxt]
            refine fnD_congr fun y _ => ?_
            by_cases e : y = x
            · rw [if_pos e, e]
            · rw [if_neg e]
              have := cst y
              rw [hx, if_neg (Ne.symm e)] at this
              rw [this]
              rfl
          have f3 : stPut (O A) (sto s qb) n (.dct (fnD (tgs L) fun x => .int (cntL L (T.take (i + 1)) x : Nat))) = sto s (st_ (T.take (i + 1)) (setd cp (.inl x) t)) := by
            rw [stPut_sto, ← hqb]
            congr 1
            exact s3_0 _
          obtain ⟨qc, hqc⟩ : ∃ qc, st_ (T.take (i + 1)) (setd cp (.inl x) t) = qc := ⟨_, rfl⟩
          have dc3 : dcS qc (.obj n) = some (fnD (tgs L) fun x => .int (cntL L (T.take (i + 1)) x : Nat)) := by
            have : qc[n]? = some (cO (T.take (i + 1))) := by rw [← hqc]; exact g3_0
            simp only [dcS, this]
            rfl
          have ix3 : dIdxS qc (.obj n) (.int x) = some (.int (cntL L (T.take (i + 1)) x : Nat)) := by simp only [dIdxS, dc3, toKey, Option.bind_some, fnD_val, if_pos hxt]
          rw [hqc] at f3
          have au : mAugIS (O A) dSub (mVar (O A) 1) (mVar (O A) 7) (mC (O A) (.int 1)) (E2 T) (sto s qb) = .nx (E2 T) (sto s qc) := by
            have co1' : qb[n]? = some (.dct (fnD (tgs L) fun x => .int (cntL L (T.take i) x : Nat))) := co1
            simp only [E2, E, xe, mAugIS, mVar, mC, bind_ok, toS, List.getElem?_cons_zero, List.getElem?_cons_succ, hst, sto_st, co1', toKey, v1, sb, if_pos fl, pu, f3]
          by_cases hz : cntL L (T.take (i + 1)) x = 0
          · rw [if_pos ⟨hxt, hz⟩] at st
            have rl : (iD T).length < 100000 := by rw [ir]; omega
            have ap : iD T ++ [.int x] = iD (T ++ [x]) := by unfold iD; rw [List.map_append]; rfl
            have z0 : ((cntL L (T.take (i + 1)) x : Nat) : Int) = 0 := by omega
            refine nx_seq (fun ρ' s' => ρ' = E2 (T ++ [x]) ∧ sto s qc = s') (nx_if (k := true) (s1 := sto s qb) (by simp only [E2, E, xe, mBinS, EE, eEqS, seqS, toS, R.lift, asSeq, asList, asTup, List.replicate, Nat.reduceAdd, Nat.reduceSub, Nat.reduceLeDiff, Nat.reduceLT, Nat.reduceMul, Int.reduceToNat, Int.reduceEq, Int.reduceAdd, Int.reduceSub, Int.reduceNeg, reduceIte, Nat.reduceEqDiff, hst, sto_st, ins, dBool]) (fun _ => nx_seq (fun ρ' s' => ρ' = E2 T ∧ sto s qc = s') (nx_of au ⟨rfl, rfl⟩) (by
              rintro _ _ ⟨rfl, rfl⟩
              exact nx_if (k := true) (s1 := sto s qc) (by simp only [E2, E, xe, mIdxS, mBinS, EE, eEqS, seqS, toS, R.lift, asSeq, asList, asTup, List.replicate, Nat.reduceAdd, Nat.reduceSub, Nat.reduceLeDiff, Nat.reduceLT, Nat.reduceMul, Int.reduceToNat, Int.reduceEq, Int.reduceAdd, Int.reduceSub, Int.reduceNeg, reduceIte, Nat.reduceEqDiff, hst, sto_st, ix3, z0]) (fun _ => nx_of (by simp only [E2, E, xe, mAppend, EE, eEqS, seqS, toS, R.lift, asSeq, asList, asTup, List.replicate, Nat.reduceAdd, Nat.reduceSub, Nat.reduceLeDiff, Nat.reduceLT, Nat.reduceMul, Int.reduceToNat, Int.reduceEq, Int.reduceAdd, Int.reduceSub, Int.reduceNeg, reduceIte, Nat.reduceEqDiff, rl, ap] <;> rfl) ⟨rfl, rfl⟩) (fun hk => by cases hk))) (fun hk => by cases hk)) ?_
            rintro _ _ ⟨rfl, rfl⟩
            have := fin (T ++ [x]) (List.take_append_of_le_length (by omega)) st
            rw [hqc] at this
            exact this
          · rw [if_neg (fun z => hz z.2)] at st
            have z0 : ¬ ((cntL L (T.take (i + 1)) x : Nat) : Int) = 0 := by omega
            refine nx_seq (fun ρ' s' => ρ' = E2 T ∧ sto s qc = s') (nx_if (k := true) (s1 := sto s qb) (by simp only [E2, E, xe, mBinS, EE, eEqS, seqS, toS, R.lift, asSeq, asList, asTup, List.replicate, Nat.reduceAdd, Nat.reduceSub, Nat.reduceLeDiff, Nat.reduceLT, Nat.reduceMul, Int.reduceToNat, Int.reduceEq, Int.reduceAdd, Int.reduceSub, Int.reduceNeg, reduceIte, Nat.reduceEqDiff, hst, sto_st, ins, dBool]) (fun _ => nx_seq (fun ρ' s' => ρ' = E2 T ∧ sto s qc = s') (nx_of au ⟨rfl, rfl⟩) (by
              rintro _ _ ⟨rfl, rfl⟩
              exact nx_if (k := false) (s1 := sto s qc) (by simp only [E2, E, xe, mIdxS, mBinS, EE, eEqS, seqS, toS, R.lift, asSeq, asList, asTup, List.replicate, Nat.reduceAdd, Nat.reduceSub, Nat.reduceLeDiff, Nat.reduceLT, Nat.reduceMul, Int.reduceToNat, Int.reduceEq, Int.reduceAdd, Int.reduceSub, Int.reduceNeg, reduceIte, Nat.reduceEqDiff, hst, sto_st, ix3, z0]) (fun hk => by cases hk) (fun _ => nx_next ⟨rfl, rfl⟩))) (fun hk => by cases hk)) ?_
            rintro _ _ ⟨rfl, rfl⟩
            have := fin T rfl st
            rw [hqc] at this
            exact this
        · rw [if_neg (fun z => hxt z.1)] at st
          have ins : dInX A.hw qb (srD x) (.obj n) = some (.bl false) := by
            rw [inX_of (hf := A.hw) (dcX_dct co1) dco (fnD_left _ _) x low, fnD_val, if_neg hxt]
            rfl
          have same : qb = st_ (T.take (i + 1)) (setd cp (.inl x) t) := by
            rw [← hqb]
            show q ++ [cO (T.take i), _, _] = q ++ [cO (T.take (i + 1)), _, _]
            have : cO (T.take i) = cO (T.take (i + 1)) := by
              show Ob.dct _ = Ob.dct _
              congr 1
              refine fnD_congr fun y hy => ?_
              have := cst y
              rw [hx, if_neg (fun z => hxt (by rw [z]; exact hy))] at this
              rw [this]
              rfl
            rw [this]
          refine nx_seq (fun ρ' s' => ρ' = E2 T ∧ sto s qb = s') (nx_if (k := false) (s1 := sto s qb) (by simp only [E2, E, mBinS, EE, eEqS, seqS, toS, R.lift, asSeq, asList, asTup, List.replicate, Nat.reduceAdd, Nat.reduceSub, Nat.reduceLeDiff, Nat.reduceLT, Nat.reduceMul, Int.reduceToNat, Int.reduceEq, Int.reduceAdd, Int.reduceSub, Int.reduceNeg, reduceIte, Nat.reduceEqDiff, hst, sto_st, ins, dBool]) (fun hk => by cases hk) (fun _ => nx_next ⟨rfl, rfl⟩)) ?_
          rintro _ _ ⟨rfl, rfl⟩
          have := fin T rfl st
          rw [← same] at this
          exact this
    · rintro _ _ ⟨T, cp, y5, y6, y7, h, rfl, rfl, hc⟩
      exact oc_rt (d := .tup [.obj (q.length + 1), .obj (q.length + 2)]) (s := sto s (st_ T cp)) (by simp only [E, EE, eEqS, seqS, toS, R.lift, asSeq, asList, asTup, List.replicate, Nat.reduceAdd, Nat.reduceSub, Nat.reduceLeDiff, Nat.reduceLT, Nat.reduceMul, Int.reduceToNat, Int.reduceEq, Int.reduceAdd, Int.reduceSub, Int.reduceNeg, reduceIte, Nat.reduceEqDiff] <;> rfl) ⟨rfl, T, cp, h, rfl, hc⟩
  obtain ⟨d, s', e, rfl, T, cp, h, rfl, hc⟩ := key
  exact ⟨T, cp, _, h, e, hc⟩
end
end S
namespace S
open PySem PySem.Spec PyProof.Rows L2 RZ Mr
def cyO (C : List (List Int)) : List Ob := C.map fun cy => .lst (iD cy)
def ojs (n k : Nat) : List D := (List.range k).map fun i => .obj (n + i)
def hdI (cy : List Int) : Int := cy.headD 0
/-- the cycles stand in ascending order of their first cells, the least ones -/
structure Asc (P : List Int) (C : List (List Int)) : Prop where
  lt : (C.map hdI).Pairwise (· < ·)
  mn : ∀ cy ∈ C, ∀ y ∈ cy, hdI cy ≤ y
  hp : ∀ cy ∈ C, hdI cy ∈ P
theorem Asc.more {P : List Int} {C : List (List Int)} (h : Asc P C) (x : Int) : Asc (P ++ [x]) C := ⟨h.lt, h.mn, fun cy hc => List.mem_append_left _ (h.hp cy hc)⟩
theorem hdI_of {cy : List Int} {x : Int} (h : cy[0]? = some x) : hdI cy = x := by
  cases cy with
  | nil => cases h
  | cons c cy => exact Option.some.inj h
theorem Asc.add {P F : List Int} {C : List (List Int)} {cy : List Int} {x : Int} (h : Asc P C) (hs : ∀ y ∈ cy, y ∈ F) (hd : cy[0]? = some x) (hr : ∀ y ∈ cy, y ∈ P ∨ x ≤ y) (cov : ∀ y ∈ P, y ∈ F → y ∈ C.flatten) (dis : ∀ y ∈ cy, y ∉ C.flatten) (hb : ∀ y ∈ P, y < x) : Asc (P ++ [x]) (C ++ [cy]) := by
  have ex := hdI_of hd
  refine ⟨?_, fun c hc => ?_, fun c hc => ?_⟩
  · rw [List.map_append, List.pairwise_append]
    refine ⟨h.lt, by simp, fun a ha b hb' => ?_⟩
    obtain ⟨c, hc, rfl⟩ := List.mem_map.mp ha
    simp only [List.map_cons, List.map_nil, List.mem_singleton] at hb'
    rw [hb', ex]
    exact hb _ (h.hp c hc)
  · rcases List.mem_append.mp hc with hc | hc
    · exact h.mn c hc
    · rw [List.mem_singleton] at hc
      subst hc
      intro y hy
      rw [ex]
      rcases hr y hy with z | z
      · exact absurd (cov y z (hs y hy)) (dis y hy)
      · exact z
  · rcases List.mem_append.mp hc with hc | hc
    · exact List.mem_append_left _ (h.hp c hc)
    · rw [List.mem_singleton] at hc
      rw [hc, ex]
      simp
theorem sortI_lt {ns : List Int} (nd : ns.Nodup) : (sortI ns).Pairwise (· < ·) := by
  have h1 := sortI_rise ns
  have h2 : (sortI ns).Nodup := (sortI_perm ns).nodup_iff.mpr nd
  exact (h1.and h2).imp fun h => by omega
theorem sort_before {l : List Int} (h : l.Pairwise (· < ·)) {i : Nat} {x y : Int} (hx : l[i]? = some x) (hy : y ∈ l.take i) : y < x := by
  have hl := lt_of_some hx
  have e : l = l.take i ++ x :: l.drop (i + 1) := by
    have := List.take_append_drop i l
    rw [List.drop_eq_getElem_cons hl] at this
    rw [List.getElem?_eq_getElem hl] at hx
    rw [Option.some.inj hx] at this
    exact this.symm
  rw [e, List.pairwise_append] at h
  exact h.2.2 y hy x (by simp)
theorem sort_after {l : List Int} (h : l.Pairwise (· < ·)) {i : Nat} {x y : Int} (hx : l[i]? = some x) (hy : y ∈ l.drop (i + 1)) : x < y := by
  have hl := lt_of_some hx
  have e : l = l.take i ++ x :: l.drop (i + 1) := by
    have := List.take_append_drop i l
    rw [List.drop_eq_getElem_cons hl] at this
    rw [List.getElem?_eq_getElem hl] at hx
    rw [Option.some.inj hx] at this
    exact this.symm
  rw [e, List.pairwise_append] at h
  exact (List.pairwise_cons.mp h.2.1).1 y hy
section
variable {A : Ad} {q : List Ob} {s : Dr} {ρ : Ev} {L : Prs} {F : List Int}
theorem cycle_fromX_ok (pm : Pm L F) (hF : ∀ x ∈ F, x ∈ tgs L) (pos : ∀ x ∈ tgs L, 0 ≤ x) (hl : F.length ≤ 900) {x0 : Int} (hx : x0 ∈ F) : ∃ cy, m_cycle_from_2 A [.dct (kvY L), .int x0] (sto s q) = .ok (.obj q.length) (sto s (q ++ [.lst (iD cy)])) ∧ Cy L F cy ∧ cy[0]? = some x0 := by
  have hst : ∀ s : Dr, (O A).st s = s.st := fun _ => rfl
  let E : Ev := [.sh (.dct (kvY L)), .sh (.int x0), .sh (.obj q.length)]
  let st_ : List Int → Dr := fun cy => sto s (q ++ [.lst (iD cy)])
  let Q : D → Dr → Prop := fun d s' => d = .obj q.length ∧ ∃ cy, s' = st_ cy ∧ Cy L F cy ∧ cy[0]? = some x0
  have ng : dNeg (.int 1) = some (.int (-1)) := rfl
  have key : ∃ d s', m_cycle_from_2 A [.dct (kvY L), .int x0] (sto s q) = .ok d s' ∧ Q d s' := by
    refine oc_run (O := O A) (n := 3) (m := mb_cycle_from_2 A) (Q := Q) ?_
    unfold mb_cycle_from_2
    refine oc_seq (O := O A) (fun ρ s' => ρ = E ∧ st_ [x0] = s') (oc_nx (ρ := E) (s := st_ [x0]) (by
      simp only [mObjL, mDisp, listMax, EE, eEqS, seqS, toS, R.lift, asSeq, asList, asTup, List.replicate, Nat.reduceAdd, Nat.reduceSub, Nat.reduceLeDiff, Nat.reduceLT, Nat.reduceMul, Int.reduceToNat, Int.reduceEq, Int.reduceAdd, Int.reduceSub, Int.reduceNeg, reduceIte, Nat.reduceEqDiff, hst, sto_st, sto_mk] <;> rfl) ⟨rfl, rfl⟩) ?_
    rintro _ _ ⟨rfl, rfl⟩
    let I : Nat → Ev → Dr → Prop := fun k ρ s' => ∃ ys a, Ch L F x0 (ys ++ [a]) ∧ k = F.length - ys.length ∧ ρ = E ∧ st_ (ys ++ [a]) = s'
    refine oc_seq (O := O A) (fun ρ s' => ∃ cy, s' = st_ cy ∧ ρ = E ∧ Cy L F cy ∧ cy[0]? = some x0) ?_ ?_
    · refine whileL_oc I ?_ 1000 F.length _ _ (by omega) ⟨[], x0, Ch.one hx, rfl, rfl, rfl⟩
      rintro k _ _ ⟨ys, a, h, rfl, rfl, rfl⟩
      have aF := h.sub a (by simp)
      have at1 : L2.atI (iD (ys ++ [a])) (-1) = some (.int a) := by rw [iD_snoc]; exact at_last
      have o1 : (q ++ [Ob.lst (iD (ys ++ [a]))])[q.length]? = some (.lst (iD (ys ++ [a]))) := by simp
      have ixc : dIdxS (q ++ [Ob.lst (iD (ys ++ [a]))]) (.obj q.length) (.int (-1)) = some (.int a) := by
        have d0 : dcS (q ++ [Ob.lst (iD (ys ++ [a]))]) (.obj q.length) = none := by simp only [dcS, o1]
        simp only [dIdxS, d0, sqS, o1, at1]
      have sp : 0 ≤ sL L a := pos _ (hF _ (pm.cl a aF))
      have ix : ∀ l, dIdxS l (.dct (kvY L)) (.int a) = some (.int (sL L a)) := fun l => by
        have dc : dcS l (.dct (kvY L)) = some (kvY L) := rfl
        simp only [dIdxS, dc, toKey, Option.bind_some, kvY_val, if_pos (hF a aF), srD_int (show -1 ≤ sL L a by omega)]
      have ne := fun l => liftNe_int (l := l) (sL L a) x0
      have hq : (st_ (ys ++ [a])).st = q ++ [Ob.lst (iD (ys ++ [a]))] := rfl
      refine ⟨decide (sL L a ≠ x0), st_ (ys ++ [a]), by simp only [E, mIdxS, mBinS, EE, eEqS, seqS, toS, R.lift, asSeq, asList, asTup, List.replicate, Nat.reduceAdd, Nat.reduceSub, Nat.reduceLeDiff, Nat.reduceLT, Nat.reduceMul, Int.reduceToNat, Int.reduceEq, Int.reduceAdd, Int.reduceSub, Int.reduceNeg, reduceIte, Nat.reduceEqDiff, ng, hst, hq, ixc, ix, ne, dBool], fun hf => ?_, fun ht => ?_⟩
      · have e : sL L a = x0 := Classical.byContradiction fun z => absurd (decide_eq_true z) (by rw [hf]; decide)
        exact ⟨_, rfl, rfl, ⟨x0, ys, a, rfl, h, e⟩, h.hd⟩
      · have hne := of_decide_eq_true ht
        have sn := h.snoc pm hne
        have ln := nodup_len sn.nd sn.sub
        rw [List.length_append, List.length_append, List.length_cons, List.length_cons, List.length_nil] at ln
        have lz : (iD (ys ++ [a])).length < 100000 := by rw [List.length_map, List.length_append, List.length_cons, List.length_nil]; omega
        have ap : iD (ys ++ [a]) ++ [.int (sL L a)] = iD (ys ++ [a] ++ [sL L a]) := (iD_snoc _ _).symm
        have la : lApp (iD (ys ++ [a])) [.int (sL L a)] = some (.non, iD (ys ++ [a] ++ [sL L a])) := by
          show (if (iD (ys ++ [a])).length < 100000 then some (D.non, iD (ys ++ [a]) ++ [.int (sL L a)]) else none) = _
          rw [if_pos lz, ap]
        have fin : stPut (O A) (st_ (ys ++ [a])) q.length (.lst (iD (ys ++ [a] ++ [sL L a]))) = st_ (ys ++ [a] ++ [sL L a]) := by
          show sto s ((q ++ [_]).set q.length _) = sto s (q ++ [_])
          rw [List.set_append_right _ _ (Nat.le_refl _), Nat.sub_self]
          rfl
        exact oc_nx (ρ := E) (s := st_ (ys ++ [a] ++ [sL L a])) (by simp only [E, bd_cycle_from_2_0, mDrop, mMutL, mIdxS, mBinS, EE, eEqS, seqS, toS, R.lift, asSeq, asList, asTup, List.replicate, Nat.reduceAdd, Nat.reduceSub, Nat.reduceLeDiff, Nat.reduceLT, Nat.reduceMul, Int.reduceToNat, Int.reduceEq, Int.reduceAdd, Int.reduceSub, Int.reduceNeg, reduceIte, Nat.reduceEqDiff, ng, hst, hq, ixc, ix, o1, la, fin]) ⟨F.length - (ys ++ [a]).length, by rw [List.length_append, List.length_cons, List.length_nil]; omega, ys ++ [a], sL L a, sn, rfl, rfl, rfl⟩
    · rintro _ _ ⟨cy, rfl, rfl, h1, h2⟩
      exact oc_rt (d := .obj q.length) (s := st_ cy) (by simp only [E, EE, eEqS, seqS, toS, R.lift, asSeq, asList, asTup, List.replicate, Nat.reduceAdd, Nat.reduceSub, Nat.reduceLeDiff, Nat.reduceLT, Nat.reduceMul, Int.reduceToNat, Int.reduceEq, Int.reduceAdd, Int.reduceSub, Int.reduceNeg, reduceIte, Nat.reduceEqDiff]) ⟨rfl, cy, rfl, h1, h2⟩
  obtain ⟨d, s', e, rfl, cy, rfl, h1, h2⟩ := key
  exact ⟨cy, e, h1, h2⟩
theorem cycles_leftX_ok (nd : (tgs L).Nodup) (pos : ∀ x ∈ tgs L, 0 ≤ x) (hl : L.length ≤ 900) {W : List Int} (hW : W.Nodup) (hWs : ∀ x ∈ W, x ∈ tgs L) (pm : Pm L (lft L W)) {jm : Nat} (hm : q[jm]? = some (.lst (prX (mvR L W)))) :
    ∃ C dn, m_cycles_left_2 A [.dct (kvY L), .obj jm] (sto s q) = .ok (.lst (ojs (q.length + 1) C.length)) (sto s (q ++ [.dct dn] ++ cyO C)) ∧ Cls L (lft L W) (sortI (tgs L)) C ∧ Asc (sortI (tgs L)) C := by
  have hst : ∀ s : Dr, (O A).st s = s.st := fun _ => rfl
  have tl : (tgs L).length = L.length := List.length_map _
  have wl : W.length ≤ L.length := by have := nodup_len hW hWs; omega
  have fl : (lft L W).length ≤ L.length := by have := nodup_len pm.nd (fun x hx => (mem_lft.mp hx).1); omega
  let S0 := sortI (tgs L)
  let E : Sl → Sl → Sl → Sl → Sl → Ev := fun y2 y3 y4 y5 y6 => [.sh (.dct (kvY L)), .sh (.obj jm), y2, y3, y4, y5, y6]
  have sqm : sqS q (.obj jm) = some (true, prX (mvR L W)) := by simp only [sqS, hm]
  have tr : (fnD W fun _ => D.bl true) = mergeP [] ((mvR L W).map fun p => ((.inl p.1 : Key), D.bl true)) := by
    have e : ((mvR L W).map fun p => ((.inl p.1 : Key), D.bl true)) = fnD W fun _ => D.bl true := by
      unfold mvR fnD
      rw [List.map_map]
      rfl
    rw [e, mergeP_nodup _ (by rw [fnD_keys]; exact List.Pairwise.map _ (fun a b hab z => hab (by cases z; rfl)) hW)]
  have dc0 : dc_cycles_left_2_0 A (E .no .no .no .no .no) (sto s q) = .ok (fnD W fun _ => D.bl true) (sto s q) := by
    rw [tr]
    unfold dc_cycles_left_2_0
    exact mDcS_ints (s1 := sto s q) (c := fun l => sqS l (.obj jm) = some (true, prX (mvR L W))) pr3 (·.1) (fun _ => D.bl true) (mvR L W) (by simp only [E, mJS, EE, eEqS, seqS, toS, R.lift, asSeq, asList, asTup, List.replicate, Nat.reduceAdd, Nat.reduceSub, Nat.reduceLeDiff, Nat.reduceLT, Nat.reduceMul, Int.reduceToNat, Int.reduceEq, Int.reduceAdd, Int.reduceSub, Int.reduceNeg, reduceIte, Nat.reduceEqDiff, hst, sto_st, sqm] <;> rfl) sqm (fun p _ => ⟨[.sh (.dct (kvY L)), .sh (.obj jm), .no, .no, .sh (.int p.1), .sh (srD p.2), .no], rfl, by simp only [EE, eEqS, seqS, toS, R.lift, asSeq, asList, asTup, List.replicate, Nat.reduceAdd, Nat.reduceSub, Nat.reduceLeDiff, Nat.reduceLT, Nat.reduceMul, Int.reduceToNat, Int.reduceEq, Int.reduceAdd, Int.reduceSub, Int.reduceNeg, reduceIte, Nat.reduceEqDiff], by simp only [EE, eEqS, seqS, toS, R.lift, asSeq, asList, asTup, List.replicate, Nat.reduceAdd, Nat.reduceSub, Nat.reduceLeDiff, Nat.reduceLT, Nat.reduceMul, Int.reduceToNat, Int.reduceEq, Int.reduceAdd, Int.reduceSub, Int.reduceNeg, reduceIte, Nat.reduceEqDiff]⟩) (by unfold mvR; rw [List.length_map]; omega)
  have sqs : ∀ l, sqS l (.lst (iD S0)) = some (true, iD S0) := fun _ => rfl
  have dk : ∀ l, dcS l (.dct (kvY L)) = some (kvY L) := fun _ => rfl
  have ki := keysI_kvY L
  let Q : D → Dr → Prop := fun d s' => ∃ C dn, d = .lst (ojs (q.length + 1) C.length) ∧ s' = sto s (q ++ [.dct dn] ++ cyO C) ∧ Cls L (lft L W) S0 C ∧ Asc S0 C
  have key : ∃ d s', m_cycles_left_2 A [.dct (kvY L), .obj jm] (sto s q) = .ok d s' ∧ Q d s' := by
    refine oc_run (O := O A) (n := 7) (m := mb_cycles_left_2 A) (Q := Q) ?_
    unfold mb_cycles_left_2
    refine oc_seq (O := O A) (fun ρ s' => ρ = E (.sh (.obj q.length)) .no .no .no .no ∧ sto s (q ++ [.dct (fnD W fun _ => D.bl true)]) = s') (oc_nx (ρ := E (.sh (.obj q.length)) .no .no .no .no) (s := sto s (q ++ [.dct (fnD W fun _ => D.bl true)])) (by
      show mAsg (O A) _ _ (E .no .no .no .no .no) (sto s q) = _
      simp only [mAsg, mObjD, dc0, bind_ok, toS, hst, sto_st, sto_mk]
      rfl) ⟨rfl, rfl⟩) ?_
    rintro _ _ ⟨rfl, rfl⟩
    let st_ : List (Key × D) → List (List Int) → Dr := fun dn C => sto s (q ++ [.dct dn] ++ cyO C)
    have s0 : sto s (q ++ [.dct (fnD W fun _ => D.bl true)]) = st_ (fnD W fun _ => D.bl true) [] := by show _ = sto s (_ ++ []); rw [List.append_nil]
    rw [s0]
    refine oc_seq (O := O A) (fun ρ s' => ρ = E (.sh (.obj q.length)) (.own []) .no .no .no ∧ st_ (fnD W fun _ => D.bl true) [] = s') (oc_nx (by simp only [E, mOwn, mDisp, listMax, EE, eEqS, seqS, toS, R.lift, asSeq, asList, asTup, List.replicate, Nat.reduceAdd, Nat.reduceSub, Nat.reduceLeDiff, Nat.reduceLT, Nat.reduceMul, Int.reduceToNat, Int.reduceEq, Int.reduceAdd, Int.reduceSub, Int.reduceNeg, reduceIte, Nat.reduceEqDiff] <;> rfl) ⟨rfl, rfl⟩) ?_
    rintro _ _ ⟨rfl, rfl⟩
    have it : mJS (O A) (mLst (O A) (mSortDA (O A) (mCons (O A) (mVar (O A) 0) (mNil (O A))))) (E (.sh (.obj q.length)) (.own []) .no .no .no) (st_ (fnD W fun _ => D.bl true) []) = .ok (iD S0, fun l => sqS l (.lst (iD S0)) = some (true, iD S0)) (st_ (fnD W fun _ => D.bl true) []) := by
      simp only [E, st_, mJS, mSortDA, EE, eEqS, seqS, toS, R.lift, asSeq, asList, asTup, List.replicate, Nat.reduceAdd, Nat.reduceSub, Nat.reduceLeDiff, Nat.reduceLT, Nat.reduceMul, Int.reduceToNat, Int.reduceEq, Int.reduceAdd, Int.reduceSub, Int.reduceNeg, reduceIte, Nat.reduceEqDiff, hst, sto_st, dk, ki]
      rfl
    refine oc_seq (O := O A) (fun ρ s' => ∃ C dn y4 y5 y6, ρ = E (.sh (.obj q.length)) (.own (ojs (q.length + 1) C.length)) y4 y5 y6 ∧ s' = st_ dn C ∧ Cls L (lft L W) S0 C ∧ Asc S0 C) ?_ ?_
    · refine oc_forS (O := O A) it (fun i ρ s' => ∃ C dn y4 y5 y6, ρ = E (.sh (.obj q.length)) (.own (ojs (q.length + 1) C.length)) y4 y5 y6 ∧ s' = st_ dn C ∧ Cls L (lft L W) (S0.take i) C ∧ Asc (S0.take i) C ∧ (∀ x, (valP dn (.inl x)).isSome = true ↔ x ∈ W ∨ x ∈ C.flatten) ∧ dn.length ≤ W.length + C.flatten.length) (fun _ _ _ _ => rfl) ?_ ⟨[], _, _, _, _, rfl, rfl, ⟨fun cy h => absurd h List.not_mem_nil, fun x h _ => absurd h List.not_mem_nil, List.nodup_nil⟩, ⟨List.Pairwise.nil, fun cy h => absurd h List.not_mem_nil, fun cy h => absurd h List.not_mem_nil⟩, fun x => ?_, by unfold fnD; rw [List.length_map]; simp⟩ ?_
      · rintro i dd ρ' s' hd ⟨C, dn, y4, y5, y6, rfl, rfl, h, asc, hdn, hdl⟩
        rw [List.getElem?_map, Option.map_eq_some_iff] at hd
        obtain ⟨x, hxi, rfl⟩ := hd
        have hxt : x ∈ tgs L := (sortI_perm (tgs L)).mem_iff.mp (List.mem_of_getElem? hxi)
        have tk : S0.take (i + 1) = S0.take i ++ [x] := by rw [List.take_add_one, hxi]; rfl
        refine ⟨E (.sh (.obj q.length)) (.own (ojs (q.length + 1) C.length)) (.sh (.int x)) y5 y6, rfl, ?_⟩
        have d1 : ∀ C, (q ++ [Ob.dct dn] ++ cyO C)[q.length]? = some (.dct dn) := fun C => by simp
        have dcd : ∀ C, dcS (q ++ [Ob.dct dn] ++ cyO C) (.obj q.length) = some dn := fun C => by simp only [dcS, d1]
        have ins : dInS true (q ++ [Ob.dct dn] ++ cyO C) (.int x) (.obj q.length) = some (.bl (!(valP dn (.inl x)).isSome)) := by
          simp only [dInS, dcd, toKey, Option.map_some, Bool.true_bne]
        unfold bd_cycles_left_2_2
        by_cases hin : (valP dn (.inl x)).isSome = true
        · rw [hin] at ins
          refine oc_if (k := false) (s1 := st_ dn C) (by simp only [E, st_, mBinS, EE, eEqS, seqS, toS, R.lift, asSeq, asList, asTup, List.replicate, Nat.reduceAdd, Nat.reduceSub, Nat.reduceLeDiff, Nat.reduceLT, Nat.reduceMul, Int.reduceToNat, Int.reduceEq, Int.reduceAdd, Int.reduceSub, Int.reduceNeg, reduceIte, Nat.reduceEqDiff, hst, sto_st, ins, dBool]) (fun hk => by cases hk) (fun _ => oc_nx (ρ := E (.sh (.obj q.length)) (.own (ojs (q.length + 1) C.length)) (.sh (.int x)) y5 y6) (s := st_ dn C) rfl ⟨C, dn, _, _, _, rfl, rfl, ?_, ?_, hdn, hdl⟩)
          · rw [tk]
            refine h.skip ?_
            rcases (hdn x).mp hin with z | z
            · exact .inl fun w => (mem_lft.mp w).2 z
            · exact .inr z
          · rw [tk]
            exact asc.more x
        · have hin' : (valP dn (.inl x)).isSome = false := by simpa using hin
          rw [hin'] at ins
          have hno : x ∉ W ∧ x ∉ C.flatten := ⟨fun z => hin ((hdn x).mpr (.inl z)), fun z => hin ((hdn x).mpr (.inr z))⟩
          have hF : x ∈ lft L W := mem_lft.mpr ⟨hxt, hno.1⟩
          obtain ⟨cy, cf, hcy, hhd⟩ := cycle_fromX_ok (A := A) (s := s) (q := q ++ [Ob.dct dn] ++ cyO C) pm (fun x hx => (mem_lft.mp hx).1) pos (by omega) hF
          have add := h.add pm hcy hhd hno.2
          rw [← tk] at add
          have cl := add.len
          rw [List.flatten_append, List.length_append] at cl
          have c1 : [cy].flatten = cy := by simp
          rw [c1] at cl
          have ccl := cls_count h.all
          have ql : (q ++ [Ob.dct dn] ++ cyO C).length = q.length + 1 + C.length := by unfold cyO; rw [List.length_append, List.length_append, List.length_map]; rfl
          have qa : q ++ [Ob.dct dn] ++ cyO C ++ [.lst (iD cy)] = q ++ [Ob.dct dn] ++ cyO (C ++ [cy]) := by unfold cyO; rw [List.map_append, ← List.append_assoc]; rfl
          rw [ql, qa] at cf
          have cf : m_cycle_from_2 A [.dct (kvY L), .int x] (st_ dn C) = .ok (.obj (q.length + 1 + C.length)) (st_ dn (C ++ [cy])) := cf
          have lz : (ojs (q.length + 1) C.length).length < 100000 := by unfold ojs; rw [List.length_map, List.length_range]; omega
          have ap : ojs (q.length + 1) C.length ++ [.obj (q.length + 1 + C.length)] = ojs (q.length + 1) (C ++ [cy]).length := by
            rw [List.length_append, List.length_cons, List.length_nil]
            unfold ojs
            rw [List.range_succ, List.map_append]
            rfl
          have ng : dNeg (.int 1) = some (.int (-1)) := rfl
          have atl : L2.atI (ojs (q.length + 1) (C ++ [cy]).length) (-1) = some (.obj (q.length + 1 + C.length)) := by rw [← ap]; exact at_last
          have sqc : sqS (q ++ [Ob.dct dn] ++ cyO (C ++ [cy])) (.obj (q.length + 1 + C.length)) = some (true, iD cy) := by
            have : (q ++ [Ob.dct dn] ++ cyO (C ++ [cy]))[q.length + 1 + C.length]? = some (.lst (iD cy)) := by
              rw [← qa, ← ql]
              simp
            simp only [sqS, this]
          have nw : mergeP [] (cy.map fun x => ((.inl (id x) : Key), D.bl true)) = fnD cy fun _ => D.bl true := by
            have e : (cy.map fun x => ((.inl (id x) : Key), D.bl true)) = fnD cy fun _ => D.bl true := rfl
            rw [e, mergeP_nodup _ (by rw [fnD_keys]; exact List.Pairwise.map _ (fun a b hab z => hab (by cases z; rfl)) hcy.nd)]
          have dc1 : dc_cycles_left_2_1 A (E (.sh (.obj q.length)) (.own (ojs (q.length + 1) (C ++ [cy]).length)) (.sh (.int x)) y5 y6) (st_ dn (C ++ [cy])) = .ok (fnD cy fun _ => D.bl true) (st_ dn (C ++ [cy])) := by
            rw [← nw]
            unfold dc_cycles_left_2_1
            exact mDcS_ints (s1 := st_ dn (C ++ [cy])) (c := fun l => sqS l (.obj (q.length + 1 + C.length)) = some (true, iD cy)) D.int id (fun _ => D.bl true) cy (by simp only [E, st_, mJS, mIdxO, EE, eEqS, seqS, toS, R.lift, asSeq, asList, asTup, List.replicate, Nat.reduceAdd, Nat.reduceSub, Nat.reduceLeDiff, Nat.reduceLT, Nat.reduceMul, Int.reduceToNat, Int.reduceEq, Int.reduceAdd, Int.reduceSub, Int.reduceNeg, reduceIte, Nat.reduceEqDiff, ng, atl, hst, sto_st, sqc] <;> rfl) sqc (fun p _ => ⟨[.sh (.dct (kvY L)), .sh (.obj jm), .sh (.obj q.length), .own (ojs (q.length + 1) (C ++ [cy]).length), .sh (.int x), y5, .sh (.int p)], rfl, by simp only [EE, eEqS, seqS, toS, R.lift, asSeq, asList, asTup, List.replicate, Nat.reduceAdd, Nat.reduceSub, Nat.reduceLeDiff, Nat.reduceLT, Nat.reduceMul, Int.reduceToNat, Int.reduceEq, Int.reduceAdd, Int.reduceSub, Int.reduceNeg, reduceIte, Nat.reduceEqDiff] <;> rfl, by simp only [EE, eEqS, seqS, toS, R.lift, asSeq, asList, asTup, List.replicate, Nat.reduceAdd, Nat.reduceSub, Nat.reduceLeDiff, Nat.reduceLT, Nat.reduceMul, Int.reduceToNat, Int.reduceEq, Int.reduceAdd, Int.reduceSub, Int.reduceNeg, reduceIte, Nat.reduceEqDiff]⟩) (by omega)
          have fll : (fnD cy fun _ => D.bl true).length = cy.length := by unfold fnD; rw [List.length_map]
          have mlen := merge_len (fnD cy fun _ => D.bl true) dn
          have ok2 : dn.length + (fnD cy fun _ => D.bl true).length ≤ 100000 ∧ apO q.length (.dct (fnD cy fun _ => D.bl true)) = true := ⟨by rw [fll]; omega, rfl⟩
          have dct2 : ∀ l, dcS l (.dct (fnD cy fun _ => D.bl true)) = some (fnD cy fun _ => D.bl true) := fun _ => rfl
          have fin : stPut (O A) (st_ dn (C ++ [cy])) q.length (.dct (mergeP dn (fnD cy fun _ => D.bl true))) = st_ (mergeP dn (fnD cy fun _ => D.bl true)) (C ++ [cy]) := by
            show sto s ((q ++ [_] ++ _).set q.length _) = sto s (q ++ [_] ++ _)
            rw [List.append_assoc, List.set_append_right _ _ (Nat.le_refl _), Nat.sub_self, List.append_assoc]
            rfl
          refine oc_if (k := true) (s1 := st_ dn C) (by simp only [E, st_, mBinS, EE, eEqS, seqS, toS, R.lift, asSeq, asList, asTup, List.replicate, Nat.reduceAdd, Nat.reduceSub, Nat.reduceLeDiff, Nat.reduceLT, Nat.reduceMul, Int.reduceToNat, Int.reduceEq, Int.reduceAdd, Int.reduceSub, Int.reduceNeg, reduceIte, Nat.reduceEqDiff, hst, sto_st, ins, dBool]) (fun _ => ?_) (fun hk => by cases hk)
          refine oc_seq (O := O A) (fun ρ s' => ρ = E (.sh (.obj q.length)) (.own (ojs (q.length + 1) (C ++ [cy]).length)) (.sh (.int x)) y5 y6 ∧ st_ dn (C ++ [cy]) = s') (oc_nx (by simp only [E, mAppend, EE, eEqS, seqS, toS, R.lift, asSeq, asList, asTup, List.replicate, Nat.reduceAdd, Nat.reduceSub, Nat.reduceLeDiff, Nat.reduceLT, Nat.reduceMul, Int.reduceToNat, Int.reduceEq, Int.reduceAdd, Int.reduceSub, Int.reduceNeg, reduceIte, Nat.reduceEqDiff, cf, lz, ap] <;> rfl) ⟨rfl, rfl⟩) ?_
          rintro _ _ ⟨rfl, rfl⟩
          have hq : (st_ dn (C ++ [cy])).st = q ++ [Ob.dct dn] ++ cyO (C ++ [cy]) := rfl
          refine oc_nx (ρ := E (.sh (.obj q.length)) (.own (ojs (q.length + 1) (C ++ [cy]).length)) (.sh (.int x)) y5 y6) (s := st_ (mergeP dn (fnD cy fun _ => D.bl true)) (C ++ [cy])) (by
            simp only [E] at dc1 ⊢
            simp only [mUpdS, mDct, EE, eEqS, seqS, toS, R.lift, asSeq, asList, asTup, List.replicate, Nat.reduceAdd, Nat.reduceSub, Nat.reduceLeDiff, Nat.reduceLT, Nat.reduceMul, Int.reduceToNat, Int.reduceEq, Int.reduceAdd, Int.reduceSub, Int.reduceNeg, reduceIte, Nat.reduceEqDiff, dc1, hst, hq, dcd, Option.isSome_some, d1, dct2, ok2, and_self, fin]) ⟨C ++ [cy], _, _, _, _, rfl, rfl, add, ?_, fun y => ?_, ?_⟩
          · rw [tk]
            refine asc.add (hcy.sub) hhd (fun y hy => ?_) h.cov (fun y hy z => ?_) (fun y hy => ?_)
            · -- what is left of the targets
              have ym : y ∈ S0 := (sortI_perm (tgs L)).mem_iff.mpr (mem_lft.mp (hcy.sub y hy)).1
              rw [← List.take_append_drop i S0] at ym
              exact (List.mem_append.mp ym).imp_right fun z => by
                rw [List.drop_eq_getElem_cons (by have := lt_of_some hxi; exact this)] at z
                have ex : S0[i]'(lt_of_some hxi) = x := by
                  have := hxi
                  rw [List.getElem?_eq_getElem (lt_of_some hxi)] at this
                  exact Option.some.inj this
                rw [ex] at z
                rcases List.mem_cons.mp z with z | z
                · omega
                · exact Int.le_of_lt (sort_after (sortI_lt nd) hxi z)
            · have := h.add pm hcy hhd hno.2
              have dd := this.dis
              rw [List.flatten_append, c1, List.nodup_append] at dd
              exact dd.2.2 y z y hy rfl
            · exact sort_before (sortI_lt nd) hxi hy
          · rw [valP_merge, hdn, fnD_keys, List.flatten_append, List.mem_append, c1]
            have : (.inl y : Key) ∈ cy.map Sum.inl ↔ y ∈ cy := ⟨fun z => by obtain ⟨w, hw, e⟩ := List.mem_map.mp z; cases e; exact hw, fun z => List.mem_map_of_mem z⟩
            rw [this, or_assoc]
          · rw [List.flatten_append, List.length_append, c1]
            omega
      · rw [fnD_val]
        by_cases hx : x ∈ W
        · rw [if_pos hx]; simp [hx]
        · rw [if_neg hx]; simp [hx]
      · rintro ρ' s' ⟨C, dn, y4, y5, y6, rfl, rfl, h, asc, _, _⟩
        rw [List.length_map, List.take_length] at h asc
        exact ⟨C, dn, _, _, _, rfl, rfl, h, asc⟩
    · rintro _ _ ⟨C, dn, y4, y5, y6, rfl, rfl, h⟩
      exact oc_rt (d := .lst (ojs (q.length + 1) C.length)) (s := st_ dn C) (by simp only [E, mFrz, frzE, EE, eEqS, seqS, toS, R.lift, asSeq, asList, asTup, List.replicate, Nat.reduceAdd, Nat.reduceSub, Nat.reduceLeDiff, Nat.reduceLT, Nat.reduceMul, Int.reduceToNat, Int.reduceEq, Int.reduceAdd, Int.reduceSub, Int.reduceNeg, reduceIte, Nat.reduceEqDiff]) ⟨C, dn, rfl, rfl, h⟩
  obtain ⟨d, s', e, C, dn, rfl, rfl, h⟩ := key
  exact ⟨C, dn, e, h⟩
end
end S
namespace S
open PySem PySem.Spec PyProof.Rows L2 RZ Mr
section
variable {A : Ad} {q : List Ob} {s : Dr} {ρ : Ev} {L : Prs} {F : List Int}
theorem prX_int {cs : Prs} (h : ∀ p ∈ cs, -1 ≤ p.2) : prD cs = prX cs := by
  unfold prD prX
  refine List.map_congr_left fun p hp => ?_
  unfold pr2 pr3
  rw [srD_int (h p hp)]
theorem alongX_ok (A : Ad) {s : Dr} {d : D} {cy : List Int} (sq : sqS s.st d = some (true, iD cy)) (hl : cy.length ≤ 2000) (hc : ∀ c ∈ cy, -1 ≤ c) {sv : Int} (hs : -1 ≤ sv) : m_moves_along_2 A [d, .int sv] s = .ok (.lst (prX (alongL cy sv))) s ∧ m_moves_alongN_2 A [d, .int sv] s = .ok (prX (alongL cy sv)) s := by
  have hst : ∀ s : Dr, (O A).st s = s.st := fun _ => rfl
  have ct : Mr.cutD (iD cy) (some 1) none = iD (cy.drop 1) := by
    have := cutI_from (iD cy) 1
    rw [show ((1 : Nat) : Int) = 1 from rfl] at this
    rw [this]
    unfold iD
    rw [List.map_drop]
  have ad : dAdd (.lst (iD (cy.drop 1))) (.lst [.int sv]) = some (.lst (iD (cy.drop 1 ++ [sv]))) := by
    have : iD (cy.drop 1 ++ [sv]) = iD (cy.drop 1) ++ [.int sv] := iD_snoc _ _
    rw [this]
    exact add_lst (by rw [List.length_map, List.length_drop]; simp; omega)
  have pe : prD (alongL cy sv) = prX (alongL cy sv) := prX_int fun p hp => by
    unfold alongL at hp
    have := (List.of_mem_zip hp).2
    rcases List.mem_append.mp this with z | z
    · exact hc _ (List.mem_of_mem_drop z)
    · rw [List.mem_singleton] at z
      omega
  have dz : dZipS s.st [d, .lst (iD (cy.drop 1 ++ [sv]))] = some (prX (alongL cy sv)) := by
    have s2 : sqS s.st (.lst (iD (cy.drop 1 ++ [sv]))) = some (true, iD (cy.drop 1 ++ [sv])) := rfl
    simp only [dZipS, sq, s2, Option.bind_some, Option.map_some]
    rw [← pe, zipD_pr]
    rfl
  constructor
  · simp only [m_moves_along_2, mb_moves_along_2, mZipLS, mSliceS, EE, eEqS, seqS, toS, R.lift, asSeq, asList, asTup, List.replicate, Nat.reduceAdd, Nat.reduceSub, Nat.reduceLeDiff, Nat.reduceLT, Nat.reduceMul, Int.reduceToNat, Int.reduceEq, Int.reduceAdd, Int.reduceSub, Int.reduceNeg, reduceIte, Nat.reduceEqDiff, hst, sq, ct, ad, dz]
  · simp only [m_moves_alongN_2, mb_moves_alongN_2, Mr.runN, mRetNew, mZipLS, mSliceS, EE, eEqS, seqS, toS, R.lift, asSeq, asList, asTup, List.replicate, Nat.reduceAdd, Nat.reduceSub, Nat.reduceLeDiff, Nat.reduceLT, Nat.reduceMul, Int.reduceToNat, Int.reduceEq, Int.reduceAdd, Int.reduceSub, Int.reduceNeg, reduceIte, Nat.reduceEqDiff, hst, sq, ct, ad, dz]
/-- a cell among the copies -/
theorem inC_of {hf : Key → Int} {l : List Ob} {j : Nat} {cp : List (Key × Int)} (h : l[j]? = some (.dcX hf (mxD cp))) {c : Int} (hc : -1 ≤ c) : dInX hf l (.int c) (.obj j) = some (.bl (valP cp (.inl c)).isSome) ∧ idxX hf l (.obj j) (.int c) = (valP cp (.inl c)).map D.int := by
  have e := dcX_at (hf := hf) h
  have k : srK c = .inl c := if_pos hc
  have v := mxD_val (.inl c) cp
  have v : valN (mxD cp) (srK c) = (valP cp (.inl c)).map D.int := v
  rw [k] at v
  constructor
  · unfold dInX
    rw [e]
    show some (D.bl (valN (mxD cp) (.inl c)).isSome) = _
    rw [v, Option.isSome_map]
  · unfold idxX
    rw [e]
    exact v
theorem lc_planX_ok (A : Ad) {cp : List (Key × Int)} {cy : List Int} {jc j5 : Nat} (hc : q[jc]? = some (.dcX A.hw (mxD cp))) (h5 : q[j5]? = some (.lst (iD cy))) (hp : ∀ c ∈ cy, -1 ≤ c) (hl : cy.length ≤ 1000) {x0 x1 x2 x4 x6 x7 x8 x9 : Sl} :
    lc_plan_2_0 A [x0, x1, x2, .sh (.obj jc), x4, .sh (.obj j5), x6, x7, x8, x9] (sto s q) = .ok ((posL cp cy).map fun p => .int (p.2 : Nat)) (sto s q) := by
  have hst : ∀ s : Dr, (O A).st s = s.st := fun _ => rfl
  have sq : sqS q (.obj j5) = some (true, iD cy) := by simp only [sqS, h5]
  have en : enumD (iD cy) = cy.zipIdx.map fun p => D.tup [.int (p.2 : Nat), .int p.1] := by
    unfold enumD iD
    rw [List.zipIdx_map, List.map_map]
    rfl
  unfold lc_plan_2_0 posL
  refine mLcS_fm (O := O A) (s1 := sto s q) (c := fun l => sqS l (.obj j5) = some (true, iD cy)) (fun (p : Int × Nat) => D.tup [.int (p.2 : Nat), .int p.1]) (fun p => (valP cp (.inl p.1)).isSome) (fun p => D.int (p.2 : Nat)) cy.zipIdx (by simp only [mJE, EE, eEqS, seqS, toS, R.lift, asSeq, asList, asTup, List.replicate, Nat.reduceAdd, Nat.reduceSub, Nat.reduceLeDiff, Nat.reduceLT, Nat.reduceMul, Int.reduceToNat, Int.reduceEq, Int.reduceAdd, Int.reduceSub, Int.reduceNeg, reduceIte, Nat.reduceEqDiff, hst, sto_st, sq, en]) sq (fun p hpm => ?_) (by rw [List.length_zipIdx]; omega)
  have ins := (inC_of (hf := A.hw) hc (hp p.1 (List.mem_of_getElem? (List.mk_mem_zipIdx_iff_getElem?.mp (show (p.1, p.2) ∈ cy.zipIdx from hpm))))).1
  exact ⟨[x0, x1, x2, .sh (.obj jc), x4, .sh (.obj j5), x6, x7, .sh (.int (p.2 : Nat)), .sh (.int p.1)], rfl, by simp only [mBinS, EE, eEqS, seqS, toS, R.lift, asSeq, asList, asTup, List.replicate, Nat.reduceAdd, Nat.reduceSub, Nat.reduceLeDiff, Nat.reduceLT, Nat.reduceMul, Int.reduceToNat, Int.reduceEq, Int.reduceAdd, Int.reduceSub, Int.reduceNeg, reduceIte, Nat.reduceEqDiff, hst, sto_st, ins, dBool], fun _ => by simp only [EE, eEqS, seqS, toS, R.lift, asSeq, asList, asTup, List.replicate, Nat.reduceAdd, Nat.reduceSub, Nat.reduceLeDiff, Nat.reduceLT, Nat.reduceMul, Int.reduceToNat, Int.reduceEq, Int.reduceAdd, Int.reduceSub, Int.reduceNeg, reduceIte, Nat.reduceEqDiff]⟩
/-- the closed cycles, by their places -/
def clK (cp : List (Key × Int)) (C : List (List Int)) (n : Nat) : List D := (C.zipIdx.filter fun p => clB cp p.1).map fun p => .obj (n + p.2)
theorem clK_snoc (cp : List (Key × Int)) (C : List (List Int)) (cy : List Int) (n : Nat) : clK cp (C ++ [cy]) n = if clB cp cy = true then clK cp C n ++ [.obj (n + C.length)] else clK cp C n := by
  unfold clK
  rw [List.zipIdx_append, List.filter_append, List.map_append]
  simp only [List.zipIdx_cons, List.zipIdx_nil, List.filter_cons, List.filter_nil, Nat.zero_add]
  split <;> simp
theorem clK_len (cp : List (Key × Int)) (C : List (List Int)) (n : Nat) : (clK cp C n).length ≤ C.length := by
  unfold clK
  rw [List.length_map]
  have := List.length_filter_le (fun p : List Int × Nat => clB cp p.1) C.zipIdx
  rw [List.length_zipIdx] at this
  exact this
theorem zipIdx_lt {α : Type} : ∀ (l : List α) (k : Nat), (l.zipIdx k).Pairwise fun a b => a.2 < b.2
  | [], _ => .nil
  | x :: l, k => by
    rw [List.zipIdx_cons]
    refine List.pairwise_cons.mpr ⟨fun b hb => ?_, zipIdx_lt l (k + 1)⟩
    have := List.le_snd_of_mem_zipIdx hb
    show k < b.2
    omega
structure AddX (cp : List (Key × Int)) (cy : List Int) (ms : Prs) : Prop where
  cl : clB cp cy = true → ∃ c0, cy[0]? = some c0 ∧ ms = (-1, c0) :: alongL cy (-1)
  op : clB cp cy = false → ∃ (i : Nat) (c sv : Int), cy[i]? = some c ∧ valP cp (.inl c) = some sv ∧ (∀ j < i, ∀ d, cy[j]? = some d → valP cp (.inl d) = none) ∧ ms = alongL (cy.drop i ++ cy.take i) sv
theorem AddX.add {cp : List (Key × Int)} {cy : List Int} {ms : Prs} (h : AddX cp cy ms) : Add cp cy ms := ⟨h.cl, fun z => by
  obtain ⟨i, c, sv, a, b, _, d⟩ := h.op z
  exact ⟨i, c, sv, a, b, d⟩⟩
/-- the moves of all cycles -/
inductive AddsX (cp : List (Key × Int)) : List (List Int) → Prs → Prop
  | nil : AddsX cp [] []
  | snoc {C : List (List Int)} {ms : Prs} {cy : List Int} {m : Prs} : AddsX cp C ms → AddX cp cy m → AddsX cp (C ++ [cy]) (ms ++ m)
theorem AddsX.adds {cp : List (Key × Int)} {C : List (List Int)} {ms : Prs} (h : AddsX cp C ms) : Adds cp C ms := by
  induction h with
  | nil => exact .nil
  | snoc _ h2 ih => exact ih.snoc h2.add
theorem AddsX.len {cp : List (Key × Int)} {C : List (List Int)} {ms : Prs} (h : AddsX cp C ms) (hne : ∀ cy ∈ C, cy ≠ []) : ms.length = C.flatten.length + (C.filter (clB cp)).length := h.adds.len hne
theorem AddsX.inv {cp : List (Key × Int)} {C : List (List Int)} {ms : Prs} (h : AddsX cp C ms) : (C = [] ∧ ms = []) ∨ ∃ C0 cy m0 m, C = C0 ++ [cy] ∧ ms = m0 ++ m ∧ AddsX cp C0 m0 ∧ AddX cp cy m := by
  cases h with
  | nil => exact .inl ⟨rfl, rfl⟩
  | snoc a b => exact .inr ⟨_, _, _, _, rfl, rfl, a, b⟩
theorem planX_ok (nd : (tgs L).Nodup) (pos : ∀ x ∈ tgs L, 0 ≤ x) (hl : L.length ≤ 400) {pd : D} (sL0 : ∀ s, m_sources_of A [pd] s = .ok (.dct (kvY L)) s) : ∃ W cp C ms e, Out2 L W W.length cp ∧ Cls L (lft L W) (sortI (tgs L)) C ∧ Asc (sortI (tgs L)) C ∧ AddsX cp C ms ∧ m_plan_2 A [pd] (sto s q) = .ok (.tup [.obj (q.length + 1), .obj (q.length + 3)]) (sto s (q ++ e)) ∧
    (q ++ e)[q.length + 1]? = some (.lst (prX (mvR L W ++ ms))) ∧ (q ++ e)[q.length + 3]? = some (.lst (clK cp C (q.length + 5))) ∧ (∀ i cy, C[i]? = some cy → (q ++ e)[q.length + 5 + i]? = some (.lst (iD cy))) ∧ (mvR L W ++ ms).length ≤ 2000 ∧ e.length = 5 + C.length := by
  have hst : ∀ s : Dr, (O A).st s = s.st := fun _ => rfl
  obtain ⟨W, cp, cs, h1, e1, hcp⟩ := outsideX_ok (A := A) (q := q) (s := s) nd pos (by omega)
  have pm := left_pm nd h1.toOut1
  have wl := h1.len
  have fl : (lft L W).length ≤ L.length := by
    have := nodup_len pm.nd (fun x hx => (mem_lft.mp hx).1)
    unfold tgs at this
    rw [List.length_map] at this
    exact this
  obtain ⟨q1, hq1⟩ : ∃ q1, q ++ [cs, .lst (prX (mvR L W)), .dcX A.hw (mxD cp)] = q1 := ⟨_, rfl⟩
  have m1 : q1[q.length + 1]? = some (.lst (prX (mvR L W))) := by rw [← hq1]; exact g3_1
  have c1 : q1[q.length + 2]? = some (.dcX A.hw (mxD cp)) := by rw [← hq1]; exact g3_2
  rw [hq1] at e1
  have l1 : q1.length = q.length + 3 := by rw [← hq1]; simp
  have m1' : (q1 ++ [Ob.lst []])[q.length + 1]? = some (.lst (prX (mvR L W))) := by rw [List.getElem?_append_left (by omega)]; exact m1
  have c1' : (q1 ++ [Ob.lst []])[q.length + 2]? = some (.dcX A.hw (mxD cp)) := by rw [List.getElem?_append_left (by omega)]; exact c1
  obtain ⟨C, dn, e2, h2, asc⟩ := cycles_leftX_ok (A := A) (s := s) (q := q1 ++ [.lst []]) nd pos (by omega) h1.nd h1.sub pm m1'
  have l2 : (q1 ++ [Ob.lst []]).length = q.length + 4 := by rw [List.length_append, l1]; rfl
  rw [l2] at e2
  have cpos : ∀ cy ∈ C, ∀ c ∈ cy, 0 ≤ c := fun cy hc c hcc => pos c (mem_lft.mp ((h2.all cy hc).sub c hcc)).1
  have cl := h2.len
  have ccl := cls_count h2.all
  have cne : ∀ cy ∈ C, cy ≠ [] := fun cy hc z => by
    obtain ⟨x0, ys, a, e, _⟩ := (h2.all cy hc).ch
    rw [z] at e
    simp at e
  have cyl : ∀ cy ∈ C, cy.length ≤ L.length := fun cy hc => by
    have := nodup_len (h2.all cy hc).nd (h2.all cy hc).sub
    omega
  let jm := q.length + 1
  let jc := q.length + 2
  let jl := q.length + 3
  have jmc : jm ≠ jc := by show q.length + 1 ≠ q.length + 2; omega
  have jlm : jl ≠ jm := by show q.length + 3 ≠ q.length + 1; omega
  have jlc : jl ≠ jc := by show q.length + 3 ≠ q.length + 2; omega
  let E : Sl → Sl → Sl → Sl → Sl → Ev := fun y5 y6 y7 y8 y9 => [.sh pd, .sh (.dct (kvY L)), .sh (.obj jm), .sh (.obj jc), .sh (.obj jl), y5, y6, y7, y8, y9]
  have ft : fTup 2 (fCons (fName 2) (fCons (fName 3) fNil)) (.tup [.obj jm, .obj jc]) [.sh pd, .sh (.dct (kvY L)), .no, .no, .no, .no, .no, .no, .no, .no] = some [.sh pd, .sh (.dct (kvY L)), .sh (.obj jm), .sh (.obj jc), .no, .no, .no, .no, .no, .no] := rfl
  let q2 := q1 ++ [Ob.lst []] ++ [Ob.dct dn] ++ cyO C
  have ql2 : q2.length = q.length + 5 + C.length := by show (q1 ++ [Ob.lst []] ++ [Ob.dct dn] ++ cyO C).length = _; unfold cyO; rw [List.length_append, List.length_append, l2, List.length_map]; rfl
  have lq2 : q2[jl]? = some (.lst []) := by
    show (q1 ++ [Ob.lst []] ++ [Ob.dct dn] ++ cyO C)[q.length + 3]? = _
    rw [List.append_assoc, List.append_assoc, List.getElem?_append_right (by omega), l1, Nat.sub_self]
    rfl
  have oq2 : ∀ (i : Nat) cy, C[i]? = some cy → q2[q.length + 5 + i]? = some (.lst (iD cy)) := fun i cy hi => by
    show (q1 ++ [Ob.lst []] ++ [Ob.dct dn] ++ cyO C)[q.length + 5 + i]? = _
    have l3 : (q1 ++ [Ob.lst []] ++ [Ob.dct dn]).length = q.length + 5 := by rw [List.length_append, l2]; rfl
    rw [List.getElem?_append_right (by omega), l3, Nat.add_sub_cancel_left]
    unfold cyO
    rw [List.getElem?_map, hi]
    rfl
  have mq2 : q2[jm]? = some (.lst (prX (mvR L W))) := by show (q1 ++ [Ob.lst []] ++ [Ob.dct dn] ++ cyO C)[_]? = _; rw [List.append_assoc, List.getElem?_append_left (lt_of_some m1')]; exact m1'
  have cq2 : q2[jc]? = some (.dcX A.hw (mxD cp)) := by show (q1 ++ [Ob.lst []] ++ [Ob.dct dn] ++ cyO C)[_]? = _; rw [List.append_assoc, List.getElem?_append_left (lt_of_some c1')]; exact c1'
  have mvl : (mvR L W).length = W.length := List.length_map _
  let Q : D → Dr → Prop := fun d s' => ∃ ms, d = .tup [.obj jm, .obj jl] ∧ s' = sto s ((q2.set jm (.lst (prX (mvR L W ++ ms)))).set jl (.lst (clK cp C (q.length + 5)))) ∧ AddsX cp C ms
  have key : ∃ d s', m_plan_2 A [pd] (sto s q) = .ok d s' ∧ Q d s' := by
    refine oc_run (O := O A) (n := 10) (m := mb_plan_2 A) (Q := Q) ?_
    unfold mb_plan_2
    refine oc_seq (O := O A) (fun ρ s' => ρ = [.sh pd, .sh (.dct (kvY L)), .no, .no, .no, .no, .no, .no, .no, .no] ∧ sto s q = s') (oc_nx (by simp only [EE, eEqS, seqS, toS, R.lift, asSeq, asList, asTup, List.replicate, Nat.reduceAdd, Nat.reduceSub, Nat.reduceLeDiff, Nat.reduceLT, Nat.reduceMul, Int.reduceToNat, Int.reduceEq, Int.reduceAdd, Int.reduceSub, Int.reduceNeg, reduceIte, Nat.reduceEqDiff, sL0] <;> rfl) ⟨rfl, rfl⟩) ?_
    rintro _ _ ⟨rfl, rfl⟩
    refine oc_seq (O := O A) (fun ρ s' => ρ = [.sh pd, .sh (.dct (kvY L)), .sh (.obj jm), .sh (.obj jc), .no, .no, .no, .no, .no, .no] ∧ sto s q1 = s') (oc_nx (by simp only [EE, eEqS, seqS, toS, R.lift, asSeq, asList, asTup, List.replicate, Nat.reduceAdd, Nat.reduceSub, Nat.reduceLeDiff, Nat.reduceLT, Nat.reduceMul, Int.reduceToNat, Int.reduceEq, Int.reduceAdd, Int.reduceSub, Int.reduceNeg, reduceIte, Nat.reduceEqDiff, e1]; rfl) ⟨rfl, rfl⟩) ?_
    rintro _ _ ⟨rfl, rfl⟩
    refine oc_seq (O := O A) (fun ρ s' => ρ = E .no .no .no .no .no ∧ sto s (q1 ++ [.lst []]) = s') (oc_nx (ρ := E .no .no .no .no .no) (s := sto s (q1 ++ [.lst []])) (by simp only [E, mObjL, mDisp, listMax, EE, eEqS, seqS, toS, R.lift, asSeq, asList, asTup, List.replicate, Nat.reduceAdd, Nat.reduceSub, Nat.reduceLeDiff, Nat.reduceLT, Nat.reduceMul, Int.reduceToNat, Int.reduceEq, Int.reduceAdd, Int.reduceSub, Int.reduceNeg, reduceIte, Nat.reduceEqDiff, hst, sto_st, sto_mk, l1] <;> rfl) ⟨rfl, rfl⟩) ?_
    rintro _ _ ⟨rfl, rfl⟩
    have e2' : m_cycles_left_2 A [.dct (kvY L), .obj jm] (sto s (q1 ++ [.lst []])) = .ok (.lst (ojs (q.length + 5) C.length)) (sto s q2) := e2
    have sqC : ∀ l, sqS l (.lst (ojs (q.length + 5) C.length)) = some (true, ojs (q.length + 5) C.length) := fun _ => rfl
    have it : mJS (O A) (mCall (O A) 2 (m_cycles_left_2 A) (mCons (O A) (mVar (O A) 1) (mCons (O A) (mVar (O A) 2) (mNil (O A))))) (E .no .no .no .no .no) (sto s (q1 ++ [.lst []])) = .ok (ojs (q.length + 5) C.length, fun l => sqS l (.lst (ojs (q.length + 5) C.length)) = some (true, ojs (q.length + 5) C.length)) (sto s q2) := by
      simp only [E, mJS, EE, eEqS, seqS, toS, R.lift, asSeq, asList, asTup, List.replicate, Nat.reduceAdd, Nat.reduceSub, Nat.reduceLeDiff, Nat.reduceLT, Nat.reduceMul, Int.reduceToNat, Int.reduceEq, Int.reduceAdd, Int.reduceSub, Int.reduceNeg, reduceIte, Nat.reduceEqDiff, e2', hst, sto_st, sqC]
    let st_ : Prs → List D → Dr := fun ms K => sto s ((q2.set jm (.lst (prX (mvR L W ++ ms)))).set jl (.lst K))
    have self_ : ∀ {j : Nat} {o : Ob}, q2[j]? = some o → q2.set j o = q2 := fun {j o} h => by
      have hl := lt_of_some h
      rw [List.getElem?_eq_getElem hl] at h
      rw [← Option.some.inj h]
      exact List.set_getElem_self hl
    have s0 : sto s q2 = st_ [] [] := by
      show sto s q2 = sto s ((q2.set jm _).set jl _)
      congr 1
      rw [List.append_nil, self_ mq2, self_ lq2]
    refine oc_seq (O := O A) (fun ρ s' => ∃ ms y5 y6 y7 y8 y9, ρ = E y5 y6 y7 y8 y9 ∧ s' = st_ ms (clK cp C (q.length + 5)) ∧ AddsX cp C ms) ?_ ?_
    · refine oc_forS (O := O A) it (fun i ρ s' => ∃ ms y5 y6 y7 y8 y9, ρ = E y5 y6 y7 y8 y9 ∧ s' = st_ ms (clK cp (C.take i) (q.length + 5)) ∧ AddsX cp (C.take i) ms) (fun _ _ _ _ => rfl) ?_ ⟨[], _, _, _, _, _, rfl, s0, .nil⟩ ?_
      · rintro i dd ρ' s' hd ⟨ms, y5, y6, y7, y8, y9, rfl, rfl, ha⟩
        have hik : i < C.length := by
          have := lt_of_some hd
          unfold ojs at this
          rw [List.length_map, List.length_range] at this
          exact this
        have ed : dd = .obj (q.length + 5 + i) := by
          unfold ojs at hd
          rw [List.getElem?_map, List.getElem?_range hik] at hd
          exact (Option.some.inj hd).symm
        subst ed
        obtain ⟨cy, hci⟩ : ∃ cy, C[i]? = some cy := ⟨_, List.getElem?_eq_getElem hik⟩
        obtain ⟨K, hK⟩ : ∃ K, clK cp (C.take i) (q.length + 5) = K := ⟨_, rfl⟩
        have hKl : K.length ≤ C.length := by
          rw [← hK]
          have := clK_len cp (C.take i) (q.length + 5)
          rw [List.length_take] at this
          omega
        rw [hK]
        let jy := q.length + 5 + i
        have jym : jm ≠ jy := by show q.length + 1 ≠ q.length + 5 + i; omega
        have jyl : jl ≠ jy := by show q.length + 3 ≠ q.length + 5 + i; omega
        have hcm := List.mem_of_getElem? hci
        have tk : C.take (i + 1) = C.take i ++ [cy] := by rw [List.take_add_one, hci]; rfl
        have cyL := cyl cy hcm
        have kn : clK cp (C.take (i + 1)) (q.length + 5) = if clB cp cy = true then K ++ [.obj jy] else K := by
          rw [tk, clK_snoc, hK, List.length_take, Nat.min_eq_left (Nat.le_of_lt hik)]
        refine ⟨E (.sh (.obj jy)) y6 y7 y8 y9, rfl, ?_⟩
        have hmsl := ha.len fun c hc => cne c (List.mem_of_mem_take hc)
        have tkl : (C.take i).flatten.length ≤ C.flatten.length := by
          have : C.flatten = (C.take i).flatten ++ (C.drop i).flatten := by rw [← List.flatten_append, List.take_append_drop]
          have := congrArg List.length this
          rw [List.length_append] at this
          omega
        have tkf : ((C.take i).filter (clB cp)).length ≤ C.length := by
          have := List.length_filter_le (clB cp) (C.take i)
          rw [List.length_take] at this
          omega
        let qs := (q2.set jm (Ob.lst (prX (mvR L W ++ ms)))).set jl (.lst K)
        have hq : (st_ ms K).st = qs := rfl
        have sl2 : (q2.set jm (Ob.lst (prX (mvR L W ++ ms)))).length = q2.length := List.length_set
        have mst : qs[jm]? = some (.lst (prX (mvR L W ++ ms))) := by
          show ((q2.set jm _).set jl _)[jm]? = _
          rw [List.getElem?_set_ne jlm]
          exact List.getElem?_set_self (lt_of_some mq2)
        have lst_ : qs[jl]? = some (.lst K) := List.getElem?_set_self (by rw [sl2]; exact lt_of_some lq2)
        have cst : qs[jc]? = some (.dcX A.hw (mxD cp)) := by
          show ((q2.set jm _).set jl _)[jc]? = _
          rw [List.getElem?_set_ne jlc, List.getElem?_set_ne jmc]
          exact cq2
        have yst : qs[jy]? = some (.lst (iD cy)) := by
          show ((q2.set jm _).set jl _)[jy]? = _
          rw [List.getElem?_set_ne jyl, List.getElem?_set_ne jym]
          exact oq2 i cy hci
        have cge : ∀ c ∈ cy, -1 ≤ c := fun c hc => by have := cpos cy hcm c hc; omega
        have pl : (prX (mvR L W ++ ms)).length ≤ 3000 := by unfold prX; rw [List.length_map, List.length_append, mvl]; omega
        have fin : ∀ (m : Prs) (K : List D), stPut (O A) (st_ ms K) jm (.lst (prX (mvR L W ++ ms) ++ prX m)) = st_ (ms ++ m) K := fun m K => by
          show sto s (((q2.set jm _).set jl _).set jm _) = sto s ((q2.set jm _).set jl _)
          rw [List.set_comm _ _ jlm, List.set_set, ← List.append_assoc]
          unfold prX
          rw [List.map_append (l₁ := mvR L W ++ ms)]
        have lc := lc_planX_ok A (s := s) (cy := cy) (x0 := .sh pd) (x1 := .sh (.dct (kvY L))) (x2 := .sh (.obj jm)) (x4 := .sh (.obj jl)) (x6 := y6) (x7 := y7) (x8 := y8) (x9 := y9) cst yst cge (by omega)
        unfold bd_plan_2_1
        let S6 : Sl := .sh (.lst ((posL cp cy).map fun p => .int (p.2 : Nat)))
        refine oc_seq (O := O A) (fun ρ s' => ρ = E (.sh (.obj jy)) S6 y7 y8 y9 ∧ st_ ms K = s') (oc_nx (by
          show mAsg (O A) (mLst (O A) (lc_plan_2_0 A)) (fName 6) (E (.sh (.obj jy)) y6 y7 y8 y9) (sto s qs) = _
          simp only [E, mAsg, mLst, lc, bind_ok, toS]
          rfl) ⟨rfl, rfl⟩) ?_
        rintro _ _ ⟨rfl, rfl⟩
        have l6 : ∀ l, dLenS l [.lst ((posL cp cy).map fun p => D.int (p.2 : Nat))] = some (.int ((posL cp cy).length : Int)) := fun l => by simp [dLenS, sqS]
        by_cases hcl : clB cp cy = true
        · have p0 := pos_nil.mpr hcl
          have g0 : ¬ (0 : Int) < ((posL cp cy).length : Int) := by rw [p0]; simp
          obtain ⟨c0, hc0⟩ : ∃ c0, cy[0]? = some c0 := by
            cases cy with
            | nil => exact absurd rfl (cne _ hcm)
            | cons c cy => exact ⟨c, rfl⟩
          rw [if_pos hcl] at kn
          let qs2 := (q2.set jm (Ob.lst (prX (mvR L W ++ ms)))).set jl (.lst (K ++ [.obj jy]))
          have hq2 : (st_ ms (K ++ [.obj jy])).st = qs2 := rfl
          have la : lApp K [.obj jy] = some (.non, K ++ [.obj jy]) := by
            show (if K.length < 100000 then some (D.non, K ++ [.obj jy]) else none) = _
            rw [if_pos (by omega)]
          have fl1 : stPut (O A) (st_ ms K) jl (.lst (K ++ [.obj jy])) = st_ ms (K ++ [.obj jy]) := by
            show sto s (((q2.set jm _).set jl _).set jl _) = sto s ((q2.set jm _).set jl _)
            rw [List.set_set]
          have mst2 : qs2[jm]? = some (.lst (prX (mvR L W ++ ms))) := by
            show ((q2.set jm _).set jl _)[jm]? = _
            rw [List.getElem?_set_ne jlm]
            exact List.getElem?_set_self (lt_of_some mq2)
          have yst2 : qs2[jy]? = some (.lst (iD cy)) := by
            show ((q2.set jm _).set jl _)[jy]? = _
            rw [List.getElem?_set_ne jyl, List.getElem?_set_ne jym]
            exact oq2 i cy hci
          have sqy : sqS qs2 (.obj jy) = some (true, iD cy) := by simp only [sqS, yst2]
          have ix0 : dIdxS qs2 (.obj jy) (.int 0) = some (.int c0) := by
            have d0 : dcS qs2 (.obj jy) = none := by simp only [dcS, yst2]
            show (match dcS qs2 (.obj jy) with | some kvs => _ | none => _) = _
            rw [d0]
            simp only [sqS, yst2]
            show atI (iD cy) 0 = _
            unfold atI ixN
            have hl0 := lt_of_some hc0
            rw [if_pos (by decide), if_pos (by rw [List.length_map]; omega)]
            have : ((0 : Int)).toNat = 0 := rfl
            simp only [Option.bind_some, this, iD, List.getElem?_map, hc0, Option.map_some]
          have ks : k_SCRATCH = .int (-1) := rfl
          have al := (alongX_ok A (s := st_ ms (K ++ [D.obj jy])) (d := .obj jy) (cy := cy) (sv := -1) sqy (by omega) cge (by decide)).1
          have all : (prX (alongL cy (-1))).length ≤ 1000 := by unfold prX; rw [List.length_map, along_len (cne cy hcm)]; omega
          have cat : 1 + (prX (alongL cy (-1))).length ≤ 100000 := by omega
          have ext : (prX (mvR L W ++ ms)).length + (prX ((-1, c0) :: alongL cy (-1))).length ≤ 100000 := by
            have : (prX ((-1, c0) :: alongL cy (-1))).length = (prX (alongL cy (-1))).length + 1 := by unfold prX; rw [List.length_map, List.length_map]; rfl
            omega
          have c0m : srD c0 = .int c0 := srD_int (cge c0 (List.mem_of_getElem? hc0))
          have pe : [D.tup [.int (-1), .int c0]] ++ prX (alongL cy (-1)) = prX ((-1, c0) :: alongL cy (-1)) := by
            show _ = pr3 (-1, c0) :: prX (alongL cy (-1))
            unfold pr3
            rw [c0m]
            rfl
          refine oc_if (k := false) (s1 := st_ ms K) (by simp only [E, S6, mClS, EE, eEqS, seqS, toS, R.lift, asSeq, asList, asTup, List.replicate, Nat.reduceAdd, Nat.reduceSub, Nat.reduceLeDiff, Nat.reduceLT, Nat.reduceMul, Int.reduceToNat, Int.reduceEq, Int.reduceAdd, Int.reduceSub, Int.reduceNeg, reduceIte, Nat.reduceEqDiff, hst, l6, g0]) (fun hk => by cases hk) (fun _ => ?_)
          refine oc_seq (O := O A) (fun ρ s' => ρ = E (.sh (.obj jy)) S6 y7 y8 y9 ∧ st_ ms (K ++ [.obj jy]) = s') (oc_nx (by simp only [E, mDrop, mMutL, EE, eEqS, seqS, toS, R.lift, asSeq, asList, asTup, List.replicate, Nat.reduceAdd, Nat.reduceSub, Nat.reduceLeDiff, Nat.reduceLT, Nat.reduceMul, Int.reduceToNat, Int.reduceEq, Int.reduceAdd, Int.reduceSub, Int.reduceNeg, reduceIte, Nat.reduceEqDiff, hst, hq, lst_, la, fl1] <;> rfl) ⟨rfl, rfl⟩) ?_
          rintro _ _ ⟨rfl, rfl⟩
          refine oc_nx (ρ := E (.sh (.obj jy)) S6 y7 y8 y9) (s := st_ (ms ++ ((-1, c0) :: alongL cy (-1))) (K ++ [.obj jy])) (by
            have dl : ∀ x, dList [x] = some (.lst [x]) := fun _ => rfl
            simp only [E, mDrop, mExtS, mCatN, mIdxS, mBinS, EE, eEqS, seqS, toS, R.lift, asSeq, asList, asTup, List.replicate, Nat.reduceAdd, Nat.reduceSub, Nat.reduceLeDiff, Nat.reduceLT, Nat.reduceMul, Int.reduceToNat, Int.reduceEq, Int.reduceAdd, Int.reduceSub, Int.reduceNeg, reduceIte, Nat.reduceEqDiff, hst, hq2, mst2, ks, ix0, dl, al, cat, ext, pe, fin]) ⟨ms ++ ((-1, c0) :: alongL cy (-1)), _, _, _, _, _, rfl, by rw [kn], ?_⟩
          rw [tk]
          exact ha.snoc ⟨fun _ => ⟨c0, hc0, rfl⟩, fun z => by rw [hcl] at z; cases z⟩
        · have hcl' : clB cp cy = false := by simpa using hcl
          have pne : posL cp cy ≠ [] := fun z => hcl (pos_nil.mp z)
          obtain ⟨p, ps, hps⟩ : ∃ p ps, posL cp cy = p :: ps := by
            cases h : posL cp cy with
            | nil => exact absurd h pne
            | cons p ps => exact ⟨p, ps, rfl⟩
          have hpm : p ∈ posL cp cy := by rw [hps]; exact List.mem_cons_self
          unfold posL at hpm
          obtain ⟨hz, hv⟩ := List.mem_filter.mp hpm
          have hcp2 := List.mk_mem_zipIdx_iff_getElem?.mp (show (p.1, p.2) ∈ cy.zipIdx from hz)
          obtain ⟨sv, hsv⟩ := Option.isSome_iff_exists.mp hv
          have hlt := lt_of_some hcp2
          have g0 : (0 : Int) < ((posL cp cy).length : Int) := by rw [hps]; simp
          rw [if_neg hcl] at kn
          have sqc : sqS qs (.obj jy) = some (true, iD cy) := by simp only [sqS, yst]
          have i0 : ∀ l, dIdxS l (.lst ((posL cp cy).map fun p => D.int (p.2 : Nat))) (.int 0) = some (.int (p.2 : Nat)) := fun l => by
            rw [hps]
            exact at0 _ _
          have ct1 : Mr.cutD (iD cy) (some (p.2 : Int)) none = iD (cy.drop p.2) := by rw [cutI_from]; unfold iD; rw [List.map_drop]
          have ct2 : Mr.cutD (iD cy) none (some (p.2 : Int)) = iD (cy.take p.2) := by rw [cut_take]; unfold iD; rw [List.map_take]
          have opl : (cy.drop p.2 ++ cy.take p.2).length = cy.length := by rw [List.length_append, List.length_drop, List.length_take]; omega
          have ad : dAdd (.lst (iD (cy.drop p.2))) (.lst (iD (cy.take p.2))) = some (.lst (iD (cy.drop p.2 ++ cy.take p.2))) := by
            rw [add_lst (by rw [List.length_map, List.length_map, List.length_drop, List.length_take]; omega)]
            unfold iD
            rw [List.map_append]
          have hop0 : (cy.drop p.2 ++ cy.take p.2)[0]? = some p.1 := by
            rw [List.getElem?_append_left (by rw [List.length_drop]; omega), List.getElem?_drop]
            exact hcp2
          have ixo : ∀ l, dIdxS l (.lst (iD (cy.drop p.2 ++ cy.take p.2))) (.int 0) = some (.int p.1) := fun l => by
            show atI (iD (cy.drop p.2 ++ cy.take p.2)) 0 = _
            unfold atI ixN
            have hl0 := lt_of_some hop0
            rw [if_pos (by decide), if_pos (by rw [List.length_map]; omega)]
            have : ((0 : Int)).toNat = 0 := rfl
            simp only [Option.bind_some, this, iD, List.getElem?_map, hop0, Option.map_some]
          have ixc : idxX A.hw qs (.obj jc) (.int p.1) = some (.int sv) := by
            rw [(inC_of (hf := A.hw) cst (cge p.1 (List.mem_of_getElem? hcp2))).2, hsv]
            rfl
          have svW : -1 ≤ sv := by
            obtain ⟨y, _, hy, _⟩ := h1.cpk _ _ hsv
            rw [List.take_length] at hy
            have := pos sv (h1.sub sv hy)
            omega
          have sqo : sqS (st_ ms K).st (.lst (iD (cy.drop p.2 ++ cy.take p.2))) = some (true, iD (cy.drop p.2 ++ cy.take p.2)) := rfl
          have opge : ∀ c ∈ cy.drop p.2 ++ cy.take p.2, -1 ≤ c := fun c hc => (List.mem_append.mp hc).elim (fun z => cge c (List.mem_of_mem_drop z)) (fun z => cge c (List.mem_of_mem_take z))
          have al := (alongX_ok A (s := st_ ms K) sqo (by omega) opge svW).2
          have one : cy.drop p.2 ++ cy.take p.2 ≠ [] := fun z => by rw [z] at hop0; cases hop0
          have all : (prX (alongL (cy.drop p.2 ++ cy.take p.2) sv)).length ≤ 1000 := by unfold prX; rw [List.length_map, along_len one]; omega
          have ext : (prX (mvR L W ++ ms)).length + (prX (alongL (cy.drop p.2 ++ cy.take p.2) sv)).length ≤ 100000 := by omega
          refine oc_if (k := true) (s1 := st_ ms K) (by simp only [E, S6, mClS, EE, eEqS, seqS, toS, R.lift, asSeq, asList, asTup, List.replicate, Nat.reduceAdd, Nat.reduceSub, Nat.reduceLeDiff, Nat.reduceLT, Nat.reduceMul, Int.reduceToNat, Int.reduceEq, Int.reduceAdd, Int.reduceSub, Int.reduceNeg, reduceIte, Nat.reduceEqDiff, hst, l6, g0]) (fun _ => ?_) (fun hk => by cases hk)
          refine oc_seq (O := O A) (fun ρ s' => ρ = E (.sh (.obj jy)) S6 (.sh (.lst (iD (cy.drop p.2 ++ cy.take p.2)))) y8 y9 ∧ st_ ms K = s') (oc_nx (by simp only [E, S6, mSliceS, mIdxS, mBinS, EE, eEqS, seqS, toS, R.lift, asSeq, asList, asTup, List.replicate, Nat.reduceAdd, Nat.reduceSub, Nat.reduceLeDiff, Nat.reduceLT, Nat.reduceMul, Int.reduceToNat, Int.reduceEq, Int.reduceAdd, Int.reduceSub, Int.reduceNeg, reduceIte, Nat.reduceEqDiff, hst, hq, sqc, i0, ct1, ct2, ad] <;> rfl) ⟨rfl, rfl⟩) ?_
          rintro _ _ ⟨rfl, rfl⟩
          refine oc_nx (ρ := E (.sh (.obj jy)) S6 (.sh (.lst (iD (cy.drop p.2 ++ cy.take p.2)))) y8 y9) (s := st_ (ms ++ alongL (cy.drop p.2 ++ cy.take p.2) sv) K) (by
            simp only [E, mDrop, mExtS, mCallN, mIdxS, mBinS, EE, eEqS, seqS, toS, R.lift, asSeq, asList, asTup, List.replicate, Nat.reduceAdd, Nat.reduceSub, Nat.reduceLeDiff, Nat.reduceLT, Nat.reduceMul, Int.reduceToNat, Int.reduceEq, Int.reduceAdd, Int.reduceSub, Int.reduceNeg, reduceIte, Nat.reduceEqDiff, hst, hq, mst, ixo, ixc, al, ext, fin]) ⟨ms ++ alongL (cy.drop p.2 ++ cy.take p.2) sv, _, _, _, _, _, rfl, by rw [kn], ?_⟩
          rw [tk]
          refine ha.snoc ⟨fun z => (by rw [hcl'] at z; cases z), fun _ => ⟨p.2, p.1, sv, hcp2, hsv, fun j hj dd hd => ?_, rfl⟩⟩
          -- no cell ahead of it
          cases hvd : valP cp (.inl dd) with
          | none => rfl
          | some v =>
            have hm : (dd, j) ∈ posL cp cy := List.mem_filter.mpr ⟨List.mk_mem_zipIdx_iff_getElem?.mpr hd, by simp only [hvd, Option.isSome_some]⟩
            have srt : (posL cp cy).Pairwise fun a b => a.2 < b.2 := List.Pairwise.filter _ (zipIdx_lt cy 0)
            rw [hps] at srt hm
            rcases List.mem_cons.mp hm with e | hm
            · rw [← e] at hj
              exact absurd hj (Nat.lt_irrefl _)
            · have := (List.pairwise_cons.mp srt).1 _ hm
              exact absurd hj (Nat.lt_asymm this)
      · rintro ρ' s' ⟨ms, y5, y6, y7, y8, y9, rfl, rfl, ha⟩
        have : (ojs (q.length + 5) C.length).length = C.length := by unfold ojs; rw [List.length_map, List.length_range]
        rw [this, List.take_length] at ha ⊢
        exact ⟨ms, _, _, _, _, _, rfl, rfl, ha⟩
    · rintro _ _ ⟨ms, y5, y6, y7, y8, y9, rfl, rfl, ha⟩
      exact oc_rt (d := .tup [.obj jm, .obj jl]) (s := st_ ms (clK cp C (q.length + 5))) (by simp only [E, EE, eEqS, seqS, toS, R.lift, asSeq, asList, asTup, List.replicate, Nat.reduceAdd, Nat.reduceSub, Nat.reduceLeDiff, Nat.reduceLT, Nat.reduceMul, Int.reduceToNat, Int.reduceEq, Int.reduceAdd, Int.reduceSub, Int.reduceNeg, reduceIte, Nat.reduceEqDiff]) ⟨ms, rfl, rfl, ha⟩
  obtain ⟨d, s', e, ms, rfl, rfl, ha⟩ := key
  have hml := ha.len cne
  have flt := List.length_filter_le (clB cp) C
  obtain ⟨qf, hqf⟩ : ∃ qf, (q2.set jm (.lst (prX (mvR L W ++ ms)))).set jl (.lst (clK cp C (q.length + 5))) = qf := ⟨_, rfl⟩
  have lf : qf.length = q2.length := by rw [← hqf, List.length_set, List.length_set]
  have pre_ : qf.take q.length = q := by
    rw [← hqf, List.take_set_of_le (by show q.length ≤ q.length + 3; omega), List.take_set_of_le (by show q.length ≤ q.length + 1; omega)]
    show (q1 ++ [Ob.lst []] ++ [Ob.dct dn] ++ cyO C).take q.length = q
    rw [← hq1, List.append_assoc, List.append_assoc, List.append_assoc, List.take_left]
  have e3 : q ++ qf.drop q.length = qf := by
    have := List.take_append_drop q.length qf
    rw [pre_] at this
    exact this
  refine ⟨W, cp, C, ms, qf.drop q.length, h1, h2, asc, ha, ?_, ?_, ?_, ?_, by rw [List.length_append, mvl]; omega, by rw [List.length_drop, lf, ql2]; omega⟩
  · rw [e3, e, hqf]
  · rw [e3, ← hqf, List.getElem?_set_ne jlm]
    exact List.getElem?_set_self (lt_of_some mq2)
  · rw [e3, ← hqf]
    exact List.getElem?_set_self (by rw [List.length_set]; exact lt_of_some lq2)
  · intro i cy hi
    rw [e3, ← hqf, List.getElem?_set_ne (by show q.length + 3 ≠ q.length + 5 + i; omega), List.getElem?_set_ne (by show q.length + 1 ≠ q.length + 5 + i; omega)]
    exact oq2 i cy hi
end
end S
namespace S
open PySem PySem.Spec PyProof.Rows L2 RZ Mr
def rdP (L : Prs) (P : List Int) : Nat := (L.filter fun p => decide (p.2 ∈ P)).length
/-- what the law lists: whole cycles from their least cells that nobody else reads -/
structure Cd (L : Prs) (P : List Int) : Prop where
  cy : Cy L (tgs L) P
  mn : ∀ y ∈ P, hdI P ≤ y
  rd : rdP L P = P.length
theorem Cy.ne {L : Prs} {F cy : List Int} (h : Cy L F cy) : cy ≠ [] := by
  obtain ⟨x0, ys, a, rfl, _⟩ := h.ch
  simp
theorem Cy.hd0 {L : Prs} {F cy : List Int} (h : Cy L F cy) : cy[0]? = some (hdI cy) := by
  cases cy with
  | nil => exact absurd rfl h.ne
  | cons c cy => rfl
theorem Cy.nxt {L : Prs} {F cy : List Int} (h : Cy L F cy) : ∀ (i : Nat) a b, cy[i]? = some a → cy[i + 1]? = some b → sL L a = b := by
  obtain ⟨x0, ys, a, rfl, c, e⟩ := h.ch
  exact c.nx
theorem Cy.last {L : Prs} {F cy : List Int} (h : Cy L F cy) {a : Int} (ha : cy[cy.length - 1]? = some a) : sL L a = hdI cy := by
  have h0 := h.hd0
  obtain ⟨x0, ys, a', rfl, c, e⟩ := h.ch
  rw [c.hd] at h0
  have : (ys ++ [a']).length - 1 = ys.length := by simp
  rw [this, get_last] at ha
  rw [← Option.some.inj ha, e]
  exact Option.some.inj h0
theorem Cy.to {L : Prs} {F F' cy : List Int} (h : Cy L F cy) (hs : ∀ x ∈ cy, x ∈ F') : Cy L F' cy := by
  obtain ⟨x0, ys, a, e, c, e2⟩ := h.ch
  exact ⟨x0, ys, a, e, ⟨c.hd, c.nx, c.nd, hs⟩, e2⟩
/-- a cycle that meets another one lies in it -/
theorem Cy.within {L : Prs} {F F' cy P : List Int} (h : Cy L F cy) (hP : Cy L F' P) (ht : hdI P ∈ cy) : ∀ x ∈ P, x ∈ cy := by
  have key : ∀ (i : Nat) x, P[i]? = some x → x ∈ cy := by
    intro i
    induction i with
    | zero => intro x hx; rw [hP.hd0] at hx; rw [← Option.some.inj hx]; exact ht
    | succ i ih =>
      intro x hx
      have hl := lt_of_some hx
      have a1 := List.getElem?_eq_getElem (show i < P.length by omega)
      rw [← hP.nxt i _ _ a1 hx]
      exact h.fwd (ih _ a1)
  intro x hx
  obtain ⟨i, hi⟩ := List.mem_iff_getElem?.mp hx
  exact key i x hi
/-- the readers of a cycle, if it has no other -/
theorem rdP_eq {L : Prs} (nd : (tgs L).Nodup) {P : List Int} (ndP : P.Nodup) (h1 : ∀ y ∈ P, y ∈ tgs L ∧ sL L y ∈ P) (h2 : ∀ p ∈ L, p.2 ∈ P → p.1 ∈ P) : rdP L P = P.length := by
  let R := (L.filter fun p => decide (p.2 ∈ P)).map (·.1)
  have nR : R.Nodup := (List.filter_sublist.map _).nodup nd
  have e : R.length = rdP L P := List.length_map _
  have a : R.length ≤ P.length := nodup_len nR fun x hx => by
    obtain ⟨p, hp, rfl⟩ := List.mem_map.mp hx
    obtain ⟨hp1, hp2⟩ := List.mem_filter.mp hp
    exact h2 p hp1 (of_decide_eq_true hp2)
  have b : P.length ≤ R.length := nodup_len ndP fun y hy => by
    obtain ⟨h3, h4⟩ := h1 y hy
    exact List.mem_map.mpr ⟨(y, sL L y), List.mem_filter.mpr ⟨sL_pair nd h3, decide_eq_true h4⟩, rfl⟩
  omega
section
variable {L : Prs} {W : List Int} {cp : List (Key × Int)} {C : List (List Int)}
theorem copied_iff (h : Out1 L W W.length cp) {c : Int} : (valP cp (.inl c)).isSome = true ↔ ∃ t ∈ W, sL L t = c := by
  constructor
  · intro z
    obtain ⟨v, hv⟩ := Option.isSome_iff_exists.mp z
    obtain ⟨y, e, h1, h2⟩ := h.cpk _ _ hv
    cases e
    rw [List.take_length] at h1
    exact ⟨v, h1, h2⟩
  · rintro ⟨t, ht, rfl⟩
    exact h.cpa t (by rw [List.take_length]; exact ht)
/-- a closed cycle of plan is one that the law lists -/
theorem closed_cd (nd : (tgs L).Nodup) (h : Out1 L W W.length cp) (cl : Cls L (lft L W) (sortI (tgs L)) C) (as : Asc (sortI (tgs L)) C) {cy : List Int} (hc : cy ∈ C) (hb : clB cp cy = true) : Cd L cy := by
  have hcy := cl.all cy hc
  have pm := left_pm nd h
  refine ⟨hcy.to fun x hx => (mem_lft.mp (hcy.sub x hx)).1, as.mn cy hc, rdP_eq nd hcy.nd (fun y hy => ⟨(mem_lft.mp (hcy.sub y hy)).1, hcy.fwd hy⟩) fun p hp hs => ?_⟩
  have pt : p.1 ∈ tgs L := List.mem_map_of_mem hp
  by_cases hw : p.1 ∈ W
  · unfold clB at hb
    have := List.all_eq_true.mp hb p.2 hs
    rw [(copied_iff h).mpr ⟨p.1, hw, sL_mem nd hp⟩] at this
    cases this
  · exact hcy.bwd pm (mem_lft.mpr ⟨pt, hw⟩) (by rw [sL_mem nd hp]; exact hs)
end
end S
namespace Mr
open PySem PySem.Spec PyProof.Rows L2 RZ
section
variable {K : PySem.W.Frag} {X : Cx}
end
end Mr
namespace Mr
open PySem PySem.Spec PyProof.Rows L2 RZ
section
variable {K : PySem.W.Frag}
end
end Mr
namespace Mr
open PySem PySem.Spec PyProof.Rows L2 RZ
abbrev Ctab := List (Str × Option D)
structure CT (K : PySem.W.Frag) (w : World) (mg : Str → Option Value) (x : Str) (tab : Ctab) : Prop where
  ex : ∃ a es n, mg x = some (.ref a) ∧ KDict K w a es n ∧ ∀ k o, tab.lookup k = some o → (o = none ∧ PySem.W.nsIn K a k = some none) ∨ ∃ d u v, o = some d ∧ PySem.W.nsIn K a k = some (some u) ∧ RelV v u ∧ ∀ G, Rep K G v d
section
variable {X : Cx} {e f : Expr} {x : Str} {te tf : TE} {p apos cpos : Pos} {a : Addr} {es : Array DictEntry} {n : Nat}
end
section
variable {K : PySem.W.Frag} {O : Wo} {Wx : WX} {X : Cx} {G0 : Gh} {H0 : Hp} {G : Gh} {H : Hp} {σ : L2.St} {ρ : Ev} {s s1 : O.S}
abbrev Itab := List (Str × Option (List Int))
structure CTI (K : PySem.W.Frag) (w : World) (mg : Str → Option Value) (x : Str) (tab : Itab) : Prop where
  ex : ∃ a es n, mg x = some (.ref a) ∧ KDict K w a es n ∧ ∀ k o, tab.lookup k = some o → (o = none ∧ PySem.W.nsIn K a k = some none) ∨ ∃ is b, o = some is ∧ PySem.W.nsIn K a k = some (some (.ref b)) ∧ ∀ H, SqT K H b (is.map V.int)
end
end Mr
namespace EnT
open PySem PySem.Spec PyProof.Rows L2
open PySem.Sem (wp)
open AutoSeq1 (wpAny_loadPart')
section
variable {prog : Program} {w : World} {A : Around} {E : Value → Shared → Prop} {s : Shared}
end
end EnT
namespace Mr
open PySem PySem.Spec PyProof.Rows L2 RZ
section
variable {K : PySem.W.Frag} {O : Wo} {Wx : WX} {X : Cx} {G : Gh} {H : Hp}
end
end Mr
namespace MX
open PySem PySem.Spec PyProof.Rows L2
section
variable {P : Program} {w : World} {A : Around} {E : Value → Shared → Prop} {s : Shared} {v r : Value}
theorem dset_m {d : Addr} {xs : List Row} {k : MK} {Q : Unit → Shared → Prop} (room : A.units < cLine) (hk : KeyIn P w s.heap k v) (m : DictM P w s.heap d xs) (hz : xs.length ≤ sizeLine) (no : valM xs k = none)
    (q2 : ∀ h', DictM P w h' d (xs ++ [(k, v, r)]) → Heap.SameBut d s.heap h' → Q () { s with heap := h', toks := s.toks + tokM k }) :
    wpAny (model P w) A (dictSet d v r) Q E s := by
  obtain ⟨o, es, ep, ho, hc, hd, e, his, nd⟩ := m
  unfold dictSet dictSetHashed
  refine wpAny_holding (wpAny_bind (key_hash room hk ?_))
  refine wpAny_holding (wpAny_bind (find_m (s := { s with toks := s.toks + tokM k }) room hk ho hd e his nd (fun no' => ?_) (fun j p hj => ?_)))
  · have nk : k ∉ xs.map (·.1) := fun z => by
      obtain ⟨x, hx, rfl⟩ := List.mem_map.mp z
      obtain ⟨j, hj⟩ := List.mem_iff_getElem?.mp hx
      exact no' j x.2 hj
    refine wpAny_bind (wpAny_rule (wpAny_updateDictKeys (hz := by have := rows_size e; omega) (s := { s with toks := s.toks + tokM k }) ho hd (q2 _ ⟨_, _, ep + 1, Heap.get?_update_self _ ho (Obj.isFreed_of_dict (Obj.data_mapDictKeys hd _)), hc.mapDictKeys _, Obj.data_mapDictKeys hd _, by simp [e, entM], fun y hy => ?_, ?_⟩ (Heap.SameBut.update ..))))
    · rcases List.mem_append.mp hy with hy | hy
      · exact (his y hy).keep ho hd (Heap.SameBut.update ..)
      · simp only [List.mem_singleton] at hy
        subst hy
        exact hk.keep ho hd (Heap.SameBut.update ..)
    · rw [List.map_append, List.nodup_append]
      refine ⟨nd, by simp, fun y hy z hz' => ?_⟩
      simp only [List.map_cons, List.map_nil, List.mem_singleton] at hz'
      subst hz'
      exact fun t => nk (t ▸ hy)
  · rw [valM_some nd hj] at no
    cases no
theorem item_set_m {d : Addr} {xs : List Row} {k : MK} {Q : Unit → Shared → Prop} (room : A.in1.units < cLine) (hk : KeyIn P w s.heap k v) (m : DictM P w s.heap d xs) (hz : xs.length ≤ sizeLine) (no : valM xs k = none)
    (q2 : ∀ h', DictM P w h' d (xs ++ [(k, v, r)]) → Heap.SameBut d s.heap h' → Q () { s with heap := h', toks := s.toks + tokM k }) :
    wpAny (model P w) A (setItem (.ref d) v r) Q E s := by
  unfold setItem
  refine wpAny_holding (wpAny_bind (wpAny_sequenceKey m.typ (by decide) ?_))
  refine wpAny_bind (wpAny_callSpecial?_slot (name := Str.ofString "__setitem__") m.typ slot_dict_setitem (wpAny_call_entry slot_dict_setitem m.typ entry_dict_setitem ?_ (args_dict_setitem _ _ _)))
  show wpAny _ _ (Builtin.Dict.notOrdered "__setitem__" ⟨[.ref d, v, r], []⟩ >>= _) _ _ s
  refine wpAny_bind (wpAny_notOrdered_dict m.typ ?_)
  show wpAny _ _ (dictSet d v r >>= _) _ _ s
  exact wpAny_bind (dset_m room hk m hz no fun h' m' hs => wpAny_pure ⟨.none, rfl, wpAny_pure (q2 h' m' hs)⟩)
theorem cont_m {d : Addr} {xs : List Row} {k : MK} {Q : Bool → Shared → Prop} (room : A.in1.units < cLine) (hk : KeyIn P w s.heap k v) (nm : (d == sysModules) = false) (m : DictM P w s.heap d xs) (q : Q (valM xs k).isSome { s with toks := s.toks + tokM k }) :
    wpAny (model P w) A (contains (.ref d) v) Q E s := by
  unfold contains
  refine wpAny_holding (wpAny_bind (wpAny_specialOf m.typ slot_dict_contains.lookup ?_))
  show wpAny _ _ (if (some (Value.builtin "dict.__contains__") == some Value.none) = true then _ else _) Q E s
  rw [if_neg (by rw [beq_builtin_none]; exact Bool.false_ne_true)]
  refine wpAny_bind (wpAny_callSpecialUnlessNone?_slot (name := Str.ofString "__contains__") m.typ slot_dict_contains (wpAny_call_entry slot_dict_contains m.typ entry_dict_contains ?_ (args_dict_contains _ _)))
  show wpAny _ _ (dictGet d v >>= _) _ E s
  refine wpAny_bind (get_m room hk m ?_)
  cases hf : valM xs k with
  | some p =>
    rw [hf] at q
    show wpAny _ _ (ret (.bool true)) _ E _
    exact wpAny_pure ⟨_, rfl, wpAny_truthy_bool q⟩
  | none =>
    rw [hf] at q
    show wpAny _ _ (Builtin.Dict.pendingKey? d v >>= _) _ E _
    exact wpAny_bind (wpAny_pendingKey_other nm (wpAny_pure ⟨_, rfl, wpAny_truthy_bool q⟩))
theorem notin_m {d : Addr} {xs : List Row} {k : MK} {Q : Value → Shared → Prop} (room : A.in1.units < cLine) (hk : KeyIn P w s.heap k v) (nm : (d == sysModules) = false) (m : DictM P w s.heap d xs) (q : Q (.bool (!(valM xs k).isSome)) { s with toks := s.toks + tokM k }) :
    wpAny (model P w) A (compareOp .NotIn v (.ref d)) Q E s := by
  show wpAny _ _ (do return .bool (!(← contains (.ref d) v))) Q E s
  exact wpAny_bind (cont_m room hk nm m (wpAny_pure q))
end
/-- y not in d -/
def tDNotInX (K : PySem.W.Frag) (hf : Key → Int) (ty td : TE) : TE := fun σ H Q => ty σ H fun y H1 => td σ H1 fun x H2 => ∃ a xs k, x = .ref a ∧ H2 a = some (MixD hf a xs) ∧ EvX K H2 xs ∧ KeyV K H2 k y ∧ Q (.bl (!(valX xs k).isSome)) H2
/-- d[y] = v, y a new key -/
def tDPutX (K : PySem.W.Frag) (hf : Key → Int) (td ty tv : TE) : TS := fun Dn σ H => tv σ H fun v H1 => td σ H1 fun x H2 => ty σ H2 fun y H3 => ∃ a xs k, x = .ref a ∧ H3 a = some (MixD hf a xs) ∧ EvX K H3 xs ∧ y = kvX k ∧ KeyV K H3 (keyX k) y ∧ xs.length < sizeLine ∧ valX xs (keyX k) = none ∧ Dn.nx σ (upd H3 a (MixD hf a (xs ++ [(k, v)])))
/-- {y: v} -/
def tDisp1X (K : PySem.W.Frag) (hf : Key → Int) (ty tv : TE) : TE := fun σ H Q => ∀ p, H p = none → ty σ (upd H p (MixD hf p [])) fun y H1 => tv σ H1 fun v H2 => ∃ k, H2 p = some (MixD hf p []) ∧ y = kvX k ∧ KeyV K H2 (keyX k) y ∧ Q (.ref p) (upd H2 p (MixD hf p [(k, v)]))
section
variable {X : Cx} {o i value : Expr} {td ty tv : TE} {pos pos' : Pos} {hf : Key → Int}
theorem mix_grow {pins : List (Addr × Obj)} {σ : L2.St} {H : Hp} {s : Shared} {a : Addr} {xs : List (XK × V)} {rows : List Row} {x : XK} {z : V} {kv zv : Value} {h' : Heap} {t' : Nat} (I : Inv X pins σ H s) (e : H a = some (MixD (keyH X.w) a xs)) (nm : (a == sysModules) = false) (hl : xs.length < sizeLine) (r : Paired RowX xs rows) (ry : RelV (kvX x) kv) (rz : RelV z zv)
    (dm' : DictM X.prog X.w h' a (rows ++ [(keyX x, kv, zv)])) (hs : Heap.SameBut a s.heap h') : Inv X pins σ (upd H a (MixD (keyH X.w) a (xs ++ [(x, z)]))) { s with heap := h', toks := t' } := by
  have he' : ∃ q, h'.get? a = some q := let ⟨q, _, _, hq, _⟩ := dm'; ⟨q, hq⟩
  obtain ⟨o', es', ep', g', c', d', q', _, nd'⟩ := dm'
  have mo : MixObj (keyH X.w) a (xs ++ [(x, z)]) h' := ⟨nm, by rw [List.length_append, List.length_cons, List.length_nil]; omega, o', es', ep', _, g', c', d', q', Paired.snoc r ⟨rfl, ry, rz⟩, nd'⟩
  exact d_write I (by rw [e]; exact True.intro) hs he' (mix_new mo)
theorem pc_dnotinX (hh : hf = keyH X.w) (hu : X.A.units + 1 < cLine) (hi : PE X i ty) (ho : PE X o td) : PC X .NotIn i o (tDNotInX X.K hf ty td) := by
  subst hh
  refine ⟨fun pins s σ H Q I h => ?_⟩
  refine thn (hi.run pins s σ H _ I h) fun iv s1 ⟨y, H1, I1, ry, q1⟩ => thn (ho.run pins s1 σ H1 _ I1 q1) fun u s2 ⟨x, H2, I2, rx, a, xs, k, ex, e, ev, kv, q2⟩ => ?_
  subst ex
  obtain rfl : u = Value.ref a := rx
  obtain ⟨nm, _, rows, r, m⟩ := mix_dict I2 e ev
  refine notin_m hu (keyIn_of I2 kv ry) nm m ?_
  rw [← (rows_val r k).isSome_eq]
  exact ⟨.bl (!(valX xs k).isSome), H2, I2.tok _, rfl, q2⟩
theorem ps_dputX (hh : hf = keyH X.w) (hu : X.A.units + 1 < cLine) (ho : PE X o td) (hi : PE X i ty) (hv : PE X value tv) (hs : swapsWith value (some (.Subscript o i pos')) pos.line X.env = pure false) :
    PS X (.Assign [.Subscript o i pos'] value pos) (tDPutX X.K hf td ty tv) := by
  subst hh
  refine ⟨fun pins s σ H D I h => ?_⟩
  refine wpAny_Assign_Subscript (thn (hv.run pins s σ H _ I h) fun r s1 ⟨v, H1, I1, rv, q1⟩ => thn (ho.run pins s1 σ H1 _ I1 q1) fun u s2 ⟨x, H2, I2, rx, q2⟩ => thn (hi.run pins s2 σ H2 _ I2 q2) fun iv s3 ⟨y, H3, I3, ry, a, xs, k, ex, e, ev, ey, kv, hl, hno, q3⟩ => ?_) hs
  subst ex ey
  obtain rfl : u = Value.ref a := rx
  obtain ⟨nm, hz, rows, rr, dm⟩ := mix_dict I3 e ev
  have hl' := Paired.length rr
  have rv' := rows_val rr (keyX k)
  rw [hno] at rv'
  have hn : valM rows (keyX k) = none := by
    cases hm : valM rows (keyX k) with
    | none => rfl
    | some z => rw [hm] at rv'; exact (show False from rv').elim
  exact item_set_m hu (keyIn_of I3 kv ry) dm (by omega) hn fun h' dm' hs' => ⟨σ, _, mix_grow I3 e nm hl rr ry rv dm' hs', q3⟩
theorem pe_disp1X (hh : hf = keyH X.w) (hu : X.A.units + 1 < cLine) (hi : PE X i ty) (hv : PE X value tv) : PE X (.Dict [some i] [value] pos) (tDisp1X X.K hf ty tv) := by
  subst hh
  refine ⟨fun pins s σ H Q I q => ?_⟩
  have hall : ([some i] : List (Option Expr)).all (·.isSome) = true := rfl
  have hlen : ([some i] : List (Option Expr)).length = [value].length := rfl
  have hn := pairTrees_length [some i] [value] X.env pos hall hlen
  have fr := I.hok.fresh (Nat.le_refl s.heap.objs.size)
  have I1 := I.laid (a := s.heap.objs.size) (o := MixD (keyH X.w) s.heap.objs.size []) (h' := s.heap.push { cls := .type "dict", data := .dict #[] }) (t' := s.toks) (fun _ _ z => Heap.get?_push_of_some _ z) (Nat.le_refl _)
    (mix_new ⟨beq_eq_false_iff_ne.mpr (Ne.symm (Nat.ne_of_lt I.big)), Nat.zero_le _, _, #[], 0, [], Heap.get?_push_size _ rfl, ⟨rfl, rfl, rfl⟩, rfl, rfl, .nil, List.nodup_nil⟩)
  have h0 : pairTrees [some i] [value] X.env pos ≠ [] := fun z => by rw [z] at hn; cases hn
  rw [arm_eval_Dict, zip_pairTrees [some i] [value] X.env pos hall hlen, dictDisplay_pairs _ h0 (by rw [hn]; show (1 : Nat) < 17; decide)]
  refine wpAny_bind (wpAny_standAt (wpAny_bind ?_))
  unfold subDict
  refine wpAny_bind (wpAny_alloc (wpAny_bind (wpAny_holding ?_)))
  rw [if_pos (by rw [hn]; show (1 : Nat) ≤ 15; decide)]
  refine wpAny_bind (pairTrees_cons_walk (thn (hi.run pins _ σ _ _ I1 (q _ fr)) fun kv s2 ⟨y, H2, I2, ry, q2⟩ => thn (hv.run pins s2 σ H2 _ I2 q2) fun zv s3 ⟨z, H3, I3, rz, k, e, ey, kk, q3⟩ => pairTrees_nil_walk ?_))
  subst ey
  obtain ⟨nm, hz, rows, rr, dm⟩ := mix_dict I3 e (fun x hx => by cases hx)
  cases rr
  refine wpAny_holding (wpAny_bind ?_)
  rw [List.forIn_cons]
  refine wpAny_bind (wpAny_bind (dset_m (by have : X.A.in1.units = X.A.units + 1 := rfl; omega) (keyIn_of I3 kk ry) dm (Nat.zero_le _) rfl fun h' dm' hs' => wpAny_pure ?_))
  dsimp only
  rw [List.forIn_nil]
  exact wpAny_pure (wpAny_pure (wpAny_pure (wpAny_pure ⟨.ref s.heap.objs.size, _, mix_grow I3 e nm (by decide) .nil ry rz dm' hs', rfl, q3⟩)))
end
end MX
namespace Mr
open PySem PySem.Spec PyProof.Rows L2 RZ
section
variable {K : PySem.W.Frag} {O : Wo} {Wx : WX} {X : Cx} {G0 : Gh} {H0 : Hp} {G : Gh} {H : Hp} {G1 : Gh} {H1 : Hp} {σ : L2.St} {ρ : Ev} {s s1 : O.S}
/-- x not in y, y a dict with mixed keys -/
noncomputable def dNotInX (hf : Key → Int) (l : List Ob) (x y : D) : Option D := (dcX hf l y).bind fun kvs => (keyM x).map fun k => .bl (!(valN kvs k).isSome)
theorem de_notInX {hf : Key → Int} {a b : Expr} {ta tb : TE} {ma mb : ME O} {pos : Pos} {j : Nat} (hh : hf = keyH X.w) (hr : Room j X.A) (ha : DE K O Wx X a ta ma) (hb : DE K O Wx X b tb mb) (hm : behindInMarks .NotIn b = false := by first | rfl | with_unfolding_all rfl) :
    DE K O Wx X (.Compare a [.NotIn] [b] pos) (MX.tDNotInX K hf ta tb) (mBinS O (dNotInX hf) ma mb) := by
  have hK := ha.hK
  subst hK
  refine ⟨rfl, ha.tk, pe_cmp (MX.pc_dnotinX hh (hu_of hr) ha.pe hb.pe) hm, fun σ ρ H0 G H s Q F h => ?_⟩
  refine ha.sn σ ρ H0 G H s _ F (pst_bind h fun dx s1 _ x G1 H1 t1 k1 r1 h1 => ?_)
  refine hb.sn σ ρ H0 G1 H1 s1 _ (F.tr t1 k1) (pst_bind h1 fun dy s2 _ y G2 H2 t2 k2 r2 h2 => ?_)
  have F2 := (F.tr t1 k1).tr t2 k2
  have r1 := r1.mono t2.gg
  obtain ⟨d, e, q⟩ := pst_lift F2 h2
  unfold dNotInX at e
  rw [Option.bind_eq_some_iff] at e
  obtain ⟨kvs, ec, e⟩ := e
  obtain ⟨n, rfl, el⟩ := dcX_inv ec
  rw [Option.map_eq_some_iff] at e
  obtain ⟨k, ek, rfl⟩ := e
  obtain ⟨a', rfl, _, vs, hp, r⟩ := F2.sto.get r2 el
  obtain ⟨xk, rfl, rfl, kc⟩ := r1.keyM ek
  refine ⟨a', vs, _, rfl, hp, r.ev F2.gh, kc.keyV F2.gh, ?_⟩
  have : (MX.valX vs (MX.keyX xk)).isSome = (valN kvs (MX.keyX xk)).isSome := by
    rcases r.val (MX.keyX xk) with ⟨a1, a2⟩ | ⟨v, d, a1, a2, _⟩ <;> rw [a1, a2] <;> rfl
  rw [this]
  exact q _ G2 H2 (.refl t2.gh) (.bl _)
theorem dt_notInX {hf : Key → Int} {a b : Expr} {ta tb : TE} {ma mb : ME O} {pos : Pos} {j : Nat} (hh : hf = keyH X.w) (hr : Room j X.A) (ha : DE K O Wx X a ta ma) (hb : DE K O Wx X b tb mb) (hm : behindInMarks .NotIn b = false := by first | rfl | with_unfolding_all rfl) :
    DT K O Wx X (.Compare a [.NotIn] [b] pos) (tTest (MX.tDNotInX K hf ta tb)) (mTest O (mBinS O (dNotInX hf) ma mb)) := by
  have hK := ha.hK
  subst hK
  exact ⟨rfl, ha.tk, pt_cmp (MX.pc_dnotinX hh (hu_of hr) ha.pe hb.pe) hm, snd_test (de_notInX (pos := pos) hh hr ha hb hm).sn⟩
/-- o[i] = e, o a dict with mixed keys that has not this key -/
noncomputable def mSetIX (O : Wo) (hf : Key → Int) (mo mi m : ME O) : MS O := fun ρ s => toS (m ρ s) ρ fun d s1 => toS (mo ρ s1) ρ fun x s2 => toS (mi ρ s2) ρ fun i s3 => match x with
  | .obj n => (match dcX hf (O.st s3) (.obj n), keyM i with
    | some kvs, some k => if kvs.length < 100000 ∧ (valN kvs k).isNone = true then .nx ρ (stPut O s3 n (.dcX hf (kvs ++ [(k, d)]))) else .bad
    | _, _ => .bad)
  | _ => .bad
theorem ds_setIX {hf : Key → Int} {o i e : Expr} {to ti te : TE} {mo mi me : ME O} {p1 p2 : Pos} {j : Nat} (hh : hf = keyH X.w) (hr : Room j X.A) (ho : DE K O Wx X o to mo) (hi : DE K O Wx X i ti mi) (he : DE K O Wx X e te me)
    (hs : swapsWith e (some (.Subscript o i p1)) p2.line X.env = pure false := by rfl) :
    DS K O Wx X (.Assign [.Subscript o i p1] e p2) (MX.tDPutX K hf to ti te) (mSetIX O hf mo mi me) := by
  have hK := ho.hK
  subst hK
  refine ⟨MX.ps_dputX hh (hu_of hr) ho.pe hi.pe he.pe hs, fun G0 H0 σ ρ G H s Dn F h => ?_⟩
  refine he.sn σ ρ H0 G H s _ F.fm (pst_toS F h fun d s1 e1 v G1 H1 t1 k1 r1 h1 => ?_)
  have F1 := F.go t1 k1
  refine ho.sn σ ρ H0 G1 H1 _ _ F1.fm (pst_toS F1 h1 fun x s2 e2 xv G2 H2 t2 k2 r2 h2 => ?_)
  have F2 := F1.go t2 k2
  refine hi.sn σ ρ H0 G2 H2 _ _ F2.fm (pst_toS F2 h2 fun i s3 e3 iv G3 H3 t3 k3 r3 h3 => ?_)
  have F3 := F2.go t3 k3
  split at h3
  · rename_i n
    split at h3
    · rename_i kvs k e1 e2
      split at h3
      · rename_i hz
        obtain ⟨hz, hno⟩ := hz
        obtain ⟨n', en, el⟩ := dcX_inv e1
        cases en
        obtain ⟨a, rfl, hg, vs, hp, r⟩ := F3.fm.sto.get (r2.mono t3.gg) el
        obtain ⟨xk, rfl, rfl, kc⟩ := r3.keyM e2
        have vn : MX.valX vs (MX.keyX xk) = none := by
          rcases r.val (MX.keyX xk) with ⟨a1, a2⟩ | ⟨v, d', a1, a2, rr⟩
          · exact a1
          · rw [a2] at hno; cases hno
        obtain ⟨t5, k5⟩ := F3.fm.stw (o := MX.MixD hf a (vs ++ [(xk, v)])) (ob := .dcX hf (kvs ++ [(MX.keyX xk, d)])) hg (nfz hp rfl) rfl ⟨_, upd_same, r.snoc kc ((r1.mono t2.gg).mono t3.gg)⟩ hg
        exact ⟨a, vs, xk, rfl, hp, r.ev F3.fm.gh, rfl, kc.keyV F3.fm.gh, by rw [r.length]; exact sz5l hz, vn, h3 σ G3 _ (Sm.refl _) (F3.go t5 k5)⟩
      · exact (show False from h3).elim
    · exact (show False from h3).elim
  · exact (show False from h3).elim
/-- {k: e}, mixed keys -/
noncomputable def mDisp1X (O : Wo) (hf : Key → Int) (mk me : ME O) : ME O := fun ρ s => (mNewX O hf ρ s).bind fun x s1 => (mk ρ s1).bind fun k s2 => (me ρ s2).bind fun z s3 => match x with
  | .obj n => (match dcX hf (O.st s3) (.obj n), keyM k with
    | some [], some k => .ok (.obj n) (stPut O s3 n (.dcX hf [(k, z)]))
    | _, _ => .bad)
  | _ => .bad
theorem de_disp1X {hf : Key → Int} {i e : Expr} {ti te : TE} {mi me : ME O} {pos : Pos} {j : Nat} (hh : hf = keyH X.w) (hr : Room j X.A) (hi : DE K O Wx X i ti mi) (he : DE K O Wx X e te me) :
    DE K O Wx X (.Dict [some i] [e] pos) (MX.tDisp1X K hf ti te) (mDisp1X O hf mi me) := by
  have hK := hi.hK
  subst hK
  refine ⟨rfl, hi.tk, MX.pe_disp1X hh (hu_of hr) hi.pe he.pe, fun σ ρ H0 G H s Q F h p np => ?_⟩
  have gp : G p = none := F.gh.free np
  have t : Tr O.W G H G (upd H p (MX.MixD hf p [])) := (Tr.refl F.gh).mut np gp
  have k : O.ok X.K s G (upd H p (MX.MixD hf p [])) := ok_off F.ok gp (nW_of F.ok np)
  have t0 := t.mark (n := (O.st s).length) np gp upd_same rfl
  have k0 := ok_mark (K := X.K) (O := O) (ob := .dcX hf []) k gp ⟨[], upd_same, .nil⟩
  have F0 := F.tr t0 k0
  have rp : Rep X.K (mkG G p (O.st s).length) (.ref p) (.obj (O.st s).length) := .obj (.inl mkG_same)
  unfold mDisp1X mNewX at h
  simp only [bind_ok] at h
  refine hi.sn σ ρ H0 _ _ _ _ F0 (pst_bind (Pst.shift t0 h) fun dk s2 _ kv G2 H2 t2 k2 r2 h2 => ?_)
  have F2 := F0.tr t2 k2
  refine he.sn σ ρ H0 G2 H2 s2 _ F2 (pst_bind h2 fun dz s3 _ zv G3 H3 t3 k3 r3 h3 => ?_)
  have F3 := F2.tr t3 k3
  split at h3
  · rename_i k' e1 e2
    obtain ⟨n', en, el⟩ := dcX_inv e1
    cases en
    obtain ⟨b, eb, hg, vs, hp, r⟩ := F3.sto.get ((rp.mono t2.gg).mono t3.gg) el
    cases eb
    cases r
    obtain ⟨xk, rfl, rfl, kc⟩ := (r2.mono t3.gg).keyM e2
    obtain ⟨t5, k5⟩ := F3.stw (o := MX.MixD hf p [(xk, zv)]) (ob := .dcX hf [(MX.keyX xk, dz)]) hg (nfz hp rfl) rfl ⟨_, upd_same, .cons kc r3 .nil⟩ hg
    exact ⟨xk, hp, rfl, kc.keyV F3.gh, h3 (.ref p) G3 _ t5 k5 ((rp.mono t2.gg).mono t3.gg)⟩
  · exact (show False from h3).elim
end
end Mr
namespace K26
open PySem PySem.Spec PyProof.Rows L2 RZ Mr S
noncomputable section
def topS (i : Nat) : Stmt := PySem.Challenge.pw_latecopy_k26_whole_no_shorter_list.main.body.getD i (.Pass ⟨0, 0, 0, 0⟩)
abbrev s_law_draws : Stmt := topS 11
theorem sc_law_draws : FnScope ["_law_script", "_law_cell"] ["_law_script"] (defScope s_law_draws) := ⟨rfl, rfl, rfl, by decide +kernel, rfl, by decide +kernel, by decide +kernel⟩
abbrev s_law_mixed : Stmt := topS 12
theorem sc_law_mixed : FnScope ["_law_seed", "_law_k", "_law_first"] ["_law_seed", "_law_k"] (defScope s_law_mixed) := ⟨rfl, rfl, rfl, by decide +kernel, rfl, by decide +kernel, by decide +kernel⟩
abbrev s_law_take : Stmt := topS 13
theorem sc_law_take : FnScope ["_law_draws_here", "_law_size", "_law_found", "_law_seed", "_law_reach"] ["_law_draws_here", "_law_size"] (defScope s_law_take) := ⟨rfl, rfl, rfl, by decide +kernel, rfl, by decide +kernel, by decide +kernel⟩
abbrev s_law_small : Stmt := topS 14
theorem sc_law_small : FnScope ["_law_draws_here", "_law_pairs", "_law_cell", "_law_source", "_law_at"] ["_law_draws_here"] (defScope s_law_small) := ⟨rfl, rfl, rfl, by decide +kernel, rfl, by decide +kernel, by decide +kernel⟩
abbrev s_as_pair : Stmt := topS 2
theorem sc_as_pair : FnScope ["pair", "target", "source"] ["pair"] (defScope s_as_pair) := ⟨rfl, rfl, rfl, by decide +kernel, rfl, by decide +kernel, by decide +kernel⟩
abbrev s_sources_of : Stmt := topS 3
theorem sc_sources_of : FnScope ["pairs", "pair"] ["pairs"] (defScope s_sources_of) := ⟨rfl, rfl, rfl, by decide +kernel, rfl, by decide +kernel, by decide +kernel⟩
abbrev s_reader_counts : Stmt := topS 4
theorem sc_reader_counts : FnScope ["sources", "counts", "source", "target"] ["sources"] (defScope s_reader_counts) := ⟨rfl, rfl, rfl, by decide +kernel, rfl, by decide +kernel, by decide +kernel⟩
abbrev s_moves_outside_cycles : Stmt := topS 5
theorem sc_moves_outside_cycles : FnScope ["sources", "counts", "ready", "moves", "copies", "at", "target", "source"] ["sources"] (defScope s_moves_outside_cycles) := ⟨rfl, rfl, rfl, by decide +kernel, rfl, by decide +kernel, by decide +kernel⟩
abbrev s_cycle_from : Stmt := topS 6
theorem sc_cycle_from : FnScope ["sources", "cell", "cycle"] ["sources", "cell"] (defScope s_cycle_from) := ⟨rfl, rfl, rfl, by decide +kernel, rfl, by decide +kernel, by decide +kernel⟩
abbrev s_cycles_left : Stmt := topS 7
theorem sc_cycles_left : FnScope ["sources", "moves", "done", "cycles", "target", "source", "cell"] ["sources", "moves"] (defScope s_cycles_left) := ⟨rfl, rfl, rfl, by decide +kernel, rfl, by decide +kernel, by decide +kernel⟩
abbrev s_moves_along : Stmt := topS 8
theorem sc_moves_along : FnScope ["cycle", "saved"] ["cycle", "saved"] (defScope s_moves_along) := ⟨rfl, rfl, rfl, by decide +kernel, rfl, by decide +kernel, by decide +kernel⟩
abbrev s_plan : Stmt := topS 9
theorem sc_plan : FnScope ["pairs", "sources", "moves", "copies", "closed", "cycle", "copied", "opened", "at", "cell"] ["pairs"] (defScope s_plan) := ⟨rfl, rfl, rfl, by decide +kernel, rfl, by decide +kernel, by decide +kernel⟩
abbrev s_law_level : Stmt := topS 15
theorem sc_law_level : FnScope ["_law_states", "_law_known", "_law_sources", "_law_found", "_law_state", "_law_target", "_law_symbol", "_law_after"] ["_law_states", "_law_known", "_law_sources"] (defScope s_law_level) := ⟨rfl, rfl, rfl, by decide +kernel, rfl, by decide +kernel, by decide +kernel⟩
abbrev s_law_fewest : Stmt := topS 16
theorem sc_law_fewest : FnScope ["_law_pairs", "_law_due", "_law_target", "_law_source", "_law_sources", "_law_states", "_law_known", "_law_many", "_law_state"] ["_law_pairs"] (defScope s_law_fewest) := ⟨rfl, rfl, rfl, by decide +kernel, rfl, by decide +kernel, by decide +kernel⟩
abbrev s_law : Stmt := topS 17
theorem sc_law : FnScope ["_law_script", "_law_draws_here", "_law_pairs", "_law_moves", "_law_cycles"] ["_law_script"] (defScope s_law) := ⟨rfl, rfl, rfl, by decide +kernel, rfl, by decide +kernel, by decide +kernel⟩
def bd_law_small_0 (A : Ad) : MS (O A) :=
  (mSeq (O A) (mAsg (O A) (mCall (O A) 2 (m_law_take A) (mCons (O A) (mVar (O A) 0) (mCons (O A) (mC (O A) (.int 4)) (mNil (O A))))) (fName 3))
  (mIfS (O A) (mAnd (O A) (mTest (O A) (mBin (O A) dNe (mVar (O A) 3) (mVar (O A) 2))) (mTest (O A) (mBin (O A) dGt (mCall (O A) 2 (m_law_take A) (mCons (O A) (mVar (O A) 0) (mCons (O A) (mC (O A) (.int 6)) (mNil (O A))))) (mC (O A) (.int 0)))))
  (mAppend (O A) 1 (mCl (O A) dTup (mCons (O A) (mVar (O A) 2) (mCons (O A) (mVar (O A) 3) (mNil (O A))))))
  (mNext (O A))))
def mb_law_small (A : Ad) : MS (O A) :=
  (mSeq (O A) (mOwn (O A) 1 (mDisp (O A) (mNil (O A))))
  (mSeq (O A) (mFor (O A) (mRng1 (O A) (mCons (O A) (mC (O A) (.int 4)) (mNil (O A)))) (fName 2)
  (bd_law_small_0 A))
  (mSeq (O A) (mIfS (O A) (mAnd (O A) (mTest (O A) (mBin (O A) dGt (mLenO (O A) 1) (mC (O A) (.int 0)))) (mTest (O A) (mBin (O A) dEq (mCall (O A) 2 (m_law_take A) (mCons (O A) (mVar (O A) 0) (mCons (O A) (mC (O A) (.int 4)) (mNil (O A))))) (mC (O A) (.int 0)))))
  (mSeq (O A) (mAsg (O A) (mCall (O A) 2 (m_law_take A) (mCons (O A) (mVar (O A) 0) (mCons (O A) (mLenO (O A) 1) (mNil (O A))))) (fName 4))
  (mSetI (O A) 1 (mVar (O A) 4) (mCl (O A) dTup (mCons (O A) (mBin (O A) dIdx (mIdxO (O A) 1 (mVar (O A) 4)) (mC (O A) (.int 0))) (mCons (O A) (mCl (O A) dTup (mCons (O A) (mC (O A) (.str "number")) (mCons (O A) (mC (O A) (.int 7)) (mNil (O A))))) (mNil (O A)))))))
  (mNext (O A)))
  (mFrz (O A) 1 (mRet (O A) (mVar (O A) 1))))))
def m_law_small (A : Ad) : List D → Dr → R Dr D := runF (O A) 5 (mb_law_small A)
def bd_law_level_0 (A : Ad) : MS (O A) :=
  (mSeq (O A) (mAsg (O A) (mBin (O A) dAdd (mBin (O A) dAdd (mSliceS (O A) (mVar (O A) 4) (mNoPart (O A)) (mPart (O A) (mVar (O A) 5))) (mCl (O A) dTup (mCons (O A) (mVar (O A) 6) (mNil (O A))))) (mSliceS (O A) (mVar (O A) 4) (mPart (O A) (mBin (O A) dAdd (mVar (O A) 5) (mC (O A) (.int 1)))) (mNoPart (O A)))) (fName 7))
  (mIfS (O A) (mTest (O A) (mBinS (O A) (dNotInX A.hw) (mVar (O A) 7) (mVar (O A) 1)))
  (mSeq (O A) (mSetIX (O A) A.hw (mVar (O A) 1) (mVar (O A) 7) (mC (O A) (.bl true)))
  (mAppend (O A) 3 (mVar (O A) 7)))
  (mNext (O A))))
def bd_law_level_1 (A : Ad) : MS (O A) :=
  (mForS (O A) (mJS (O A) (mBin (O A) dAdd (mLst (O A) (mListNS (O A) (mCons (O A) (mVar (O A) 4) (mNil (O A))))) (mVar (O A) 2))) (fName 6)
  (bd_law_level_0 A))
def bd_law_level_2 (A : Ad) : MS (O A) :=
  (mForS (O A) (mJI (O A) (mRng1 (O A) (mCons (O A) (mC (O A) (.int 5)) (mNil (O A))))) (fName 5)
  (bd_law_level_1 A))
def mb_law_level (A : Ad) : MS (O A) :=
  (mSeq (O A) (mOwn (O A) 3 (mDisp (O A) (mNil (O A))))
  (mSeq (O A) (mForS (O A) (mJS (O A) (mVar (O A) 0)) (fName 4)
  (bd_law_level_2 A))
  (mFrz (O A) 3 (mRet (O A) (mVar (O A) 3)))))
def m_law_level (A : Ad) : List D → Dr → R Dr D := runF (O A) 8 (mb_law_level A)
def bd_law_fewest_0 (A : Ad) : MS (O A) :=
  (mSeq (O A) (mSetIS (O A) (mVar (O A) 1) (mVar (O A) 2) (mVar (O A) 3))
  (mIfS (O A) (mTruthS (O A) (mClS (O A) dIsIS (mCons (O A) (mVar (O A) 3) (mCons (O A) (mC (O A) (.ty "tuple")) (mNil (O A))))))
  (mSetIS (O A) (mVar (O A) 1) (mVar (O A) 2) (mC (O A) (.str "number")))
  (mNext (O A))))
def lc_law_fewest_1 (A : Ad) : MA (O A) :=
  (mLcS (O A) (mJS (O A) (mVar (O A) 5)) (fName 8) (mTest (O A) (mBinS (O A) (liftO dEq) (mLst (O A) (mListNS (O A) (mCons (O A) (mSliceS (O A) (mVar (O A) 8) (mNoPart (O A)) (mPart (O A) (mC (O A) (.int 4)))) (mNil (O A))))) (mVar (O A) 1))) (mVar (O A) 8) [8])
def lc_law_fewest_2 (A : Ad) : MA (O A) :=
  (mLcS (O A) (mJS (O A) (mVar (O A) 5)) (fName 8) (mTest (O A) (mBinS (O A) (liftO dEq) (mLst (O A) (mListNS (O A) (mCons (O A) (mSliceS (O A) (mVar (O A) 8) (mNoPart (O A)) (mPart (O A) (mC (O A) (.int 4)))) (mNil (O A))))) (mVar (O A) 1))) (mVar (O A) 8) [8])
def bd_law_fewest_3 (A : Ad) : MS (O A) :=
  (mSeq (O A) (mAsg (O A) (mCall (O A) 3 (m_law_level A) (mCons (O A) (mVar (O A) 5) (mCons (O A) (mVar (O A) 6) (mCons (O A) (mVar (O A) 4) (mNil (O A)))))) (fName 5))
  (mAsg (O A) (mBin (O A) dAdd (mVar (O A) 7) (mC (O A) (.int 1))) (fName 7)))
def mb_law_fewest (A : Ad) : MS (O A) :=
  (mSeq (O A) (mAsg (O A) (mObjL (O A) (mDisp (O A) (mCons (O A) (mC (O A) (.int 0)) (mCons (O A) (mC (O A) (.int 1)) (mCons (O A) (mC (O A) (.int 2)) (mCons (O A) (mC (O A) (.int 3)) (mNil (O A)))))))) (fName 1))
  (mSeq (O A) (mForS (O A) (mJS (O A) (mVar (O A) 0)) (fTup 2 (fCons (fName 2) (fCons (fName 3) fNil)))
  (bd_law_fewest_0 A))
  (mSeq (O A) (mAsg (O A) (mLst (O A) (mRepN (O A) (mDisp (O A) (mCons (O A) (mC (O A) (.str "number")) (mNil (O A)))) (mCl (O A) dIntC (mCons (O A) (mBinS (O A) (dInS false) (mC (O A) (.str "number")) (mVar (O A) 1)) (mNil (O A)))))) (fName 4))
  (mSeq (O A) (mAsg (O A) (mCl (O A) dList (mCons (O A) (mCl (O A) dTup (mCons (O A) (mC (O A) (.int 0)) (mCons (O A) (mC (O A) (.int 1)) (mCons (O A) (mC (O A) (.int 2)) (mCons (O A) (mC (O A) (.int 3)) (mCons (O A) (mC (O A) (.str "scratch")) (mNil (O A)))))))) (mNil (O A)))) (fName 5))
  (mSeq (O A) (mAsg (O A) (mDisp1X (O A) A.hw (mIdxS (O A) (mVar (O A) 5) (mC (O A) (.int 0))) (mC (O A) (.bl true))) (fName 6))
  (mSeq (O A) (mAsg (O A) (mC (O A) (.int 0)) (fName 7))
  (mSeq (O A) (mWhile (O A) (fun _ _ => 1000) (mTest (O A) (mBin (O A) dEq (mClS (O A) dLenS (mCons (O A) (mLst (O A) (lc_law_fewest_2 A)) (mNil (O A)))) (mC (O A) (.int 0))))
  (bd_law_fewest_3 A))
  (mRet (O A) (mVar (O A) 7)))))))))
def m_law_fewest (A : Ad) : List D → Dr → R Dr D := runF (O A) 9 (mb_law_fewest A)
def mb_law (A : Ad) : MS (O A) :=
  (mSeq (O A) (mAsg (O A) (mCall (O A) 1 (m_law_small A) (mCons (O A) (mVar (O A) 1) (mNil (O A)))) (fName 2))
  (mSeq (O A) (mAsg (O A) (mCall (O A) 1 (m_plan_2 A) (mCons (O A) (mVar (O A) 2) (mNil (O A)))) (fTup 2 (fCons (fName 3) (fCons (fName 4) fNil))))
  (mRet (O A) (mBinS (O A) (liftO dEq) (mClS (O A) dLenS (mCons (O A) (mVar (O A) 3) (mNil (O A)))) (mCall (O A) 1 (m_law_fewest A) (mCons (O A) (mVar (O A) 2) (mNil (O A))))))))
structure Txt (P : Program) (w : World) (K : PySem.W.Frag) (mg : Str → Option Value) (base : Heap) (A : Ca) : Prop where
  f_law_draws : ∃ f fd, Fun K "_law_draws" "_law_draws" s_law_draws f fd ∧ mg "_law_draws" = some (.ref f)
  f_law_mixed : ∃ f fd, Fun K "_law_mixed" "_law_mixed" s_law_mixed f fd ∧ mg "_law_mixed" = some (.ref f)
  f_law_take : ∃ f fd, Fun K "_law_take" "_law_take" s_law_take f fd ∧ mg "_law_take" = some (.ref f)
  f_law_small : ∃ f fd, Fun K "_law_small" "_law_small" s_law_small f fd ∧ mg "_law_small" = some (.ref f)
  f_as_pair : ∃ f fd, Fun K "as_pair" "as_pair" s_as_pair f fd ∧ mg "as_pair" = some (.ref f)
  f_sources_of : ∃ f fd, Fun K "sources_of" "sources_of" s_sources_of f fd ∧ mg "sources_of" = some (.ref f)
  f_reader_counts : ∃ f fd, Fun K "reader_counts" "reader_counts" s_reader_counts f fd ∧ mg "reader_counts" = some (.ref f)
  f_moves_outside_cycles : ∃ f fd, Fun K "moves_outside_cycles" "moves_outside_cycles" s_moves_outside_cycles f fd ∧ mg "moves_outside_cycles" = some (.ref f)
  f_cycle_from : ∃ f fd, Fun K "cycle_from" "cycle_from" s_cycle_from f fd ∧ mg "cycle_from" = some (.ref f)
  f_cycles_left : ∃ f fd, Fun K "cycles_left" "cycles_left" s_cycles_left f fd ∧ mg "cycles_left" = some (.ref f)
  f_moves_along : ∃ f fd, Fun K "moves_along" "moves_along" s_moves_along f fd ∧ mg "moves_along" = some (.ref f)
  f_plan : ∃ f fd, Fun K "plan" "plan" s_plan f fd ∧ mg "plan" = some (.ref f)
  f_law_level : ∃ f fd, Fun K "_law_level" "_law_level" s_law_level f fd ∧ mg "_law_level" = some (.ref f)
  f_law_fewest : ∃ f fd, Fun K "_law_fewest" "_law_fewest" s_law_fewest f fd ∧ mg "_law_fewest" = some (.ref f)
  f_law : ∃ f fd, Fun K "law" "law" s_law f fd ∧ mg "law" = some (.ref f)
  b_dict : mg "dict" = none
  b_enumerate : mg "enumerate" = none
  b_int : mg "int" = none
  b_isinstance : mg "isinstance" = none
  b_len : mg "len" = none
  b_list : mg "list" = none
  b_range : mg "range" = none
  b_sorted : mg "sorted" = none
  b_tuple : mg "tuple" = none
  b_zip : mg "zip" = none
  es : A.es = []
  inj : A.Inj
  hw : A.hw = keyH w
  g_SCRATCH : ∃ v, GC K mg "SCRATCH" v k_SCRATCH
section
variable {P : Program} {w : World} {K : PySem.W.Frag} {mg : Str → Option Value} {base : Heap} {A : Ad}
theorem fo_law_mixed (T : Txt P w K mg base A.toCa) : Fo P w K mg base (O A) 1 "_law_mixed" 2 (m_law_mixed A) := by
  obtain ⟨f, fd, F, hg⟩ := T.f_law_mixed
  refine fo_mk (N := ["_law_seed", "_law_k", "_law_first"]) F sc_law_mixed hg (F.binds (ps := ["_law_seed", "_law_k"]) fun _ _ _ _ _ _ us hl => match us, hl with | [_, _], _ => rfl) (fun cdv Ar outer s H E hr c => ?_)
  exact ⟨_, ((db_cons (ds_set 2 c.nd (de_mod (de_pow (de_add (de_add (de_mod (de_var 0 c.cn) (de_int c.cn)) (de_mul (de_int c.cn) (de_var 1 c.cn))) (de_int c.cn)) (de_int c.cn)) (de_int c.cn)))
  (db_one (ds_ret (de_mod (de_pow (de_add (de_add (de_mul (de_var 2 c.cn) (de_int c.cn)) (de_mul (de_mul (de_int c.cn) (de_var 1 c.cn)) (de_var 1 c.cn))) (de_int c.cn)) (de_int c.cn)) (de_int c.cn))))))⟩
theorem fo_law_take (T : Txt P w K mg base A.toCa) : Fo P w K mg base (O A) 2 "_law_take" 2 (m_law_take A) := by
  have F_law_mixed := fo_law_mixed (A := A) T
  obtain ⟨f, fd, F, hg⟩ := T.f_law_take
  refine fo_mk (N := ["_law_draws_here", "_law_size", "_law_found", "_law_seed", "_law_reach"]) F sc_law_take hg (F.binds (ps := ["_law_draws_here", "_law_size"]) fun _ _ _ _ _ _ us hl => match us, hl with | [_, _], _ => rfl) (fun cdv Ar outer s H E hr c => ?_)
  exact ⟨_, (db_cons (ds_drSet 0 (de_add (de_drI 0 c.cn) (de_int c.cn)))
  (db_cons (ds_if (DW.dt (dw_and (dt_eq hr (de_drI 0 c.cn) (de_int c.cn)) (dw_and1 (dt_drNe 0 c.cn hr)))) (db_one (ds_drPop 0 c.cn)) db_nil)
  (db_cons (ds_if (dt_gt (de_drI 0 c.cn) (de_int c.cn))
    (db_cons (ds_set 2 c.nd (de_mod (de_drI 0 c.cn) (de_var 1 c.cn)))
    (db_cons (ds_drSet 0 (de_div (de_drI 0 c.cn) (de_var 1 c.cn))) (db_one (ds_ret (de_var 2 c.cn))))) db_nil)
  (db_cons (ds_set 3 c.nd (de_int c.cn))
  (db_cons (ds_if (dt_drNe 0 c.cn hr) (db_one (ds_set 3 c.nd (de_drIx 0 (de_mod (de_drI 0 c.cn) (de_drLen 0 c.cn T.b_len)) take_hw))) db_nil)
  (db_cons (ds_set 2 c.nd (de_int c.cn))
  (db_cons (ds_set 4 c.nd (de_int c.cn))
  (db_cons (ds_while (fun _ _ => 100) c (dt_lt (de_var 4 c.cn) (de_var 1 c.cn))
    (db_cons (ds_set 2 c.nd (de_add (de_mul (de_var 2 c.cn) (de_int c.cn)) (de_call F_law_mixed hr (by decide) (da_cons (de_var 3 c.cn) (da_cons (de_add (de_drI 0 c.cn) (de_mul (de_int c.cn) (de_mod (de_var 2 c.cn) (de_int c.cn)))) (da_nil c.cn))))))
    (db_one (ds_set 4 c.nd (de_mul (de_var 4 c.cn) (de_int c.cn))))))
  (db_one (ds_ret (de_mod (de_var 2 c.cn) (de_var 1 c.cn))))))))))))⟩
theorem fo_law_small (T : Txt P w K mg base A.toCa) : Fo P w K mg base (O A) 3 "_law_small" 1 (m_law_small A) := by
  have F_law_take := fo_law_take (A := A) T
  obtain ⟨f, fd, F, hg⟩ := T.f_law_small
  refine fo_mk (N := ["_law_draws_here", "_law_pairs", "_law_cell", "_law_source", "_law_at"]) F sc_law_small hg (F.binds (ps := ["_law_draws_here"]) fun _ _ _ _ _ _ us hl => match us, hl with | [_], _ => rfl) (fun cdv Ar outer s H E hr c => ?_)
  exact ⟨_, ((db_cons (ds_own 1 c.nd (dn_list (da_nil c.cn)))
  (db_cons (ds_for c (di_range1 T.b_range (da_cons (de_int c.cn) (da_nil c.cn))) (dg_name 2 c.nd)
  (db_cons (ds_set 3 c.nd (de_call F_law_take hr (by decide) (da_cons (de_var 0 c.cn) (da_cons (de_int c.cn) (da_nil c.cn)))))
  (db_one (ds_if (DW.dt (dw_and (dt_ne hr (de_var 3 c.cn) (de_var 2 c.cn)) (dw_and1 (dt_gt (de_call F_law_take hr (by decide) (da_cons (de_var 0 c.cn) (da_cons (de_int c.cn) (da_nil c.cn)))) (de_int c.cn)))))
  (db_one (ds_append 1 (de_tup (da_cons (de_var 2 c.cn) (da_cons (de_var 3 c.cn) (da_nil c.cn))))))
  db_nil))))
  (db_cons (ds_if (DW.dt (dw_and (dt_gt (de_lenO 1 c.cn T.b_len) (de_int c.cn)) (dw_and1 (dt_eq hr (de_call F_law_take hr (by decide) (da_cons (de_var 0 c.cn) (da_cons (de_int c.cn) (da_nil c.cn)))) (de_int c.cn)))))
  (db_cons (ds_set 4 c.nd (de_call F_law_take hr (by decide) (da_cons (de_var 0 c.cn) (da_cons (de_lenO 1 c.cn T.b_len) (da_nil c.cn)))))
  (db_one (ds_setI 1 (de_tup (da_cons (de_idx (de_idxO 1 (de_var 4 c.cn)) (de_int c.cn)) (da_cons (de_tup (da_cons (de_str c.cn) (da_cons (de_int c.cn) (da_nil c.cn)))) (da_nil c.cn)))) (de_var 4 c.cn))))
  db_nil)
  (db_frz 1 (db_one (ds_ret (de_var 1 c.cn))))))))⟩
theorem fo_as_pair (T : Txt P w K mg base A.toCa) : Fo P w K mg base (O A) 1 "as_pair" 1 (m_as_pair A) := by
  obtain ⟨f, fd, F, hg⟩ := T.f_as_pair
  refine fo_mk (N := ["pair", "target", "source"]) F sc_as_pair hg (F.binds (ps := ["pair"]) fun _ _ _ _ _ _ us hl => match us, hl with | [_], _ => rfl) (fun cdv Ar outer s H E hr c => ?_)
  exact ⟨_, ((db_cons (ds_asg (de_var 0 c.cn) (dg_sq (n := 2) c.cn.hK c.hc (dgs_cons (dg_name 1 c.nd) (dgs_cons (dg_name 2 c.nd) dgs_nil))))
  (db_one (ds_ret (de_tup (da_cons (de_var 1 c.cn) (da_cons (de_if (dt_truth (de_callB (f := dIsI) (call_isiG c.cn.hK) vcl_isI T.b_isinstance (by decide +kernel) (da_cons (de_var 2 c.cn) (da_cons (de_bltn (v := .ty "list") c.cn T.b_list (by decide +kernel) rfl (fun _ => .ty "list")) (da_nil c.cn))))) (de_callT (f := dTupOf) (call_tupG c.cn.hK) vcl_tupOf T.b_tuple (by decide +kernel) (da_cons (de_var 2 c.cn) (da_nil c.cn))) (de_var 2 c.cn)) (da_nil c.cn))))))))⟩
theorem fo_sources_of (T : Txt P w K mg base A.toCa) : Fo P w K mg base (O A) 2 "sources_of" 1 (m_sources_of A) := by
  have F_as_pair := fo_as_pair (A := A) T
  obtain ⟨f, fd, F, hg⟩ := T.f_sources_of
  refine fo_mk (N := ["pairs", "pair"]) F sc_sources_of hg (F.binds (ps := ["pairs"]) fun _ _ _ _ _ _ us hl => match us, hl with | [_], _ => rfl) (fun cdv Ar outer s H E hr c => ?_)
  exact ⟨_, ((db_one (ds_ret (DM.de (dm_pairs c T.b_dict (da_cons (dlcS (own := [("pair", 1)]) c (dj_seq (de_var 0 c.cn)) (blkOk_by (N := ["pairs", "pair"]) (sc := defScope s_sources_of) (by decide +kernel)) (fun _ _ _ _ _ => (dg_name 1 c.nd)) (fun _ _ _ _ _ cn => dts_nil) (fun _ _ _ _ _ cn => (de_call F_as_pair hr (by decide) (da_cons (de_var 1 cn) (da_nil cn))))).dn.de (da_nil c.cn)))))))⟩
theorem fo_reader_counts (T : Txt P w K mg base A.toCa) : Fo P w K mg base (O A) 1 "reader_counts" 1 (m_reader_counts_2 A) := by
  obtain ⟨f, fd, F, hg⟩ := T.f_reader_counts
  refine fo_mk (N := ["sources", "counts", "source", "target"]) F sc_reader_counts hg (F.binds (ps := ["sources"]) fun _ _ _ _ _ _ us hl => match us, hl with | [_], _ => rfl) (fun cdv Ar outer s H E hr c => ?_)
  exact ⟨_, ((db_cons (ds_lock (mVar (O A) 0) (ds_setDcO 1 (own := [("target", 3)]) c (DI.j (di_keys (de_var 0 c.cn))) (blkOk_by (N := ["sources", "counts", "source", "target"]) (sc := defScope s_reader_counts) (by decide +kernel)) (fun _ _ _ _ _ => (dg_name 3 c.nd)) (fun _ _ _ _ _ cn => dts_nil) (fun _ _ _ _ _ cn => (de_var 3 cn)) (fun _ _ _ _ _ cn => (de_int cn))))
  (db_cons (ds_lock (mVar (O A) 0) (ds_forS c (DI.j (di_values (de_var 0 c.cn))) (dg_name 2 c.nd)
  (db_one (ds_if (dt_inX T.hw hr (de_var 2 c.cn) (de_var 1 c.cn))
  (db_one (ds_augIS (g := (dInt2 fun i j => some (.int (i + j)))) hr iop_add vop_int0 (de_var 1 c.cn) (de_var 2 c.cn) (de_int c.cn)))
  db_nil))))
  (db_one (ds_ret (de_var 1 c.cn))))))⟩
theorem fo_moves_outside_cycles (T : Txt P w K mg base A.toCa) : Fo P w K mg base (O A) 2 "moves_outside_cycles" 1 (m_moves_outside_cycles_2 A) := by
  have F_reader_counts := fo_reader_counts (A := A) T
  obtain ⟨f, fd, F, hg⟩ := T.f_moves_outside_cycles
  refine fo_mk (N := ["sources", "counts", "ready", "moves", "copies", "at", "target", "source"]) F sc_moves_outside_cycles hg (F.binds (ps := ["sources"]) fun _ _ _ _ _ _ us hl => match us, hl with | [_], _ => rfl) (fun cdv Ar outer s H E hr c => ?_)
  exact ⟨_, ((db_cons (ds_set 1 c.nd (de_call F_reader_counts hr (by decide) (da_cons (de_var 0 c.cn) (da_nil c.cn))))
  (db_cons (ds_lock (mVar (O A) 0) (ds_ownLc 2 (dlcS (own := [("target", 6)]) c (DI.j (di_keys (de_var 0 c.cn))) (blkOk_by (N := ["sources", "counts", "ready", "moves", "copies", "at", "target", "source"]) (sc := defScope s_moves_outside_cycles) (by decide +kernel)) (fun _ _ _ _ _ => (dg_name 6 c.nd)) (fun _ _ _ _ _ cn => (dts_one (dt_eq hr (de_idxS hr (de_var 1 cn) (de_var 6 cn)) (de_int cn)))) (fun _ _ _ _ _ cn => (de_var 6 cn)))))
  (db_cons (ds_set 3 c.nd (DN.obj (dn_list (da_nil c.cn))))
  (db_cons (ds_set 4 c.nd (de_newX c.cn))
  (db_cons (ds_set 5 c.nd (de_int c.cn))
  (db_cons (ds_while (fun _ _ => 1000) c (dt_lt (de_var 5 c.cn) (de_lenO 2 c.cn T.b_len))
  (db_cons (ds_set 6 c.nd (de_idxO 2 (de_var 5 c.cn)))
  (db_cons (ds_set 7 c.nd (de_idxS hr (de_var 0 c.cn) (de_var 6 c.cn)))
  (db_cons (ds_expr (de_mutL own_app PySem.F.slot_list_append PySem.F.type_list_append mt_append (de_var 3 c.cn) (da_cons (de_tup (da_cons (de_var 6 c.cn) (da_cons (de_var 7 c.cn) (da_nil c.cn)))) (da_nil c.cn))))
  (db_cons (ds_expr (de_setdX T.hw hr (de_var 4 c.cn) (de_var 7 c.cn) (de_var 6 c.cn)))
  (db_cons (ds_if (dt_inX T.hw hr (de_var 7 c.cn) (de_var 1 c.cn))
  (db_cons (ds_augIS (g := dSub) hr iop_sub vop_int0 (de_var 1 c.cn) (de_var 7 c.cn) (de_int c.cn))
  (db_one (ds_if (dt_eq hr (de_idxS hr (de_var 1 c.cn) (de_var 7 c.cn)) (de_int c.cn))
  (db_one (ds_append 2 (de_var 7 c.cn)))
  db_nil)))
  db_nil)
  (db_one (ds_aug 5 (f := (dInt2 fun i j => some (.int (i + j)))) c.nd iop_add vop_int0 (de_int c.cn)))))))))
  (db_one (ds_ret (de_tup (da_cons (de_var 3 c.cn) (da_cons (de_var 4 c.cn) (da_nil c.cn)))))))))))))⟩
theorem fo_cycle_from (T : Txt P w K mg base A.toCa) : Fo P w K mg base (O A) 1 "cycle_from" 2 (m_cycle_from_2 A) := by
  obtain ⟨f, fd, F, hg⟩ := T.f_cycle_from
  refine fo_mk (N := ["sources", "cell", "cycle"]) F sc_cycle_from hg (F.binds (ps := ["sources", "cell"]) fun _ _ _ _ _ _ us hl => match us, hl with | [_, _], _ => rfl) (fun cdv Ar outer s H E hr c => ?_)
  exact ⟨_, ((db_cons (ds_set 2 c.nd (DN.obj (dn_list (da_cons (de_var 1 c.cn) (da_nil c.cn)))))
  (db_cons (ds_while (fun _ _ => 1000) c (dt_neS hr (de_idxS hr (de_var 0 c.cn) (de_idxS hr (de_var 2 c.cn) (de_neg (de_int c.cn)))) (de_var 1 c.cn))
  (db_one (ds_expr (de_mutL own_app PySem.F.slot_list_append PySem.F.type_list_append mt_append (de_var 2 c.cn) (da_cons (de_idxS hr (de_var 0 c.cn) (de_idxS hr (de_var 2 c.cn) (de_neg (de_int c.cn)))) (da_nil c.cn))))))
  (db_one (ds_ret (de_var 2 c.cn))))))⟩
theorem fo_cycles_left (T : Txt P w K mg base A.toCa) : Fo P w K mg base (O A) 2 "cycles_left" 2 (m_cycles_left_2 A) := by
  have F_cycle_from := fo_cycle_from (A := A) T
  obtain ⟨f, fd, F, hg⟩ := T.f_cycles_left
  refine fo_mk (N := ["sources", "moves", "done", "cycles", "target", "source", "cell"]) F sc_cycles_left hg (F.binds (ps := ["sources", "moves"]) fun _ _ _ _ _ _ us hl => match us, hl with | [_, _], _ => rfl) (fun cdv Ar outer s H E hr c => ?_)
  exact ⟨_, ((db_cons (ds_setDcO 2 (own := [("target", 4), ("source", 5)]) c (dj_seq (de_var 1 c.cn)) (blkOk_by (N := ["sources", "moves", "done", "cycles", "target", "source", "cell"]) (sc := defScope s_cycles_left) (by decide +kernel)) (fun _ _ _ _ _ => (dg_tup (n := 2) c.cn.hK c.hc (dgs_cons (dg_name 4 c.nd) (dgs_cons (dg_name 5 c.nd) dgs_nil)))) (fun _ _ _ _ _ cn => dts_nil) (fun _ _ _ _ _ cn => (de_var 4 cn)) (fun _ _ _ _ _ cn => (de_bl cn)))
  (db_cons (ds_own 3 c.nd (dn_list (da_nil c.cn)))
  (db_cons (ds_forS c (dj_seq (dn_sortedDA c T.b_sorted (da_cons (de_var 0 c.cn) (da_nil c.cn))).de) (dg_name 4 c.nd)
  (db_one (ds_if (dt_notInS hr (de_var 4 c.cn) (de_var 2 c.cn))
  (db_cons (ds_append 3 (de_call F_cycle_from hr (by decide) (da_cons (de_var 0 c.cn) (da_cons (de_var 4 c.cn) (da_nil c.cn)))))
  (db_one (ds_expr (de_updS (de_var 2 c.cn) (DM.de (dm_dc (own := [("cell", 6)]) c (dj_seq (de_idxO 3 (de_neg (de_int c.cn)))) (blkOk_by (N := ["sources", "moves", "done", "cycles", "target", "source", "cell"]) (sc := defScope s_cycles_left) (by decide +kernel)) (fun _ _ _ _ _ => (dg_name 6 c.nd)) (fun _ _ _ _ _ cn => dts_nil) (fun _ _ _ _ _ cn => (de_var 6 cn)) (fun _ _ _ _ _ cn => (de_bl cn))))))))
  db_nil)))
  (db_frz 3 (db_one (ds_ret (de_var 3 c.cn))))))))⟩
theorem fo_moves_alongN (T : Txt P w K mg base A.toCa) : FoN P w K mg base (O A) 1 "moves_along" 2 (m_moves_alongN_2 A) := by
  obtain ⟨f, fd, F, hg⟩ := T.f_moves_along
  exact ⟨f, fd, _, fnN_mk (N := ["cycle", "saved"]) F sc_moves_along (fun cdv Ar outer s H E hr c => ⟨_, ((db_one (ds_retNew (dn_listZipS c T.b_list T.b_zip (da_cons (de_var 0 c.cn) (da_cons (de_add (de_sliceS (de_var 0 c.cn) (do_some (de_int c.cn)) (do_none c.cn)) (de_list (da_cons (de_var 1 c.cn) (da_nil c.cn)))) (da_nil c.cn)))))))⟩), hg, F.kp, F.binds (ps := ["cycle", "saved"]) fun _ _ _ _ _ _ us hl => match us, hl with | [_, _], _ => rfl⟩
theorem fo_moves_along (T : Txt P w K mg base A.toCa) : Fo P w K mg base (O A) 1 "moves_along" 2 (m_moves_along_2 A) := by
  obtain ⟨f, fd, F, hg⟩ := T.f_moves_along
  refine fo_mk (N := ["cycle", "saved"]) F sc_moves_along hg (F.binds (ps := ["cycle", "saved"]) fun _ _ _ _ _ _ us hl => match us, hl with | [_, _], _ => rfl) (fun cdv Ar outer s H E hr c => ?_)
  exact ⟨_, ((db_one (ds_ret (dn_listZipS c T.b_list T.b_zip (da_cons (de_var 0 c.cn) (da_cons (de_add (de_sliceS (de_var 0 c.cn) (do_some (de_int c.cn)) (do_none c.cn)) (de_list (da_cons (de_var 1 c.cn) (da_nil c.cn)))) (da_nil c.cn)))).de)))⟩
theorem fo_plan (T : Txt P w K mg base A.toCa) : Fo P w K mg base (O A) 3 "plan" 1 (m_plan_2 A) := by
  have F_cycles_left := fo_cycles_left (A := A) T
  have F_moves_along := fo_moves_along (A := A) T
  have F_moves_alongN := fo_moves_alongN (A := A) T
  have F_moves_outside_cycles := fo_moves_outside_cycles (A := A) T
  have F_sources_of := fo_sources_of (A := A) T
  obtain ⟨f, fd, F, hg⟩ := T.f_plan
  refine fo_mk (N := ["pairs", "sources", "moves", "copies", "closed", "cycle", "copied", "opened", "at", "cell"]) F sc_plan hg (F.binds (ps := ["pairs"]) fun _ _ _ _ _ _ us hl => match us, hl with | [_], _ => rfl) (fun cdv Ar outer s H E hr c => ?_)
  exact ⟨_, ((db_cons (ds_set 1 c.nd (de_call F_sources_of hr (by decide) (da_cons (de_var 0 c.cn) (da_nil c.cn))))
  (db_cons (ds_asg (de_call F_moves_outside_cycles hr (by decide) (da_cons (de_var 1 c.cn) (da_nil c.cn))) (dg_tup (n := 2) c.cn.hK c.hc (dgs_cons (dg_name 2 c.nd) (dgs_cons (dg_name 3 c.nd) dgs_nil))))
  (db_cons (ds_set 4 c.nd (DN.obj (dn_list (da_nil c.cn))))
  (db_frz 2 (db_cons (ds_forS c (dj_seq (de_call F_cycles_left hr (by decide) (da_cons (de_var 1 c.cn) (da_cons (de_var 2 c.cn) (da_nil c.cn))))) (dg_name 5 c.nd)
  (db_cons (ds_setLc 6 c.nd (dlcS (own := [("at", 8), ("cell", 9)]) c (dj_enum T.b_enumerate (da_cons (de_var 5 c.cn) (da_nil c.cn))) (blkOk_by (N := ["pairs", "sources", "moves", "copies", "closed", "cycle", "copied", "opened", "at", "cell"]) (sc := defScope s_plan) (by decide +kernel)) (fun _ _ _ _ _ => (dg_tup (n := 2) c.cn.hK c.hc (dgs_cons (dg_name 8 c.nd) (dgs_cons (dg_name 9 c.nd) dgs_nil)))) (fun _ _ _ _ _ cn => (dts_one (dt_inX T.hw hr (de_var 9 cn) (de_var 3 cn)))) (fun _ _ _ _ _ cn => (de_var 8 cn))))
  (db_one (ds_if (dt_gt (de_callBS (f := dLenS) (call_lenSG c.cn.hK) vcl_lenS T.b_len (by decide +kernel) (da_cons (de_var 6 c.cn) (da_nil c.cn))) (de_int c.cn))
  (db_cons (ds_set 7 c.nd (de_add (de_sliceS (de_var 5 c.cn) (do_some (de_idxS hr (de_var 6 c.cn) (de_int c.cn))) (do_none c.cn)) (de_sliceS (de_var 5 c.cn) (do_none c.cn) (do_some (de_idxS hr (de_var 6 c.cn) (de_int c.cn))))))
  (db_one (ds_expr (de_extS (de_var 2 c.cn) (dn_call F_moves_alongN hr (by decide) (da_cons (de_var 7 c.cn) (da_cons (de_idxX T.hw hr (de_var 3 c.cn) (de_idxS hr (de_var 7 c.cn) (de_int c.cn))) (da_nil c.cn))))))))
  (db_cons (ds_expr (de_mutL own_app PySem.F.slot_list_append PySem.F.type_list_append mt_append (de_var 4 c.cn) (da_cons (de_var 5 c.cn) (da_nil c.cn))))
  (db_one (ds_expr (de_extS (de_var 2 c.cn) (dn_cat (de_list (da_cons (de_tup (da_cons (T.g_SCRATCH.choose_spec.de c.cn) (da_cons (de_idxS hr (de_var 5 c.cn) (de_int c.cn)) (da_nil c.cn)))) (da_nil c.cn))) (de_call F_moves_along hr (by decide) (da_cons (de_var 5 c.cn) (da_cons (T.g_SCRATCH.choose_spec.de c.cn) (da_nil c.cn)))))))))))))
  (db_one (ds_ret (de_tup (da_cons (de_var 2 c.cn) (da_cons (de_var 4 c.cn) (da_nil c.cn))))))))))))⟩
theorem fo_law_level (T : Txt P w K mg base A.toCa) : Fo P w K mg base (O A) 1 "_law_level" 3 (m_law_level A) := by
  obtain ⟨f, fd, F, hg⟩ := T.f_law_level
  refine fo_mk (N := ["_law_states", "_law_known", "_law_sources", "_law_found", "_law_state", "_law_target", "_law_symbol", "_law_after"]) F sc_law_level hg (F.binds (ps := ["_law_states", "_law_known", "_law_sources"]) fun _ _ _ _ _ _ us hl => match us, hl with | [_, _, _], _ => rfl) (fun cdv Ar outer s H E hr c => ?_)
  exact ⟨_, ((db_cons (ds_own 3 c.nd (dn_list (da_nil c.cn)))
  (db_cons (ds_forS c (dj_seq (de_var 0 c.cn)) (dg_name 4 c.nd)
  (db_one (ds_forS c (DI.j (di_range1 T.b_range (da_cons (de_int c.cn) (da_nil c.cn)))) (dg_name 5 c.nd)
  (db_one (ds_forS c (dj_seq (de_add (dn_listOfS T.b_list (da_cons (de_var 4 c.cn) (da_nil c.cn))).de (de_var 2 c.cn))) (dg_name 6 c.nd)
  (db_cons (ds_set 7 c.nd (de_add (de_add (de_sliceS (de_var 4 c.cn) (do_none c.cn) (do_some (de_var 5 c.cn))) (de_tup (da_cons (de_var 6 c.cn) (da_nil c.cn)))) (de_sliceS (de_var 4 c.cn) (do_some (de_add (de_var 5 c.cn) (de_int c.cn))) (do_none c.cn))))
  (db_one (ds_if (dt_notInX T.hw hr (de_var 7 c.cn) (de_var 1 c.cn))
  (db_cons (ds_setIX T.hw hr (de_var 1 c.cn) (de_var 7 c.cn) (de_bl c.cn))
  (db_one (ds_append 3 (de_var 7 c.cn))))
  db_nil))))))))
  (db_frz 3 (db_one (ds_ret (de_var 3 c.cn)))))))⟩
theorem fo_law_fewest (T : Txt P w K mg base A.toCa) : Fo P w K mg base (O A) 2 "_law_fewest" 1 (m_law_fewest A) := by
  have F_law_level := fo_law_level (A := A) T
  obtain ⟨f, fd, F, hg⟩ := T.f_law_fewest
  refine fo_mk (N := ["_law_pairs", "_law_due", "_law_target", "_law_source", "_law_sources", "_law_states", "_law_known", "_law_many", "_law_state"]) F sc_law_fewest hg (F.binds (ps := ["_law_pairs"]) fun _ _ _ _ _ _ us hl => match us, hl with | [_], _ => rfl) (fun cdv Ar outer s H E hr c => ?_)
  exact ⟨_, ((db_cons (ds_set 1 c.nd (DN.obj (dn_list (da_cons (de_int c.cn) (da_cons (de_int c.cn) (da_cons (de_int c.cn) (da_cons (de_int c.cn) (da_nil c.cn))))))))
  (db_cons (ds_forS c (dj_seq (de_var 0 c.cn)) (dg_tup (n := 2) c.cn.hK c.hc (dgs_cons (dg_name 2 c.nd) (dgs_cons (dg_name 3 c.nd) dgs_nil)))
  (db_cons (ds_setIS (hps := pg_sub (DE.pe (O := O A) (de_var 1 c.cn)) (DE.pe (O := O A) (de_var 2 c.cn)) set_list) hr (de_var 1 c.cn) (de_var 2 c.cn) (de_var 3 c.cn))
  (db_one (ds_if (dt_truthS (de_callBS (f := dIsIS) (call_isiG c.cn.hK) vcl_isIS T.b_isinstance (by decide +kernel) (da_cons (de_var 3 c.cn) (da_cons (de_bltn (v := .ty "tuple") c.cn T.b_tuple (by decide +kernel) rfl (fun _ => .ty "tuple")) (da_nil c.cn)))))
  (db_one (ds_setIS (hps := pg_sub (DE.pe (O := O A) (de_var 1 c.cn)) (DE.pe (O := O A) (de_var 2 c.cn)) set_list) hr (de_var 1 c.cn) (de_var 2 c.cn) (de_str c.cn)))
  db_nil))))
  (db_cons (ds_set 4 c.nd (dn_rep (dn_list (da_cons (de_str c.cn) (da_nil c.cn))) (de_callT (f := dIntC) (call_int1) vcl_int T.b_int (by decide +kernel) (da_cons (de_inS hr (de_str c.cn) (de_var 1 c.cn)) (da_nil c.cn)))).de)
  (db_cons (ds_set 5 c.nd (de_list (da_cons (de_tup (da_cons (de_int c.cn) (da_cons (de_int c.cn) (da_cons (de_int c.cn) (da_cons (de_int c.cn) (da_cons (de_str c.cn) (da_nil c.cn))))))) (da_nil c.cn))))
  (db_cons (ds_set 6 c.nd (de_disp1X T.hw hr (de_idxS hr (de_var 5 c.cn) (de_int c.cn)) (de_bl c.cn)))
  (db_cons (ds_set 7 c.nd (de_int c.cn))
  (db_cons (ds_while (fun _ _ => 1000) c (dt_eq hr (de_callBS (f := dLenS) (call_lenSG c.cn.hK) vcl_lenS T.b_len (by decide +kernel) (da_cons (dlcS (own := [("_law_state", 8)]) c (dj_seq (de_var 5 c.cn)) (blkOk_by (N := ["_law_pairs", "_law_due", "_law_target", "_law_source", "_law_sources", "_law_states", "_law_known", "_law_many", "_law_state"]) (sc := defScope s_law_fewest) (by decide +kernel)) (fun _ _ _ _ _ => (dg_name 8 c.nd)) (fun _ _ _ _ _ cn => (dts_one (dt_eqS hr (dn_listOfS T.b_list (da_cons (de_sliceS (de_var 8 cn) (do_none cn) (do_some (de_int cn))) (da_nil cn))).de (de_var 1 cn)))) (fun _ _ _ _ _ cn => (de_var 8 cn))).dn.de (da_nil c.cn))) (de_int c.cn))
  (db_cons (ds_set 5 c.nd (de_call F_law_level hr (by decide) (da_cons (de_var 5 c.cn) (da_cons (de_var 6 c.cn) (da_cons (de_var 4 c.cn) (da_nil c.cn))))))
  (db_one (ds_set 7 c.nd (de_add (de_var 7 c.cn) (de_int c.cn))))))
  (db_one (ds_ret (de_var 7 c.cn)))))))))))⟩
def eD (i : Nat) : Expr := match defBody s_law_draws with
  | [.Return (some (.List es _)) _] => es.getD i (.Constant .none 0 ⟨0, 0, 0, 0⟩)
  | _ => .Constant .none 0 ⟨0, 0, 0, 0⟩
theorem ok_draws {f : Addr} {fd : FuncData} (F : Fun K "_law_draws" "_law_draws" s_law_draws f fd) : FnOk P w K mg base (L2.CX P w) 1 f fd ["_law_script"] (spDraws K) := by
  refine F.okX sc_law_draws (fun vs H Q E h => by obtain ⟨l, ns, rfl, _⟩ := h; rfl) (fun cdv Ar outer s H vs Q E hr h => ?_)
  obtain ⟨l, ns, rfl, hS, hl, q⟩ := h
  have tk : Takes (cxOf (L2.CX P w) P w K mg base ["_law_script", "_law_cell"] "_law_draws" (defScope s_law_draws) f cdv Ar outer s H E) (fun cls d _ H => E cls d H) := takes_of rfl rfl rfl rfl
  have c : Cs K (fun cls d _ H => E cls d H) (cxOf (L2.CX P w) P w K mg base ["_law_script", "_law_cell"] "_law_draws" (defScope s_law_draws) f cdv Ar outer s H E) := ⟨⟨rfl, tk⟩, passes_of rfl, rfl, sc_law_draws.nd⟩
  have d1 : ∃ t, DN K W0 (fun cls d _ H => E cls d H) (cxOf (L2.CX P w) P w K mg base ["_law_script", "_law_cell"] "_law_draws" (defScope s_law_draws) f cdv Ar outer s H E) (eD 0) t (mLc W0 (mItS W0 (mVar W0 0)) (fName 1) (mTest W0 (mBin W0 dGe (mVar W0 1) (mBin W0 dPow (mC W0 (.int 10)) (mC W0 (.int 18))))) (mVar W0 1) [1]) := ⟨_, (dlc (K := K) (O := W0) (own := [("_law_cell", 1)]) c (di_seq (de_var 0 c.cn)) (blkOk_by (N := ["_law_script", "_law_cell"]) (sc := defScope s_law_draws) (by decide +kernel)) (fun _ _ _ _ _ => (dg_name 1 c.nd)) (fun _ _ _ _ _ cn => (dts_one (dt_ge (de_var 1 cn) (de_pow (de_int cn) (de_int cn))))) (fun _ _ _ _ _ cn => (de_var 1 cn))).dn⟩
  obtain ⟨t1, d1⟩ := d1
  have d2 : ∃ t, DN K W0 (fun cls d _ H => E cls d H) (cxOf (L2.CX P w) P w K mg base ["_law_script", "_law_cell"] "_law_draws" (defScope s_law_draws) f cdv Ar outer s H E) (eD 2) t (mLc W0 (mItS W0 (mVar W0 0)) (fName 1) (mTest W0 (mBin W0 dLt (mVar W0 1) (mBin W0 dPow (mC W0 (.int 10)) (mC W0 (.int 18))))) (mVar W0 1) [1]) := ⟨_, (dlc (K := K) (O := W0) (own := [("_law_cell", 1)]) c (di_seq (de_var 0 c.cn)) (blkOk_by (N := ["_law_script", "_law_cell"]) (sc := defScope s_law_draws) (by decide +kernel)) (fun _ _ _ _ _ => (dg_name 1 c.nd)) (fun _ _ _ _ _ cn => (dts_one (dt_lt (de_var 1 cn) (de_pow (de_int cn) (de_int cn))))) (fun _ _ _ _ _ cn => (de_var 1 cn))).dn⟩
  obtain ⟨t2, d2⟩ := d2
  refine ⟨_, pss_one (ps_ret (pe_lst (pa_cons d1.pe (pa_cons pe_int (pa_cons d2.pe (pa_cons pe_int pa_nil)))))), ?_⟩
  exact draws_read (E := E) rfl d1.sn d2.sn rfl hS (draws_m1 hl) (draws_m2 hl) q
theorem ok_law {C : Ca} {f : Addr} {fd : FuncData} (T : Txt P w K mg base C) (F : Fun K "law" "law" s_law f fd)
    (hm : ∀ (A : Ad) (ns : List Int), A.es = [] → A.toCa.Inj → ns.length ≤ 63 → ∃ s, mb_law A (.sh (.lst (ns.map D.int)) :: .sh (.ref A.d) :: List.replicate 3 .no) ⟨ns.filter (fun n => decide (10 ^ 18 ≤ n)), 0, ns.filter (fun n => decide (n < 10 ^ 18)), 0, []⟩ = .rt (.bl true) s) :
    FnOk P w K mg base (L2.CX P w) 4 f fd ["_law_script"] (spLaw K) := by
  obtain ⟨fD, fdD, FD, gD⟩ := T.f_law_draws
  have GD : FnOk P w K mg base (L2.CX P w) 1 fD fdD ["_law_script"] (spDraws K) := ok_draws FD
  have bD := FD.binds (ps := ["_law_script"]) fun _ _ _ _ _ _ us hl => match us, hl with | [_], _ => rfl
  refine F.okX (N := ["_law_script", "_law_draws_here", "_law_pairs", "_law_moves", "_law_cycles"]) sc_law (fun vs H Q E h => by obtain ⟨l, ns, rfl, _⟩ := h; rfl) (fun cdv Ar outer s H vs Q E hr h => ?_)
  obtain ⟨l, ns, rfl, hS, hl, q⟩ := h
  have tk : Takes (cxOf (L2.CX P w) P w K mg base ["_law_script", "_law_draws_here", "_law_pairs", "_law_moves", "_law_cycles"] "law" (defScope s_law) f cdv Ar outer s H E) (fun cls d _ H => E cls d H) := takes_of rfl rfl rfl rfl
  have c : Cs K (fun cls d _ H => E cls d H) (cxOf (L2.CX P w) P w K mg base ["_law_script", "_law_draws_here", "_law_pairs", "_law_moves", "_law_cycles"] "law" (defScope s_law) f cdv Ar outer s H E) := ⟨⟨rfl, tk⟩, passes_of rfl, rfl, sc_law.nd⟩
  have D : ∀ o : Addr × Addr × Addr, ∃ t, DB K (O ⟨C, o.1, o.2.1, o.2.2⟩) (fun cls d _ H => E cls d H) (cxOf (L2.CX P w) P w K mg base ["_law_script", "_law_draws_here", "_law_pairs", "_law_moves", "_law_cycles"] "law" (defScope s_law) f cdv Ar outer s H E) (defBody s_law).tail t (mb_law ⟨C, o.1, o.2.1, o.2.2⟩) := by
    intro o
    let A : Ad := ⟨C, o.1, o.2.1, o.2.2⟩
    have F_law_fewest := fo_law_fewest (A := A) T
    have F_law_small := fo_law_small (A := A) T
    have F_plan := fo_plan (A := A) T
    exact ⟨_, (db_cons (ds_set 2 c.nd (de_call F_law_small hr (by decide) (da_cons (de_var 1 c.cn) (da_nil c.cn))))
  (db_cons (ds_asg (de_call F_plan hr (by decide) (da_cons (de_var 2 c.cn) (da_nil c.cn))) (dg_tup (n := 2) c.cn.hK c.hc (dgs_cons (dg_name 3 c.nd) (dgs_cons (dg_name 4 c.nd) dgs_nil))))
  (db_one (ds_ret (de_eqS hr (de_callBS (f := dLenS) (call_lenSG c.cn.hK) vcl_lenS T.b_len (by decide +kernel) (da_cons (de_var 3 c.cn) (da_nil c.cn))) (de_call F_law_fewest hr (by decide) (da_cons (de_var 2 c.cn) (da_nil c.cn))))))))⟩
  refine ⟨_, pss_cons (rest := (defBody s_law).tail) (ps_set (i := 1) sc_law.nd rfl (by first | exact Or.inl rfl | exact Or.inr rfl) (pe_callS GD (hr.mono (by decide)) (by rfl) gD FD.kp bD (fun σ => passAt tk σ) (pa_cons (pv 0) pa_nil))) (pss_ex fun o => (D o).choose_spec.pe), ?_⟩
  refine ⟨.ref l, rfl, l, ns, rfl, hS, by omega, fun H1 d a b sm nd na nb ok => ⟨(d, a, b), ?_⟩⟩
  obtain ⟨s1, e⟩ := hm ⟨C, d, a, b⟩ ns T.es T.inj hl
  refine (D (d, a, b)).choose_spec.sn (gf H) H1 _ _ (gf H) H1 _ _ (law_fm (n := 3) hS sm nd na nb ok rfl rfl rfl rfl) ?_
  rw [e]
  exact fun v G' H' _ _ _ r => by cases r; exact q H'
end
end
end K26
namespace S
open PySem PySem.Spec PyProof.Rows L2 RZ Mr
/-- what the cells hold; a source below -1 is a constant -/
def exF (f : Int → Int) (m : Int × Int) : Int → Int := fun x => if x = m.1 then (if m.2 < -1 then m.2 else f m.2) else f x
def exA (f : Int → Int) (ms : Prs) : Int → Int := ms.foldl exF f
theorem exA_app (f : Int → Int) (a b : Prs) : exA f (a ++ b) = exA (exA f a) b := List.foldl_append
section
variable {L : Prs} {W : List Int} {cp : List (Key × Int)} {C : List (List Int)}
/-- outside the cycles -/
theorem ex_out (nd : (tgs L).Nodup) (h : Out1 L W W.length cp) : ∀ i, i ≤ W.length → ∀ x, exA (fun c => c) (mvR L (W.take i)) x = if x ∈ W.take i then sL L x else x
  | 0, _, x => by rw [List.take_zero]; simp [mvR, exA]
  | i + 1, hi, x => by
    have ht := List.getElem?_eq_getElem (show i < W.length by omega)
    generalize W[i] = t at ht
    have ih := ex_out nd h i (by omega)
    have e : W.take (i + 1) = W.take i ++ [t] := by rw [List.take_add_one, ht]; rfl
    have em : mvR L (W.take i ++ [t]) = mvR L (W.take i) ++ [(t, sL L t)] := by unfold mvR; rw [List.map_append]; rfl
    rw [e, em, exA_app]
    show exF (exA (fun c => c) (mvR L (W.take i))) (t, sL L t) x = _
    have nt : sL L t ∉ W.take i := fun z => by
      obtain ⟨k, hk⟩ := List.mem_iff_getElem?.mp z
      have kl : k < i := by have := lt_of_some hk; rw [List.length_take] at this; omega
      rw [List.getElem?_take_of_lt kl] at hk
      have tm : t ∈ tgs L := h.sub t (List.mem_of_getElem? ht)
      have := h.ord k _ hk (t, sL L t) (sL_pair nd tm) rfl
      have nn := not_take h.nd ht
      exact nn ((List.take_subset_take_left W (Nat.le_of_lt kl)) this)
    unfold exF
    by_cases hx : x = t
    · subst hx
      dsimp only
      rw [if_pos rfl, if_pos (show x ∈ W.take i ++ [x] by simp)]
      by_cases hc : sL L x < -1
      · rw [if_pos hc]
      · rw [if_neg hc, ih, if_neg nt]
    · rw [if_neg hx, ih]
      by_cases hm : x ∈ W.take i
      · rw [if_pos hm, if_pos (List.mem_append_left _ hm)]
      · rw [if_neg hm, if_neg (fun z => by rcases List.mem_append.mp z with z | z; exact hm z; exact hx (List.mem_singleton.mp z))]
/-- along a cycle -/
theorem ex_along : ∀ (o : List Int) {f : Int → Int} {sv v0 : Int}, o ≠ [] → o.Nodup → (∀ x ∈ o, -1 ≤ x) → -1 ≤ sv → sv ∉ o → (∀ (i : Nat) a b, o[i]? = some a → o[i + 1]? = some b → sL L a = b) → (∀ a, o.getLast? = some a → sL L a = v0) → (∀ x ∈ o.drop 1, f x = x) → f sv = v0 → ∀ y, exA f (alongL o sv) y = if y ∈ o then sL L y else f y
  | [], _, _, _, h, _, _, _, _, _, _, _, _, _ => absurd rfl h
  | [x], f, sv, v0, _, _, hx, hsv, hn, _, hlast, _, hf, y => by
    show exF f (x, sv) y = _
    unfold exF
    dsimp only
    by_cases hy : y = x
    · rw [if_pos hy, if_neg (by omega), if_pos (by rw [hy]; simp), hf, hy, hlast x rfl]
    · rw [if_neg hy, if_neg (by simpa using hy)]
  | x :: h :: o, f, sv, v0, _, nd, hx, hsv, hn, hnx, hlast, hid, hf, y => by
    have ea : alongL (x :: h :: o) sv = (x, h) :: alongL (h :: o) sv := rfl
    rw [ea]
    show exA (exF f (x, h)) (alongL (h :: o) sv) y = _
    rw [List.nodup_cons] at nd
    have hh : -1 ≤ h := hx h (by simp)
    have ih := ex_along (h :: o) (f := exF f (x, h)) (sv := sv) (v0 := v0) (by simp) nd.2 (fun z hz => hx z (List.mem_cons_of_mem _ hz)) hsv (fun z => hn (List.mem_cons_of_mem _ z)) (fun i a b h1 h2 => hnx (i + 1) a b h1 h2) (fun a ha => hlast a (by rw [List.getLast?_cons_cons]; exact ha)) (fun z hz => by
      have hzm : z ∈ h :: o := List.mem_of_mem_drop hz
      have nz : z ≠ x := fun e => nd.1 (e ▸ hzm)
      unfold exF
      rw [if_neg nz]
      exact hid z (by simpa using hzm)) (by
      have nz : sv ≠ x := fun e => hn (by rw [e]; simp)
      unfold exF
      rw [if_neg nz, hf])
    rw [ih]
    by_cases hm : y ∈ h :: o
    · rw [if_pos hm, if_pos (List.mem_cons_of_mem _ hm)]
    · rw [if_neg hm]
      unfold exF
      dsimp only
      by_cases hy : y = x
      · rw [if_pos hy, if_neg (by omega), if_pos (by rw [hy]; simp), hid h (by simp), hy]
        exact (hnx 0 x h rfl rfl).symm
      · rw [if_neg hy, if_neg (by simp only [List.mem_cons] at hm ⊢; rintro (z | z); exact hy z; exact hm z)]
/-- a cycle begun elsewhere -/
theorem cy_rot {F cy : List Int} (h : Cy L F cy) {i : Nat} {c : Int} (hi : cy[i]? = some c) : (∀ (j : Nat) a b, (cy.drop i ++ cy.take i)[j]? = some a → (cy.drop i ++ cy.take i)[j + 1]? = some b → sL L a = b) ∧ (∀ a, (cy.drop i ++ cy.take i).getLast? = some a → sL L a = c) ∧ (cy.drop i ++ cy.take i).Perm cy := by
  have hl := lt_of_some hi
  have ld : (cy.drop i).length = cy.length - i := List.length_drop
  have lt : (cy.take i).length = i := by rw [List.length_take]; omega
  have h0 := h.hd0
  refine ⟨fun j a b ha hb => ?_, fun a ha => ?_, ?_⟩
  · by_cases h1 : j + 1 < cy.length - i
    · rw [List.getElem?_append_left (by omega), List.getElem?_drop] at ha hb
      exact h.nxt (i + j) a b ha (by rw [show i + j + 1 = i + (j + 1) by omega]; exact hb)
    · by_cases h2 : j < cy.length - i
      · have : j = cy.length - i - 1 := by omega
        subst this
        rw [List.getElem?_append_left (by omega), List.getElem?_drop] at ha
        rw [List.getElem?_append_right (by omega), ld, show cy.length - i - 1 + 1 - (cy.length - i) = 0 by omega] at hb
        have i0 : 0 < i := by have := lt_of_some hb; omega
        rw [List.getElem?_take_of_lt i0, h0] at hb
        rw [← Option.some.inj hb]
        exact h.last (by rw [show cy.length - 1 = i + (cy.length - i - 1) by omega]; exact ha)
      · rw [List.getElem?_append_right (by omega), ld] at ha hb
        have l2 := lt_of_some hb
        rw [lt] at l2
        rw [List.getElem?_take_of_lt (by omega)] at ha hb
        exact h.nxt _ a b ha (by rw [show j - (cy.length - i) + 1 = j + 1 - (cy.length - i) by omega]; exact hb)
  · by_cases i0 : i = 0
    · subst i0
      rw [List.take_zero, List.append_nil, List.drop_zero] at ha
      rw [List.getLast?_eq_getElem?] at ha
      rw [h.last ha]
      rw [h0] at hi
      exact Option.some.inj hi
    · rw [List.getLast?_append] at ha
      have tl : (cy.take i).getLast? = cy[i - 1]? := by rw [List.getLast?_eq_getElem?, lt, List.getElem?_take_of_lt (by omega)]
      rw [tl, List.getElem?_eq_getElem (show i - 1 < cy.length by omega)] at ha
      have ha : cy[i - 1]? = some a := by rw [List.getElem?_eq_getElem (show i - 1 < cy.length by omega)]; exact ha
      exact h.nxt (i - 1) a c ha (by rw [show i - 1 + 1 = i by omega]; exact hi)
  · exact (List.perm_append_comm).trans (by rw [List.take_append_drop])
theorem ex_add (pos : ∀ x ∈ tgs L, 0 ≤ x) {F cy : List Int} {ms : Prs} (hF : ∀ x ∈ F, x ∈ tgs L) (h : Out1 L W W.length cp) (hc : Cy L F cy) (ha : AddX cp cy ms) {f : Int → Int} (hid : ∀ x ∈ cy, f x = x) (hW : ∀ x ∈ W, f x = sL L x) (off : ∀ x ∈ cy, x ∉ W) : ∀ y, y ≠ -1 → exA f ms y = if y ∈ cy then sL L y else f y := fun y hy => by
  have p0 : ∀ x ∈ cy, 0 ≤ x := fun x hx => pos x (hF x (hc.sub x hx))
  by_cases hb : clB cp cy = true
  · obtain ⟨c0, h0, rfl⟩ := ha.cl hb
    have hh := hc.hd0
    have e0 : hdI cy = c0 := by rw [hh] at h0; exact Option.some.inj h0
    have c0m := List.mem_of_getElem? h0
    show exA (exF f (-1, c0)) (alongL cy (-1)) y = _
    have nm : (-1 : Int) ∉ cy := fun z => by have := p0 _ z; omega
    have q := ex_along (L := L) cy (f := exF f (-1, c0)) (sv := -1) (v0 := c0) hc.ne hc.nd (fun x hx => by have := p0 x hx; omega) (by omega) nm hc.nxt (fun a hl => by
      rw [List.getLast?_eq_getElem?] at hl
      rw [hc.last hl, e0]) (fun x hx => by
      have hx := List.mem_of_mem_drop hx
      have nx : x ≠ -1 := fun e => nm (e ▸ hx)
      unfold exF
      rw [if_neg nx]
      exact hid x hx) (by
      unfold exF
      have := p0 c0 c0m
      rw [if_pos rfl, if_neg (by dsimp only; omega)]
      exact hid c0 c0m) y
    rw [q]
    by_cases hm : y ∈ cy
    · rw [if_pos hm, if_pos hm]
    · rw [if_neg hm, if_neg hm]
      unfold exF
      rw [if_neg hy]
  · have hb : clB cp cy = false := by simpa using hb
    obtain ⟨i, c, sv, hi, hv, _, rfl⟩ := ha.op hb
    obtain ⟨z, ez, hw, hs⟩ := h.cpk _ _ hv
    cases ez
    rw [List.take_length] at hw
    obtain ⟨r1, r2, r3⟩ := cy_rot hc hi
    have mem : ∀ x, x ∈ cy.drop i ++ cy.take i ↔ x ∈ cy := fun x => r3.mem_iff
    have svt := h.sub sv hw
    have q := ex_along (L := L) (cy.drop i ++ cy.take i) (f := f) (sv := sv) (v0 := c) (fun e => hc.ne (by have := r3.length_eq; rw [e] at this; exact List.length_eq_zero_iff.mp this.symm)) (r3.nodup_iff.mpr hc.nd) (fun x hx => by have := p0 x ((mem x).mp hx); omega) (by have := pos sv svt; omega) (fun z => off sv ((mem sv).mp z) hw) r1 r2 (fun x hx => hid x ((mem x).mp (List.mem_of_mem_drop hx))) (by rw [hW sv hw, hs]) y
    rw [q]
    by_cases hm : y ∈ cy
    · rw [if_pos ((mem y).mpr hm), if_pos hm]
    · rw [if_neg (fun z => hm ((mem y).mp z)), if_neg hm]
theorem ex_adds (pos : ∀ x ∈ tgs L, 0 ≤ x) {F : List Int} {ms : Prs} (hF : ∀ x ∈ F, x ∈ tgs L) (offF : ∀ x ∈ F, x ∉ W) (h : Out1 L W W.length cp) (ha : AddsX cp C ms) : (∀ cy ∈ C, Cy L F cy) → C.flatten.Nodup → ∀ {f : Int → Int}, (∀ x ∈ F, f x = x) → (∀ x ∈ W, f x = sL L x) → ∀ y, y ≠ -1 → exA f ms y = if y ∈ C.flatten then sL L y else f y := by
  induction ha with
  | nil => exact fun _ _ f _ _ y _ => by simp [exA]
  | @snoc C ms cy m h1 h2 ih =>
    intro hall hnd f hid hW y hy
    rw [List.flatten_append, List.nodup_append] at hnd
    have fl : [cy].flatten = cy := by simp
    rw [fl] at hnd
    have hcy := hall cy (by simp)
    have ih := ih (fun c hc => hall c (List.mem_append_left _ hc)) hnd.1 hid hW
    have inF : ∀ x ∈ C.flatten, x ∈ F := fun x hx => by
      obtain ⟨c, hc, hx⟩ := List.mem_flatten.mp hx
      exact (hall c (List.mem_append_left _ hc)).sub x hx
    rw [exA_app]
    have q := ex_add pos hF h hcy h2 (f := exA f ms) (fun x hx => by
      have xF := hcy.sub x hx
      have := pos x (hF x xF)
      rw [ih x (by omega), if_neg (fun z => hnd.2.2 x z x hx rfl)]
      exact hid x xF) (fun x hx => by
      have := pos x (h.sub x hx)
      rw [ih x (by omega), if_neg (fun z => offF x (inF x z) hx)]
      exact hW x hx) (fun x hx => offF x (hcy.sub x hx)) y hy
    rw [q, ih y hy, List.flatten_append, fl]
    by_cases h1 : y ∈ cy
    · rw [if_pos h1, if_pos (List.mem_append_right _ h1)]
    · rw [if_neg h1]
      by_cases h2 : y ∈ C.flatten
      · rw [if_pos h2, if_pos (List.mem_append_left _ h2)]
      · rw [if_neg h2, if_neg (fun z => by rcases List.mem_append.mp z with z | z; exact h2 z; exact h1 z)]
/-- the moves of plan -/
theorem plan_right (nd : (tgs L).Nodup) (pos : ∀ x ∈ tgs L, 0 ≤ x) {ms : Prs} (h : Out1 L W W.length cp) (cl : Cls L (lft L W) (sortI (tgs L)) C) (ha : AddsX cp C ms) : ∀ y, y ≠ -1 → exA (fun c => c) (mvR L W ++ ms) y = if y ∈ tgs L then sL L y else y := fun y hy => by
  have o := ex_out nd h W.length (Nat.le_refl _)
  rw [List.take_length] at o
  rw [exA_app]
  have q := ex_adds pos (F := lft L W) (fun x hx => (mem_lft.mp hx).1) (fun x hx => (mem_lft.mp hx).2) h ha cl.all cl.dis (f := exA (fun c => c) (mvR L W)) (fun x hx => by rw [o, if_neg (mem_lft.mp hx).2]) (fun x hx => by rw [o, if_pos hx]) y hy
  rw [q, o]
  by_cases hc : y ∈ C.flatten
  · rw [if_pos hc, if_pos (mem_lft.mp (cl.sub y hc)).1]
  · rw [if_neg hc]
    by_cases hw : y ∈ W
    · rw [if_pos hw, if_pos (h.sub y hw)]
    · rw [if_neg hw]
      by_cases ht : y ∈ tgs L
      · exact absurd (cl.cov y ((sortI_perm (tgs L)).mem_iff.mpr ht) (mem_lft.mpr ⟨ht, hw⟩)) hc
      · rw [if_neg ht]
end
end S
namespace S
open PySem PySem.Spec PyProof.Rows L2 RZ Mr
def dueC (L : Prs) (c : Int) : Int := if c ∈ tgs L then sL L c else c
def dueL (L : Prs) : List Int := [dueC L 0, dueC L 1, dueC L 2, dueC L 3]
def srcs (L : Prs) (K : Int) : List Int := if K ∈ dueL L then [K] else []
def st0 : List Int := [0, 1, 2, 3, -1]
inductive Rch (Z : List Int) : Nat → List Int → Prop
  | zero : Rch Z 0 st0
  | stay {k : Nat} {s : List Int} : Rch Z k s → Rch Z (k + 1) s
  | move {k p : Nat} {s : List Int} {x : Int} : Rch Z k s → p < 5 → x ∈ s ++ Z → Rch Z (k + 1) (s.set p x)
theorem Rch.len {Z : List Int} {k : Nat} {s : List Int} (h : Rch Z k s) : s.length = 5 := by
  induction h with
  | zero => rfl
  | stay _ ih => exact ih
  | move _ _ _ ih => rw [List.length_set]; exact ih
structure Sml (L : Prs) (K : Int) : Prop where
  nd : (tgs L).Nodup
  rg : ∀ x ∈ tgs L, 0 ≤ x ∧ x < 4
  ne : ∀ t ∈ tgs L, sL L t ≠ t
  sr : ∀ t ∈ tgs L, (0 ≤ sL L t ∧ sL L t < 4) ∨ sL L t = K
  kk : K < -1
theorem cnt_le {α : Type} {P Q : α → Bool} : ∀ {l : List α}, (∀ b ∈ l, P b = true → Q b = true) → (l.filter P).length ≤ (l.filter Q).length
  | [], _ => Nat.le_refl _
  | a :: l, h => by
    have ih := cnt_le (l := l) fun b hb => h b (List.mem_cons_of_mem _ hb)
    have ha := h a List.mem_cons_self
    rw [List.filter_cons, List.filter_cons]
    by_cases hp : P a = true
    · rw [if_pos hp, if_pos (ha hp), List.length_cons, List.length_cons]
      omega
    · rw [if_neg hp]
      split
      · rw [List.length_cons]; omega
      · exact ih
theorem cnt_le1 {α : Type} {P Q : α → Bool} {a : α} : ∀ {l : List α}, l.Nodup → (∀ b ∈ l, b ≠ a → P b = true → Q b = true) → (l.filter P).length ≤ (l.filter Q).length + 1
  | [], _, _ => by simp
  | c :: l, nd, h => by
    rw [List.nodup_cons] at nd
    rw [List.filter_cons, List.filter_cons]
    by_cases hc : c = a
    · have q := cnt_le (P := P) (Q := Q) (l := l) fun b hb => h b (List.mem_cons_of_mem _ hb) (fun e => nd.1 (by rw [hc, ← e]; exact hb))
      split <;> split <;> (try simp only [List.length_cons]) <;> omega
    · have ih := cnt_le1 (l := l) nd.2 fun b hb => h b (List.mem_cons_of_mem _ hb)
      have hq := h c List.mem_cons_self hc
      by_cases hp : P c = true
      · rw [if_pos hp, if_pos (hq hp), List.length_cons, List.length_cons]
        omega
      · rw [if_neg hp]
        split
        · rw [List.length_cons]; omega
        · exact ih
theorem nd_of_flat : ∀ {C : List (List Int)}, C.flatten.Nodup → (∀ c ∈ C, c ≠ []) → C.Nodup
  | [], _, _ => List.nodup_nil
  | c :: C, h, hne => by
    rw [List.flatten_cons, List.nodup_append] at h
    refine List.nodup_cons.mpr ⟨fun hm => ?_, nd_of_flat h.2.1 fun x hx => hne x (List.mem_cons_of_mem _ hx)⟩
    cases c with
    | nil => exact hne [] List.mem_cons_self rfl
    | cons y c => exact h.2.2 y List.mem_cons_self y (List.mem_flatten.mpr ⟨_, hm, List.mem_cons_self⟩) rfl
theorem flat_one : ∀ {C : List (List Int)} {c d : List Int} {x : Int}, C.flatten.Nodup → c ∈ C → d ∈ C → x ∈ c → x ∈ d → c = d
  | e :: C, c, d, x, h, hc, hd, xc, xd => by
    rw [List.flatten_cons, List.nodup_append] at h
    rcases List.mem_cons.mp hc with ec | mc <;> rcases List.mem_cons.mp hd with ed | md
    · rw [ec, ed]
    · exact absurd rfl (h.2.2 x (ec ▸ xc) x (List.mem_flatten.mpr ⟨_, md, xd⟩))
    · exact absurd rfl (h.2.2 x (ed ▸ xd) x (List.mem_flatten.mpr ⟨_, mc, xc⟩))
    · exact flat_one h.2.1 mc md xc xd
section
variable {L : Prs} {K : Int} {CC : List (List Int)}
/-- closed cycles -/
structure Clo (L : Prs) (CC : List (List Int)) : Prop where
  cy : ∀ c ∈ CC, Cy L (tgs L) c
  cl : ∀ c ∈ CC, ∀ t ∈ tgs L, sL L t ∈ c → t ∈ c
  nd : CC.flatten.Nodup
def Unt (s : List Int) (c : List Int) : Prop := ∀ (p : Nat) x, s[p]? = some x → x ∈ c → x = (p : Int)
open Classical in
noncomputable def untN (CC : List (List Int)) (s : List Int) : Nat := (CC.filter fun c => decide (Unt s c)).length
def wrgN (L : Prs) (s : List Int) : Nat := ((tgs L).filter fun t => decide (s[t.toNat]? ≠ some (sL L t))).length
def Live (L : Prs) (K : Int) (s : List Int) : Prop := ∀ t ∈ tgs L, sL L t = K ∨ sL L t ∈ s
theorem Cy.pred {F c : List Int} (h : Cy L F c) {x : Int} (hx : x ∈ c) : ∃ y ∈ c, sL L y = x := by
  obtain ⟨i, hi⟩ := List.mem_iff_getElem?.mp hx
  cases i with
  | zero =>
    have n0 : 0 < c.length := List.length_pos_iff.mpr h.ne
    have a1 := List.getElem?_eq_getElem (show c.length - 1 < c.length by omega)
    refine ⟨_, List.mem_of_getElem? a1, ?_⟩
    rw [h.last a1]
    rw [h.hd0] at hi
    exact Option.some.inj hi
  | succ i =>
    have hl := lt_of_some hi
    have a1 := List.getElem?_eq_getElem (show i < c.length by omega)
    exact ⟨_, List.mem_of_getElem? a1, h.nxt i _ _ a1 hi⟩
theorem live_back {s : List Int} {p : Nat} {x : Int} (hx : x ∈ s ∨ x = K) (h : Live L K (s.set p x)) : Live L K s := fun t ht => by
  rcases h t ht with e | hm
  · exact .inl e
  · rcases List.mem_or_eq_of_mem_set hm with hm | e
    · exact .inr hm
    · rcases hx with hx | hx
      · exact .inr (e ▸ hx)
      · exact .inl (e.trans hx)
theorem step_le (Sm : Sml L K) (Cl : Clo L CC) {s : List Int} (hl : s.length = 5) {p : Nat} (hp : p < 5) {x : Int} (hx : x ∈ s ∨ x = K) (lv : Live L K (s.set p x)) : wrgN L s + untN CC s ≤ wrgN L (s.set p x) + untN CC (s.set p x) + 1 := by
  classical
  have sp : (s.set p x)[p]? = some x := List.getElem?_set_self (by omega)
  have so : ∀ q, q ≠ p → (s.set p x)[q]? = s[q]? := fun q hq => List.getElem?_set_ne (Ne.symm hq)
  have keepU : ∀ c, x ∉ c → Unt s c → Unt (s.set p x) c := fun c hn hu q y hq hy => by
    by_cases e : q = p
    · subst e
      rw [sp] at hq
      cases hq
      exact absurd hy hn
    · rw [so q e] at hq
      exact hu q y hq hy
  have keepW : ∀ t ∈ tgs L, t ≠ (p : Int) → (s.set p x)[t.toNat]? = s[t.toNat]? := fun t ht hne => so _ (by have := (Sm.rg t ht).1; omega)
  by_cases hc : ∃ c ∈ CC, x ∈ c ∧ Unt s c ∧ ¬ Unt (s.set p x) c
  · obtain ⟨c, hcm, hxc, hu, hnu⟩ := hc
    have u1 : untN CC s ≤ untN CC (s.set p x) + 1 := by
      unfold untN
      refine cnt_le1 (a := c) (nd_of_flat Cl.nd fun d hd => (Cl.cy d hd).ne) fun d hd hne hud => ?_
      exact decide_eq_true (keepU d (fun z => hne (flat_one Cl.nd hd hcm z hxc)) (of_decide_eq_true hud))
    have w1 : wrgN L s ≤ wrgN L (s.set p x) := by
      unfold wrgN
      refine cnt_le fun t ht hw => decide_eq_true fun e => ?_
      have hw := of_decide_eq_true hw
      by_cases htp : t = (p : Int)
      · have tn : t.toNat = p := by omega
        rw [tn, sp] at e
        have e : x = sL L t := Option.some.inj e
        have tc : t ∈ c := Cl.cl c hcm t ht (by rw [← e]; exact hxc)
        obtain ⟨r, hr, er⟩ := (Cl.cy c hcm).pred tc
        have rt := (Cl.cy c hcm).sub r hr
        have t0 := (Sm.rg t ht).1
        rcases lv r rt with z | z
        · have := Sm.kk
          rw [er] at z
          omega
        · rw [er] at z
          obtain ⟨q, hq⟩ := List.mem_iff_getElem?.mp z
          by_cases hqp : q = p
          · rw [hqp, sp] at hq
            have : x = t := Option.some.inj hq
            exact Sm.ne t ht (by rw [← e, this])
          · rw [so q hqp] at hq
            have := hu q t hq tc
            omega
      · rw [keepW t ht htp] at e
        exact hw e
    omega
  · have u1 : untN CC s ≤ untN CC (s.set p x) := by
      unfold untN
      refine cnt_le fun d hd hud => decide_eq_true ?_
      have hud := of_decide_eq_true hud
      by_cases hxd : x ∈ d
      · exact Classical.byContradiction fun z => hc ⟨d, hd, hxd, hud, z⟩
      · exact keepU d hxd hud
    have w1 : wrgN L s ≤ wrgN L (s.set p x) + 1 := by
      unfold wrgN
      refine cnt_le1 (a := (p : Int)) Sm.nd fun t ht hne hw => decide_eq_true ?_
      rw [keepW t ht hne]
      exact of_decide_eq_true hw
    omega
theorem src_K {x : Int} {s : List Int} (h : x ∈ s ++ srcs L K) : x ∈ s ∨ x = K := by
  rcases List.mem_append.mp h with h | h
  · exact .inl h
  · unfold srcs at h
    split at h
    · exact .inr (List.mem_singleton.mp h)
    · cases h
theorem rch_le (Sm : Sml L K) (Cl : Clo L CC) {k : Nat} {s : List Int} (h : Rch (srcs L K) k s) : Live L K s → wrgN L st0 + untN CC st0 ≤ k + (wrgN L s + untN CC s) := by
  induction h with
  | zero => exact fun _ => by omega
  | stay _ ih => exact fun lv => by have := ih lv; omega
  | @move k p s x h hp hx ih =>
    intro lv
    have hx := src_K hx
    have a := ih (live_back hx lv)
    have b := step_le Sm Cl h.len hp hx lv
    omega
theorem st0_at {c : Int} (h : 0 ≤ c ∧ c < 4) : st0[c.toNat]? = some c := by
  have : c = 0 ∨ c = 1 ∨ c = 2 ∨ c = 3 := by omega
  rcases this with rfl | rfl | rfl | rfl <;> rfl
theorem filter_len {α : Type} {P : α → Bool} {l : List α} (h : ∀ b ∈ l, P b = true) : (l.filter P).length = l.length := by rw [List.filter_eq_self.mpr h]
theorem wrg0 (Sm : Sml L K) : wrgN L st0 = L.length := by
  unfold wrgN
  rw [filter_len fun t ht => decide_eq_true (by rw [st0_at (Sm.rg t ht)]; exact fun e => Sm.ne t ht (Option.some.inj e).symm)]
  exact List.length_map _
theorem unt0 (Sm : Sml L K) (Cl : Clo L CC) : untN CC st0 = CC.length := by
  classical
  unfold untN
  refine filter_len fun c hc => decide_eq_true fun p x hp hx => ?_
  have rx := Sm.rg x ((Cl.cy c hc).sub x hx)
  have lp := lt_of_some hp
  have : p = 0 ∨ p = 1 ∨ p = 2 ∨ p = 3 ∨ p = 4 := by have : st0.length = 5 := rfl; omega
  rcases this with rfl | rfl | rfl | rfl | rfl <;> (have hp := Option.some.inj hp; omega)
/-- a goal holds what is due -/
def Goal (L : Prs) (s : List Int) : Prop := s.take 4 = dueL L
theorem goal_at {s : List Int} (g : Goal L s) {c : Int} (h : 0 ≤ c ∧ c < 4) : s[c.toNat]? = some (dueC L c) := by
  have e : (s.take 4)[c.toNat]? = s[c.toNat]? := List.getElem?_take_of_lt (by omega)
  rw [← e, g]
  have : c = 0 ∨ c = 1 ∨ c = 2 ∨ c = 3 := by omega
  rcases this with rfl | rfl | rfl | rfl <;> rfl
theorem goal_tg (Sm : Sml L K) {s : List Int} (g : Goal L s) {t : Int} (ht : t ∈ tgs L) : s[t.toNat]? = some (sL L t) := by
  rw [goal_at g (Sm.rg t ht)]
  unfold dueC
  rw [if_pos ht]
/-- no list of fewer moves -/
theorem lower (Sm : Sml L K) (Cl : Clo L CC) {k : Nat} {s : List Int} (h : Rch (srcs L K) k s) (g : Goal L s) : L.length + CC.length ≤ k := by
  classical
  have lv : Live L K s := fun t ht => .inr (List.mem_of_getElem? (goal_tg Sm g ht))
  have w0 : wrgN L s = 0 := by
    unfold wrgN
    rw [List.length_eq_zero_iff, List.filter_eq_nil_iff]
    exact fun t ht z => of_decide_eq_true z (goal_tg Sm g ht)
  have u0 : untN CC s = 0 := by
    unfold untN
    rw [List.length_eq_zero_iff, List.filter_eq_nil_iff]
    intro c hc z
    have hu := of_decide_eq_true z
    have hcy := Cl.cy c hc
    have h0 := List.mem_of_getElem? hcy.hd0
    have ht := hcy.sub _ h0
    have := hu _ _ (goal_tg Sm g ht) (hcy.fwd h0)
    have r := Sm.rg _ ht
    exact Sm.ne _ ht (by omega)
  have := rch_le Sm Cl h lv
  rw [wrg0 Sm, unt0 Sm Cl, w0, u0] at this
  omega
def lstF (f : Int → Int) : List Int := [f 0, f 1, f 2, f 3, f (-1)]
def Cel (c : Int) : Prop := c = 0 ∨ c = 1 ∨ c = 2 ∨ c = 3 ∨ c = -1
def posC (c : Int) : Nat := if c = -1 then 4 else c.toNat
theorem lst_mem {f : Int → Int} {c : Int} (h : Cel c) : f c ∈ lstF f := by
  rcases h with rfl | rfl | rfl | rfl | rfl <;> simp [lstF]
theorem lst_ex {f : Int → Int} {m : Int × Int} (h : Cel m.1) : lstF (exF f m) = (lstF f).set (posC m.1) (if m.2 < -1 then m.2 else f m.2) := by
  obtain ⟨t, c⟩ := m
  dsimp only at h ⊢
  rcases h with rfl | rfl | rfl | rfl | rfl <;> rfl
theorem pos_lt {c : Int} (h : Cel c) : posC c < 5 := by rcases h with rfl | rfl | rfl | rfl | rfl <;> decide
theorem rch_run : ∀ (ms : Prs) {k : Nat} {f : Int → Int}, (∀ m ∈ ms, Cel m.1 ∧ (Cel m.2 ∨ m.2 = K ∧ K < -1 ∧ K ∈ srcs L K)) → Rch (srcs L K) k (lstF f) → Rch (srcs L K) (k + ms.length) (lstF (exA f ms))
  | [], k, f, _, h => h
  | m :: ms, k, f, hm, h => by
    obtain ⟨h1, h2⟩ := hm m List.mem_cons_self
    have e : exA f (m :: ms) = exA (exF f m) ms := rfl
    rw [e, List.length_cons, show k + (ms.length + 1) = k + 1 + ms.length by omega]
    refine rch_run ms (fun x hx => hm x (List.mem_cons_of_mem _ hx)) ?_
    rw [lst_ex h1]
    refine .move h (pos_lt h1) ?_
    rcases h2 with h2 | ⟨h2, hk, h3⟩
    · have : ¬ m.2 < -1 := by rcases h2 with e | e | e | e | e <;> omega
      rw [if_neg this]
      exact List.mem_append_left _ (lst_mem h2)
    · rw [h2, if_pos hk]
      exact List.mem_append_right _ h3
theorem along_mem {o : List Int} {sv : Int} {m : Int × Int} (h : m ∈ alongL o sv) : m.1 ∈ o ∧ (m.2 ∈ o ∨ m.2 = sv) := by
  have := List.of_mem_zip (a := m.1) (b := m.2) h
  refine ⟨this.1, ?_⟩
  rcases List.mem_append.mp this.2 with z | z
  · exact .inl (List.mem_of_mem_drop z)
  · exact .inr (List.mem_singleton.mp z)
/-- the number of moves of a plan -/
theorem plan_count {L : Prs} (nd : (tgs L).Nodup) {W : List Int} {cp : List (Key × Int)} {C : List (List Int)} {ms : Prs} (ho : Out1 L W W.length cp) (hc : Cls L (lft L W) (sortI (tgs L)) C) (ha : Adds cp C ms) :
    (mvR L W ++ ms).length = L.length + (C.filter (clB cp)).length := by
  have pm := left_pm nd ho
  have l1 := ha.len fun cy h e => by
    obtain ⟨x0, ys, a, e2, _⟩ := (hc.all cy h).ch
    rw [e] at e2
    simp at e2
  have l2 : C.flatten.length = (lft L W).length := Nat.le_antisymm hc.len (nodup_len pm.nd fun x hx => hc.cov x ((sortI_perm _).mem_iff.mpr (mem_lft.mp hx).1) hx)
  have l3 : (tgs L).length = L.length := List.length_map _
  have l4 : W.length = ((tgs L).filter fun x => decide (x ∈ W)).length := Nat.le_antisymm (nodup_len ho.nd fun x hx => List.mem_filter.mpr ⟨ho.sub x hx, decide_eq_true hx⟩) (nodup_len (nd.filter _) fun x hx => of_decide_eq_true (List.mem_filter.mp hx).2)
  have l5 : ((tgs L).filter fun x => decide (x ∈ W)).length + (lft L W).length = (tgs L).length := by
    unfold lft
    simp only [decide_not]
    generalize tgs L = T
    induction T with
    | nil => rfl
    | cons x T ih =>
      rw [List.filter_cons, List.filter_cons]
      by_cases h : x ∈ W <;> simp [h] <;> omega
  have l6 : (mvR L W).length = W.length := List.length_map _
  rw [List.length_append]
  omega
theorem upper (Sm : Sml L K) {W : List Int} {cp : List (Key × Int)} {C : List (List Int)} {ms : Prs} (h : Out1 L W W.length cp) (cl : Cls L (lft L W) (sortI (tgs L)) C) (ha : AddsX cp C ms) : ∃ s, Rch (srcs L K) (mvR L W ++ ms).length s ∧ Goal L s := by
  have pos : ∀ x ∈ tgs L, 0 ≤ x := fun x hx => (Sm.rg x hx).1
  have cel : ∀ x, 0 ≤ x ∧ x < 4 → Cel x := fun x hx => by unfold Cel; omega
  have r := plan_right Sm.nd pos h cl ha
  have mems : ∀ {C : List (List Int)} {ms : Prs}, AddsX cp C ms → (∀ c ∈ C, Cy L (lft L W) c) → ∀ m ∈ ms, Cel m.1 ∧ Cel m.2 := fun ha => by
    induction ha with
    | nil => exact fun _ m hm => by cases hm
    | @snoc C ms cy m0 h1 h2 ih =>
      intro hall m hm
      rcases List.mem_append.mp hm with hm | hm
      · exact ih (fun c hc => hall c (List.mem_append_left _ hc)) m hm
      · have hcy := hall cy (by simp)
        have inC : ∀ x ∈ cy, Cel x := fun x hx => cel x (Sm.rg x (mem_lft.mp (hcy.sub x hx)).1)
        by_cases hb : clB cp cy = true
        · obtain ⟨c0, h0, rfl⟩ := h2.cl hb
          rcases List.mem_cons.mp hm with rfl | hm
          · exact ⟨by unfold Cel; simp, inC c0 (List.mem_of_getElem? h0)⟩
          · obtain ⟨a, b⟩ := along_mem hm
            exact ⟨inC _ a, b.elim (inC _) fun e => by rw [e]; unfold Cel; simp⟩
        · obtain ⟨i, c, sv, hi, hv, _, rfl⟩ := h2.op (by simpa using hb)
          obtain ⟨z, _, hw, _⟩ := h.cpk _ _ hv
          rw [List.take_length] at hw
          obtain ⟨a, b⟩ := along_mem hm
          have mem : ∀ x, x ∈ cy.drop i ++ cy.take i → x ∈ cy := fun x hx => by
            rcases List.mem_append.mp hx with hx | hx
            · exact List.mem_of_mem_drop hx
            · exact List.mem_of_mem_take hx
          exact ⟨inC _ (mem _ a), b.elim (fun z => inC _ (mem _ z)) fun e => by rw [e]; exact cel sv (Sm.rg sv (h.sub sv hw))⟩
  have due : ∀ c, 0 ≤ c ∧ c < 4 → exA (fun c => c) (mvR L W ++ ms) c = dueC L c := fun c hc => by
    rw [r c (by omega)]
    rfl
  have run := rch_run (L := L) (K := K) (mvR L W ++ ms) (k := 0) (f := fun c => c) (fun m hm => by
    rcases List.mem_append.mp hm with hm | hm
    · obtain ⟨t, ht, rfl⟩ := List.mem_map.mp hm
      have ht := h.sub t ht
      refine ⟨cel t (Sm.rg t ht), ?_⟩
      rcases Sm.sr t ht with z | z
      · exact .inl (cel _ z)
      · refine .inr ⟨z, Sm.kk, ?_⟩
        have rt := Sm.rg t ht
        have dk : dueC L t = K := by unfold dueC; rw [if_pos ht]; exact z
        have : K ∈ dueL L := by
          have : t = 0 ∨ t = 1 ∨ t = 2 ∨ t = 3 := by omega
          rcases this with rfl | rfl | rfl | rfl <;> simp [dueL, dk]
        unfold srcs
        rw [if_pos this]
        exact List.mem_singleton.mpr rfl
    · obtain ⟨a, b⟩ := mems ha cl.all m hm
      exact ⟨a, .inl b⟩) (by exact .zero)
  rw [Nat.zero_add] at run
  refine ⟨_, run, ?_⟩
  show [_, _, _, _] = dueL L
  rw [due 0 (by omega), due 1 (by omega), due 2 (by omega), due 3 (by omega)]
  rfl
end
end S
namespace K26
open PySem PySem.Spec PyProof.Rows L2 RZ Mr S
abbrev St := List Int
def st1 (p : List St × List St) (y : St) : List St × List St := if y ∈ p.2 then p else (p.1 ++ [y], p.2 ++ [y])
def nxts (Z : List Int) (s : St) : List St := (List.range 5).flatMap fun t => (s ++ Z).map fun x => s.set t x
def lvl (Z : List Int) (ss : List St) (p : List St × List St) : List St × List St := (ss.flatMap (nxts Z)).foldl st1 p
theorem st1_fold : ∀ (ys : List St) (f kn : List St) (k0 : List St), kn = k0 ++ f → kn.Nodup → (ys.foldl st1 (f, kn)).2 = k0 ++ (ys.foldl st1 (f, kn)).1 ∧ (ys.foldl st1 (f, kn)).2.Nodup ∧ ∀ y, y ∈ (ys.foldl st1 (f, kn)).2 ↔ y ∈ kn ∨ y ∈ ys
  | [], f, kn, k0, h, nd => ⟨h, nd, fun y => by simp⟩
  | x :: ys, f, kn, k0, h, nd => by
    rw [List.foldl_cons]
    unfold st1
    dsimp only
    by_cases hx : x ∈ kn
    · rw [if_pos hx]
      obtain ⟨a, b, c⟩ := st1_fold ys f kn k0 h nd
      refine ⟨a, b, fun y => (c y).trans ?_⟩
      rw [List.mem_cons]
      constructor
      · exact fun z => z.imp id .inr
      · rintro (z | rfl | z)
        · exact .inl z
        · exact .inl hx
        · exact .inr z
    · rw [if_neg hx]
      obtain ⟨a, b, c⟩ := st1_fold ys (f ++ [x]) (kn ++ [x]) k0 (by rw [h, List.append_assoc]) (nodup_snoc nd hx)
      refine ⟨a, b, fun y => (c y).trans ?_⟩
      rw [List.mem_append, List.mem_singleton, List.mem_cons]
      constructor
      · rintro ((z | z) | z)
        · exact .inl z
        · exact .inr (.inl z)
        · exact .inr (.inr z)
      · rintro (z | z | z)
        · exact .inl (.inl z)
        · exact .inl (.inr z)
        · exact .inr z
def Sym (K c : Int) : Prop := c = 0 ∨ c = 1 ∨ c = 2 ∨ c = 3 ∨ c = -1 ∨ c = K
def Good (K : Int) (s : St) : Prop := s.length = 5 ∧ ∀ c ∈ s, Sym K c
def uni (K : Int) : Nat → List St
  | 0 => [[]]
  | n + 1 => (uni K n).map (0 :: ·) ++ (uni K n).map (1 :: ·) ++ (uni K n).map (2 :: ·) ++ (uni K n).map (3 :: ·) ++ (uni K n).map (-1 :: ·) ++ (uni K n).map (K :: ·)
theorem uni_len (K : Int) : ∀ n, (uni K n).length = 6 ^ n
  | 0 => rfl
  | n + 1 => by
    have ih := uni_len K n
    unfold uni
    simp only [List.length_append, List.length_map, ih, Nat.pow_succ]
    omega
theorem uni_mem (K : Int) : ∀ s : St, (∀ c ∈ s, Sym K c) → s ∈ uni K s.length
  | [], _ => List.mem_singleton.mpr rfl
  | c :: s, h => by
    have ih := uni_mem K s fun x hx => h x (List.mem_cons_of_mem _ hx)
    have hc := h c List.mem_cons_self
    rw [List.length_cons]
    unfold uni
    simp only [List.mem_append, List.mem_map]
    rcases hc with rfl | rfl | rfl | rfl | rfl | rfl
    · exact .inl (.inl (.inl (.inl (.inl ⟨s, ih, rfl⟩))))
    · exact .inl (.inl (.inl (.inl (.inr ⟨s, ih, rfl⟩))))
    · exact .inl (.inl (.inl (.inr ⟨s, ih, rfl⟩)))
    · exact .inl (.inl (.inr ⟨s, ih, rfl⟩))
    · exact .inl (.inr ⟨s, ih, rfl⟩)
    · exact .inr ⟨s, ih, rfl⟩
theorem nodup_leG {α : Type} [DecidableEq α] : ∀ {A B : List α}, A.Nodup → (∀ x ∈ A, x ∈ B) → A.length ≤ B.length
  | [], B, _, _ => Nat.zero_le _
  | a :: A, B, nd, h => by
    rw [List.nodup_cons] at nd
    have ha := h a List.mem_cons_self
    have ih := nodup_leG (A := A) (B := B.erase a) nd.2 fun x hx => (List.mem_erase_of_ne (show x ≠ a from fun e => nd.1 (by rw [← e]; exact hx))).mpr (h x (List.mem_cons_of_mem _ hx))
    rw [List.length_erase_of_mem ha] at ih
    have := List.length_pos_of_mem ha
    rw [List.length_cons]
    omega
theorem kn_len {K : Int} {kn : List St} (nd : kn.Nodup) (h : ∀ s ∈ kn, Good K s) : kn.length ≤ 7776 := by
  have := nodup_leG (B := uni K 5) nd fun s hs => by
    obtain ⟨a, b⟩ := h s hs
    rw [← a]
    exact uni_mem K s b
  rw [uni_len] at this
  exact this
theorem good_set {K : Int} {s : St} (h : Good K s) {t : Nat} {x : Int} (hx : Sym K x) : Good K (s.set t x) := by
  refine ⟨by rw [List.length_set]; exact h.1, fun c hc => ?_⟩
  rcases List.mem_or_eq_of_mem_set hc with hc | rfl
  · exact h.2 c hc
  · exact hx
section
variable {L : Prs} {K : Int}
structure Inv (L : Prs) (K : Int) (k : Nat) (ss kn : List St) : Prop where
  nd : kn.Nodup
  mem : ∀ y, y ∈ kn ↔ Rch (srcs L K) k y
  old : ∃ o, kn = o ++ ss ∧ (∀ y ∈ o, ∃ k', k' < k ∧ Rch (srcs L K) k' y) ∧ ∀ y ∈ o, ∀ z ∈ nxts (srcs L K) y, z ∈ kn
theorem mem_nxts {Z : List Int} {s z : St} : z ∈ nxts Z s ↔ ∃ t, t < 5 ∧ ∃ x ∈ s ++ Z, z = s.set t x := by
  unfold nxts
  rw [List.mem_flatMap]
  constructor
  · rintro ⟨t, ht, hz⟩
    obtain ⟨x, hx, rfl⟩ := List.mem_map.mp hz
    exact ⟨t, List.mem_range.mp ht, x, hx, rfl⟩
  · rintro ⟨t, ht, x, hx, rfl⟩
    exact ⟨t, List.mem_range.mpr ht, List.mem_map.mpr ⟨x, hx, rfl⟩⟩
theorem inv0 : Inv L K 0 [st0] [st0] := by
  refine ⟨by simp, fun y => ?_, [], rfl, (fun y hy => by cases hy), (fun y hy => by cases hy)⟩
  rw [List.mem_singleton]
  constructor
  · rintro rfl; exact .zero
  · intro h; cases h; rfl
theorem inv_step {k : Nat} {ss kn : List St} (h : Inv L K k ss kn) : Inv L K (k + 1) (lvl (srcs L K) ss ([], kn)).1 (lvl (srcs L K) ss ([], kn)).2 := by
  obtain ⟨a, b, c⟩ := st1_fold (ss.flatMap (nxts (srcs L K))) [] kn kn (by simp) h.nd
  obtain ⟨o, ho, h1, h2⟩ := h.old
  have inss : ∀ y ∈ kn, y ∈ o ∨ y ∈ ss := fun y hy => by rw [ho] at hy; exact List.mem_append.mp hy
  have clo : ∀ y ∈ kn, ∀ z ∈ nxts (srcs L K) y, z ∈ (lvl (srcs L K) ss ([], kn)).2 := fun y hy z hz => by
    rcases inss y hy with hy | hy
    · exact (c z).mpr (.inl (h2 y hy z hz))
    · exact (c z).mpr (.inr (List.mem_flatMap.mpr ⟨y, hy, hz⟩))
  refine ⟨b, fun y => ⟨fun hy => ?_, fun hy => ?_⟩, kn, a, fun y hy => ⟨k, by omega, (h.mem y).mp hy⟩, clo⟩
  · rcases (c y).mp hy with hy | hy
    · exact .stay ((h.mem y).mp hy)
    · obtain ⟨s, hs, hy⟩ := List.mem_flatMap.mp hy
      obtain ⟨t, ht, x, hx, rfl⟩ := mem_nxts.mp hy
      exact .move ((h.mem s).mp (by rw [ho]; exact List.mem_append_right _ hs)) ht hx
  · cases hy with
    | stay hy => exact (c y).mpr (.inl ((h.mem y).mpr hy))
    | move hy ht hx => exact clo _ ((h.mem _).mpr hy) _ (mem_nxts.mpr ⟨_, ht, _, hx, rfl⟩)
theorem rch_good (Sm : Sml L K) {k : Nat} {s : St} (h : Rch (srcs L K) k s) : Good K s := by
  induction h with
  | zero => exact ⟨rfl, fun c hc => by unfold Sym; simp [st0] at hc; omega⟩
  | stay _ ih => exact ih
  | move _ _ hx ih =>
    refine good_set ih ?_
    rcases src_K hx with hx | hx
    · exact ih.2 _ hx
    · unfold Sym; omega
theorem inv_good (Sm : Sml L K) {k : Nat} {ss kn : List St} (h : Inv L K k ss kn) : ∀ s ∈ kn, Good K s := fun s hs => rch_good Sm ((h.mem s).mp hs)
/-- before m there is no goal, at m there is one -/
theorem goal_none {m k : Nat} (lo : ∀ k s, Rch (srcs L K) k s → Goal L s → m ≤ k) (hk : k < m) {ss kn : List St} (h : Inv L K k ss kn) : ∀ s ∈ ss, ¬ Goal L s := fun s hs g => by
  obtain ⟨o, ho, _⟩ := h.old
  have := lo k s ((h.mem s).mp (by rw [ho]; exact List.mem_append_right _ hs)) g
  omega
theorem goal_some {m : Nat} (lo : ∀ k s, Rch (srcs L K) k s → Goal L s → m ≤ k) (up : ∃ s, Rch (srcs L K) m s ∧ Goal L s) {ss kn : List St} (h : Inv L K m ss kn) : ∃ s ∈ ss, Goal L s := by
  obtain ⟨s, hr, g⟩ := up
  obtain ⟨o, ho, h1, _⟩ := h.old
  have hm := (h.mem s).mpr hr
  rw [ho] at hm
  rcases List.mem_append.mp hm with hm | hm
  · obtain ⟨k', hk, hr'⟩ := h1 s hm
    have := lo k' s hr' g
    omega
  · exact ⟨s, hm, g⟩
end
def syD (c : Int) : D := if c = -1 then .str "scratch" else if c < -1 then .str "number" else .int c
def syK (c : Int) : Key := if c = -1 then .inr "scratch" else if c < -1 then .inr "number" else .inl c
def stD (s : St) : D := .tup (s.map syD)
def knD (kn : List St) : List (MX.MK × D) := kn.map fun s => (.inr (s.map syK), .bl true)
theorem keys_sy : ∀ s : St, keysM (s.map syD) = some (s.map syK)
  | [] => rfl
  | c :: s => by
    have ih := keys_sy s
    rw [List.map_cons, List.map_cons]
    unfold syD syK
    by_cases h1 : c = -1
    · rw [if_pos h1, if_pos h1]
      show (keysM (s.map syD)).map _ = _
      rw [ih]; rfl
    · rw [if_neg h1, if_neg h1]
      by_cases h2 : c < -1
      · rw [if_pos h2, if_pos h2]
        show (keysM (s.map syD)).map _ = _
        rw [ih]; rfl
      · rw [if_neg h2, if_neg h2]
        show (keysM (s.map syD)).map _ = _
        rw [ih]; rfl
theorem key_st (s : St) : keyM (stD s) = some (.inr (s.map syK)) := by
  show (keysM (s.map syD)).map Sum.inr = _
  rw [keys_sy]
  rfl
theorem sc_nu : ¬ (("scratch" : Str) = "number") := by decide +kernel
theorem syK_inj {K a b : Int} (hK : K < -1) (ha : Sym K a) (hb : Sym K b) (h : syK a = syK b) : a = b := by
  unfold syK at h
  unfold Sym at ha hb
  by_cases a1 : a = -1
  · by_cases b1 : b = -1
    · omega
    · rw [if_pos a1, if_neg b1] at h
      by_cases b2 : b < -1
      · rw [if_pos b2] at h
        exact absurd (Sum.inr.inj h) sc_nu
      · rw [if_neg b2] at h
        cases h
  · rw [if_neg a1] at h
    by_cases a2 : a < -1
    · rw [if_pos a2] at h
      by_cases b1 : b = -1
      · rw [if_pos b1] at h
        exact absurd (Sum.inr.inj h).symm sc_nu
      · rw [if_neg b1] at h
        by_cases b2 : b < -1
        · omega
        · rw [if_neg b2] at h
          cases h
    · rw [if_neg a2] at h
      by_cases b1 : b = -1
      · rw [if_pos b1] at h
        cases h
      · rw [if_neg b1] at h
        by_cases b2 : b < -1
        · rw [if_pos b2] at h
          cases h
        · rw [if_neg b2] at h
          exact Sum.inl.inj h
theorem mapK_inj {K : Int} (hK : K < -1) : ∀ {s u : St}, (∀ c ∈ s, Sym K c) → (∀ c ∈ u, Sym K c) → s.map syK = u.map syK → s = u
  | [], [], _, _, _ => rfl
  | [], _ :: _, _, _, h => by cases h
  | _ :: _, [], _, _, h => by cases h
  | a :: s, b :: u, h1, h2, h => by
    rw [List.map_cons, List.map_cons, List.cons.injEq] at h
    rw [syK_inj hK (h1 a List.mem_cons_self) (h2 b List.mem_cons_self) h.1, mapK_inj hK (fun c hc => h1 c (List.mem_cons_of_mem _ hc)) (fun c hc => h2 c (List.mem_cons_of_mem _ hc)) h.2]
theorem kn_val {K : Int} (hK : K < -1) {y : St} (hy : Good K y) : ∀ {kn : List St}, (∀ s ∈ kn, Good K s) → (valN (knD kn) (.inr (y.map syK))).isSome = decide (y ∈ kn)
  | [], _ => by simp [valN, knD]
  | s :: kn, h => by
    have ih := kn_val hK hy (kn := kn) fun z hz => h z (List.mem_cons_of_mem _ hz)
    have hs := h s List.mem_cons_self
    unfold valN knD at ih ⊢
    rw [List.map_cons, List.find?_cons]
    by_cases e : s = y
    · have : decide ((Sum.inr (s.map syK) : MX.MK) = .inr (y.map syK)) = true := decide_eq_true (by rw [e])
      rw [this, decide_eq_true (by rw [e]; exact List.mem_cons_self)]
      rfl
    · have : decide ((Sum.inr (s.map syK) : MX.MK) = .inr (y.map syK)) = false := decide_eq_false (fun z => e (mapK_inj hK hs.2 hy.2 (Sum.inr.inj z)))
      rw [this]
      have d : decide (y ∈ s :: kn) = decide (y ∈ kn) := decide_eq_decide.mpr ⟨fun z => (List.mem_cons.mp z).resolve_left fun q => e q.symm, fun z => List.mem_cons_of_mem _ z⟩
      rw [d]
      exact ih
theorem kn_snoc (kn : List St) (y : St) : knD (kn ++ [y]) = knD kn ++ [(.inr (y.map syK), .bl true)] := by unfold knD; rw [List.map_append]; rfl
end K26
namespace K26
open PySem PySem.Spec PyProof.Rows L2 RZ Mr S
section
variable {A : Ad} {σ : Dr} {q : List Ob} {jk : Nat} {K : Int} {Z : List Int}
structure PP (K : Int) (p : List St × List St) : Prop where
  nd : p.2.Nodup
  gd : ∀ s ∈ p.2, Good K s
  ln : p.1.length ≤ p.2.length
theorem PP.st1 {p : List St × List St} (h : PP K p) {y : St} (hy : Good K y) : PP K (st1 p y) := by
  unfold K26.st1
  by_cases hm : y ∈ p.2
  · rw [if_pos hm]; exact h
  · rw [if_neg hm]
    refine ⟨nodup_snoc h.nd hm, fun s hs => ?_, ?_⟩
    · rcases List.mem_append.mp hs with hs | hs
      · exact h.gd s hs
      · rw [List.mem_singleton.mp hs]; exact hy
    · have := h.ln
      simp only [List.length_append, List.length_cons, List.length_nil]
      omega
theorem PP.fold {ys : List St} : ∀ {p : List St × List St}, PP K p → (∀ y ∈ ys, Good K y) → PP K (ys.foldl K26.st1 p) := by
  induction ys with
  | nil => exact fun h _ => h
  | cons y ys ih => exact fun h hy => ih (h.st1 (hy y List.mem_cons_self)) fun z hz => hy z (List.mem_cons_of_mem _ hz)
abbrev LE (x0 : Sl) (jk : Nat) (x2 : Sl) (f : List St) (y4 y5 y6 y7 : Sl) : Ev := [x0, .sh (.obj jk), x2, .own (f.map stD), y4, y5, y6, y7]
abbrev stK (A : Ad) (σ : Dr) (q : List Ob) (jk : Nat) (kn : List St) : Dr := sto σ (q.set jk (.dcX A.hw (knD kn)))
theorem add_tup {xs ys : List D} (h : xs.length + ys.length ≤ 100000) : dAdd (.tup xs) (.tup ys) = some (.tup (xs ++ ys)) := by
  show (if xs.length + ys.length ≤ 100000 then some (D.tup (xs ++ ys)) else none) = _
  rw [if_pos h]
theorem after_ok {s : St} {t : Nat} {x : Int} (ht : t < s.length) : ((s.map syD).take t ++ [syD x]) ++ (s.map syD).drop (t + 1) = (s.set t x).map syD := by
  rw [List.set_eq_take_append_cons_drop, if_pos ht, List.map_append, List.map_cons, List.map_take, List.map_drop, List.append_assoc]
  rfl
theorem sym_ok (hK : K < -1) (hq : jk < q.length) {x0 x2 y7 : Sl} {s : St} (hs : Good K s) {t : Nat} (ht : t < 5) {x : Int} (hx : Sym K x) {p : List St × List St} (hp : PP K p) :
    bd_law_level_0 A (LE x0 jk x2 p.1 (.sh (stD s)) (.sh (.int t)) (.sh (syD x)) y7) (stK A σ q jk p.2) = .nx (LE x0 jk x2 (st1 p (s.set t x)).1 (.sh (stD s)) (.sh (.int t)) (.sh (syD x)) (.sh (stD (s.set t x)))) (stK A σ q jk (st1 p (s.set t x)).2) := by
  have hst : ∀ s : Dr, (O A).st s = s.st := fun _ => rfl
  obtain ⟨f, kn⟩ := p
  dsimp only
  have sq : ∀ l, sqS l (stD s) = some (false, s.map syD) := fun _ => rfl
  have c1 : cutD (s.map syD) none (some (t : Int)) = (s.map syD).take t := cut_take _ t
  have c2 : cutD (s.map syD) (some ((t : Int) + 1)) none = (s.map syD).drop (t + 1) := by
    have := cutI_from (s.map syD) (t + 1)
    rw [← this]
    rfl
  have h5 := hs.1
  have ls : (s.map syD).length = 5 := by rw [List.length_map]; exact hs.1
  have a1 : dAdd (.tup ((s.map syD).take t)) (.tup [syD x]) = some (.tup ((s.map syD).take t ++ [syD x])) := add_tup (by rw [List.length_take]; simp; omega)
  have a2 : dAdd (.tup ((s.map syD).take t ++ [syD x])) (.tup ((s.map syD).drop (t + 1))) = some (stD (s.set t x)) := by
    rw [add_tup (by rw [List.length_append, List.length_take, List.length_drop]; simp; omega), after_ok (by rw [hs.1]; exact ht)]
    rfl
  have ti : dAdd (.int t) (.int 1) = some (.int ((t : Int) + 1)) := rfl
  have d1 : dTup [syD x] = some (.tup [syD x]) := rfl
  generalize (s.map syD).take t = T1 at *
  generalize (s.map syD).drop (t + 1) = T2 at *
  have st1' : mAsg (O A) (mBin (O A) dAdd (mBin (O A) dAdd (mSliceS (O A) (mVar (O A) 4) (mNoPart (O A)) (mPart (O A) (mVar (O A) 5))) (mCl (O A) dTup (mCons (O A) (mVar (O A) 6) (mNil (O A))))) (mSliceS (O A) (mVar (O A) 4) (mPart (O A) (mBin (O A) dAdd (mVar (O A) 5) (mC (O A) (.int 1)))) (mNoPart (O A)))) (fName 7) (LE x0 jk x2 f (.sh (stD s)) (.sh (.int t)) (.sh (syD x)) y7) (stK A σ q jk kn) = .nx (LE x0 jk x2 f (.sh (stD s)) (.sh (.int t)) (.sh (syD x)) (.sh (stD (s.set t x)))) (stK A σ q jk kn) := by
    simp only [LE, mAsg, mSliceS, mNoPart, mPart, EE, eEqS, seqS, toS, R.lift, asSeq, asList, asTup, List.replicate, Nat.reduceAdd, Nat.reduceSub, Nat.reduceLeDiff, Nat.reduceLT, Nat.reduceMul, Int.reduceToNat, Int.reduceEq, Int.reduceAdd, Int.reduceSub, Int.reduceNeg, reduceIte, Nat.reduceEqDiff, hst, sq, c1, c2, d1, a1, ti, a2, toS]
  have hy := good_set (s := s) (t := t) hs hx
  have kv := kn_val hK hy hp.gd
  have ky := key_st (s.set t x)
  have kl : kn.length ≤ 7776 := kn_len hp.nd hp.gd
  have kf : f.length ≤ kn.length := hp.ln
  have dk : dcX A.hw (stK A σ q jk kn).st (.obj jk) = some (knD kn) := dcX_at (by rw [sto_st, List.getElem?_set_self hq])
  generalize s.set t x = y at *
  have ni : dNotInX A.hw (stK A σ q jk kn).st (stD y) (.obj jk) = some (.bl (!decide (y ∈ kn))) := by
    unfold dNotInX
    rw [dk, ky]
    simp only [Option.bind_some, Option.map_some, kv]
  have tst : mTest (O A) (mBinS (O A) (dNotInX A.hw) (mVar (O A) 7) (mVar (O A) 1)) (LE x0 jk x2 f (.sh (stD s)) (.sh (.int t)) (.sh (syD x)) (.sh (stD y))) (stK A σ q jk kn) = .ok (!decide (y ∈ kn)) (stK A σ q jk kn) := by
    generalize stD y = Y at ni
    simp only [LE, mBinS, EE, eEqS, seqS, toS, R.lift, asSeq, asList, asTup, List.replicate, Nat.reduceAdd, Nat.reduceSub, Nat.reduceLeDiff, Nat.reduceLT, Nat.reduceMul, Int.reduceToNat, Int.reduceEq, Int.reduceAdd, Int.reduceSub, Int.reduceNeg, reduceIte, Nat.reduceEqDiff, hst, ni, R.lift, dBool]
  unfold bd_law_level_0 mSeq seqS
  rw [st1']
  dsimp only
  unfold mIfS
  rw [tst]
  unfold st1
  dsimp only
  by_cases hm : y ∈ kn
  · rw [decide_eq_true hm, if_pos hm]
    simp only [toS, Bool.not_true, Bool.false_eq_true, if_false, mNext]
  · rw [decide_eq_false hm, if_neg hm]
    rw [decide_eq_false hm] at kv
    simp only [toS, Bool.not_false, if_true]
    have hno : (valN (knD kn) (.inr (y.map syK))).isNone = true := by
      cases h : valN (knD kn) (.inr (y.map syK)) with
      | none => rfl
      | some z => rw [h] at kv; cases kv
    have kl2 : (knD kn).length < 100000 := by unfold knD; rw [List.length_map]; omega
    have set1 : mSetIX (O A) A.hw (mVar (O A) 1) (mVar (O A) 7) (mC (O A) (.bl true)) (LE x0 jk x2 f (.sh (stD s)) (.sh (.int t)) (.sh (syD x)) (.sh (stD y))) (stK A σ q jk kn) = .nx (LE x0 jk x2 f (.sh (stD s)) (.sh (.int t)) (.sh (syD x)) (.sh (stD y))) (stK A σ q jk (kn ++ [y])) := by
      have pu : stPut (O A) (stK A σ q jk kn) jk (.dcX A.hw (knD kn ++ [(.inr (y.map syK), .bl true)])) = stK A σ q jk (kn ++ [y]) := by
        rw [stPut_sto, List.set_set, ← kn_snoc]
      generalize stD y = Y at ky
      simp only [LE, mSetIX, EE, eEqS, seqS, toS, R.lift, asSeq, asList, asTup, List.replicate, Nat.reduceAdd, Nat.reduceSub, Nat.reduceLeDiff, Nat.reduceLT, Nat.reduceMul, Int.reduceToNat, Int.reduceEq, Int.reduceAdd, Int.reduceSub, Int.reduceNeg, reduceIte, Nat.reduceEqDiff, hst, toS, dk, ky, if_pos (And.intro kl2 hno), pu]
    have ap : mAppend (O A) 3 (mVar (O A) 7) (LE x0 jk x2 f (.sh (stD s)) (.sh (.int t)) (.sh (syD x)) (.sh (stD y))) (stK A σ q jk (kn ++ [y])) = .nx (LE x0 jk x2 (f ++ [y]) (.sh (stD s)) (.sh (.int t)) (.sh (syD x)) (.sh (stD y))) (stK A σ q jk (kn ++ [y])) := by
      have fl : (f.map stD).length < 100000 := by rw [List.length_map]; omega
      have fm : (f ++ [y]).map stD = f.map stD ++ [stD y] := by rw [List.map_append]; rfl
      unfold LE
      rw [fm]
      generalize f.map stD = F at fl
      simp only [mAppend, EE, eEqS, seqS, toS, R.lift, asSeq, asList, asTup, List.replicate, Nat.reduceAdd, Nat.reduceSub, Nat.reduceLeDiff, Nat.reduceLT, Nat.reduceMul, Int.reduceToNat, Int.reduceEq, Int.reduceAdd, Int.reduceSub, Int.reduceNeg, reduceIte, Nat.reduceEqDiff, toS, if_pos fl]
    rw [set1]
    dsimp only
    rw [ap]
theorem syms_ok (hK : K < -1) (hq : jk < q.length) {cond : List Ob → Prop} (hc : ∀ l, cond l) {x0 x2 : Sl} {s : St} (hs : Good K s) {t : Nat} (ht : t < 5) : ∀ (xs : List Int) (p : List St × List St) (y6 y7 : Sl), (∀ x ∈ xs, Sym K x) → PP K p →
    ∃ y6' y7', forLS Dr (O A).st cond (fName 6) (bd_law_level_0 A) (xs.map syD) (LE x0 jk x2 p.1 (.sh (stD s)) (.sh (.int t)) y6 y7) (stK A σ q jk p.2) = .nx (LE x0 jk x2 ((xs.map fun x => s.set t x).foldl st1 p).1 (.sh (stD s)) (.sh (.int t)) y6' y7') (stK A σ q jk ((xs.map fun x => s.set t x).foldl st1 p).2)
  | [], p, y6, y7, _, _ => ⟨y6, y7, by rw [List.map_nil]; unfold forLS; exact if_pos (hc _)⟩
  | x :: xs, p, y6, y7, hx, hp => by
    have e := sym_ok (A := A) (σ := σ) hK hq (x0 := x0) (x2 := x2) (y7 := y7) hs ht (hx x List.mem_cons_self) hp
    obtain ⟨y6', y7', ih⟩ := syms_ok hK hq hc (x0 := x0) (x2 := x2) hs ht xs (st1 p (s.set t x)) (.sh (syD x)) (.sh (stD (s.set t x))) (fun z hz => hx z (List.mem_cons_of_mem _ hz)) (hp.st1 (good_set hs (hx x List.mem_cons_self)))
    refine ⟨y6', y7', ?_⟩
    rw [List.map_cons]
    unfold forLS
    refine (if_pos (hc _)).trans ?_
    have f1 : fName 6 (syD x) (LE x0 jk x2 p.1 (.sh (stD s)) (.sh (.int t)) y6 y7) = some (LE x0 jk x2 p.1 (.sh (stD s)) (.sh (.int t)) (.sh (syD x)) y7) := rfl
    rw [f1]
    dsimp only
    rw [e]
    dsimp only
    rw [ih]
    rfl
theorem tgts_ok (hK : K < -1) (hq : jk < q.length) (hZ : ∀ x ∈ Z, Sym K x) (hzl : Z.length ≤ 100) {x0 : Sl} {s : St} (hs : Good K s) : ∀ (ts : List Nat) (p : List St × List St) (y5 y6 y7 : Sl), (∀ t ∈ ts, t < 5) → PP K p →
    ∃ y5' y6' y7', forLS Dr (O A).st (fun _ => True) (fName 5) (bd_law_level_1 A) (ts.map fun t : Nat => D.int (t : Int)) (LE x0 jk (.sh (.lst (Z.map syD))) p.1 (.sh (stD s)) y5 y6 y7) (stK A σ q jk p.2) = .nx (LE x0 jk (.sh (.lst (Z.map syD))) ((ts.flatMap fun t => (s ++ Z).map fun x => s.set t x).foldl st1 p).1 (.sh (stD s)) y5' y6' y7') (stK A σ q jk ((ts.flatMap fun t => (s ++ Z).map fun x => s.set t x).foldl st1 p).2)
  | [], p, y5, y6, y7, _, _ => ⟨y5, y6, y7, by rw [List.map_nil]; unfold forLS; exact if_pos trivial⟩
  | t :: ts, p, y5, y6, y7, ht, hp => by
    have hst : ∀ s : Dr, (O A).st s = s.st := fun _ => rfl
    have sy : ∀ x ∈ s ++ Z, Sym K x := fun x hx => by
      rcases List.mem_append.mp hx with hx | hx
      · exact hs.2 x hx
      · exact hZ x hx
    obtain ⟨y6a, y7a, e⟩ := syms_ok (A := A) (σ := σ) hK hq (cond := fun l => sqS l (.lst ((s ++ Z).map syD)) = some (true, (s ++ Z).map syD)) (fun _ => rfl) (x0 := x0) (x2 := .sh (.lst (Z.map syD))) hs (ht t List.mem_cons_self) (s ++ Z) p y6 y7 sy hp
    have pp := hp.fold (ys := (s ++ Z).map fun x => s.set t x) (fun y hy => by obtain ⟨x, hx, rfl⟩ := List.mem_map.mp hy; exact good_set hs (sy x hx))
    obtain ⟨y5', y6', y7', ih⟩ := tgts_ok hK hq hZ hzl (x0 := x0) hs ts _ (.sh (.int t)) y6a y7a (fun u hu => ht u (List.mem_cons_of_mem _ hu)) pp
    refine ⟨y5', y6', y7', ?_⟩
    rw [List.map_cons]
    unfold forLS
    refine (if_pos trivial).trans ?_
    have f1 : fName 5 (.int (t : Int)) (LE x0 jk (.sh (.lst (Z.map syD))) p.1 (.sh (stD s)) y5 y6 y7) = some (LE x0 jk (.sh (.lst (Z.map syD))) p.1 (.sh (stD s)) (.sh (.int t)) y6 y7) := rfl
    rw [f1]
    have sq : ∀ l, sqS l (stD s) = some (false, s.map syD) := fun _ => rfl
    have ad : dAdd (.lst (s.map syD)) (.lst (Z.map syD)) = some (.lst ((s ++ Z).map syD)) := by
      rw [List.map_append]
      exact add_lst (by rw [List.length_map, List.length_map, hs.1]; omega)
    have it : mJS (O A) (mBin (O A) dAdd (mLst (O A) (mListNS (O A) (mCons (O A) (mVar (O A) 4) (mNil (O A))))) (mVar (O A) 2)) (LE x0 jk (.sh (.lst (Z.map syD))) p.1 (.sh (stD s)) (.sh (.int t)) y6 y7) (stK A σ q jk p.2) = .ok ((s ++ Z).map syD, fun l => sqS l (.lst ((s ++ Z).map syD)) = some (true, (s ++ Z).map syD)) (stK A σ q jk p.2) := by
      generalize hS : stD s = SD at sq
      generalize s.map syD = X1 at sq ad
      generalize hZD : D.lst (Z.map syD) = ZD at ad
      simp only [LE, mJS, mLst, mListNS, EE, eEqS, seqS, toS, R.lift, asSeq, asList, asTup, List.replicate, Nat.reduceAdd, Nat.reduceSub, Nat.reduceLeDiff, Nat.reduceLT, Nat.reduceMul, Int.reduceToNat, Int.reduceEq, Int.reduceAdd, Int.reduceSub, Int.reduceNeg, reduceIte, Nat.reduceEqDiff, hst, sq, ad]
      rfl
    have b : bd_law_level_1 A (LE x0 jk (.sh (.lst (Z.map syD))) p.1 (.sh (stD s)) (.sh (.int t)) y6 y7) (stK A σ q jk p.2) = .nx (LE x0 jk (.sh (.lst (Z.map syD))) (((s ++ Z).map fun x => s.set t x).foldl st1 p).1 (.sh (stD s)) (.sh (.int t)) y6a y7a) (stK A σ q jk (((s ++ Z).map fun x => s.set t x).foldl st1 p).2) := by
      unfold bd_law_level_1 mForS
      rw [it]
      exact e
    dsimp only
    rw [b]
    dsimp only
    rw [ih, List.flatMap_cons, List.foldl_append]
theorem states_ok (hK : K < -1) (hq : jk < q.length) (hZ : ∀ x ∈ Z, Sym K x) (hzl : Z.length ≤ 100) {cond : List Ob → Prop} (hc : ∀ l, cond l) {x0 : Sl} : ∀ (ss : List St) (p : List St × List St) (y4 y5 y6 y7 : Sl), (∀ s ∈ ss, Good K s) → PP K p →
    ∃ y4' y5' y6' y7', forLS Dr (O A).st cond (fName 4) (bd_law_level_2 A) (ss.map stD) (LE x0 jk (.sh (.lst (Z.map syD))) p.1 y4 y5 y6 y7) (stK A σ q jk p.2) = .nx (LE x0 jk (.sh (.lst (Z.map syD))) (lvl Z ss p).1 y4' y5' y6' y7') (stK A σ q jk (lvl Z ss p).2)
  | [], p, y4, y5, y6, y7, _, _ => ⟨y4, y5, y6, y7, by rw [List.map_nil]; unfold forLS; exact if_pos (hc _)⟩
  | s :: ss, p, y4, y5, y6, y7, hs, hp => by
    have gs := hs s List.mem_cons_self
    obtain ⟨y5a, y6a, y7a, e⟩ := tgts_ok (A := A) (σ := σ) hK hq hZ hzl (x0 := x0) gs (List.range 5) p y5 y6 y7 (fun t ht => List.mem_range.mp ht) hp
    have pp := hp.fold (ys := nxts Z s) (fun y hy => by
      obtain ⟨t, ht, x, hx, rfl⟩ := mem_nxts.mp hy
      refine good_set gs ?_
      rcases List.mem_append.mp hx with hx | hx
      · exact gs.2 x hx
      · exact hZ x hx)
    obtain ⟨y4', y5', y6', y7', ih⟩ := states_ok hK hq hZ hzl hc (x0 := x0) ss _ (.sh (stD s)) y5a y6a y7a (fun u hu => hs u (List.mem_cons_of_mem _ hu)) pp
    refine ⟨y4', y5', y6', y7', ?_⟩
    rw [List.map_cons]
    unfold forLS
    refine (if_pos (hc _)).trans ?_
    have f1 : fName 4 (stD s) (LE x0 jk (.sh (.lst (Z.map syD))) p.1 y4 y5 y6 y7) = some (LE x0 jk (.sh (.lst (Z.map syD))) p.1 (.sh (stD s)) y5 y6 y7) := rfl
    rw [f1]
    have rg := rng1_ok (A := A) (ma := mCons (O A) (mC (O A) (.int 5)) (mNil (O A))) (ρ := LE x0 jk (.sh (.lst (Z.map syD))) p.1 (.sh (stD s)) y5 y6 y7) (s := stK A σ q jk p.2) (s' := stK A σ q jk p.2) (l := 5) rfl (by omega) (by omega)
    have rr : iD (rng 5) = (List.range 5).map fun t : Nat => D.int (t : Int) := rfl
    have b : bd_law_level_2 A (LE x0 jk (.sh (.lst (Z.map syD))) p.1 (.sh (stD s)) y5 y6 y7) (stK A σ q jk p.2) = .nx (LE x0 jk (.sh (.lst (Z.map syD))) ((nxts Z s).foldl st1 p).1 (.sh (stD s)) y5a y6a y7a) (stK A σ q jk ((nxts Z s).foldl st1 p).2) := by
      unfold bd_law_level_2 mForS mJI
      rw [rg, rr]
      exact e
    dsimp only
    rw [b]
    dsimp only
    rw [ih]
    unfold lvl
    rw [List.flatMap_cons, List.foldl_append]
theorem level_ok (hK : K < -1) (hq : jk < q.length) (hZ : ∀ x ∈ Z, Sym K x) (hzl : Z.length ≤ 100) {ss kn : List St} (hs : ∀ s ∈ ss, Good K s) (nd : kn.Nodup) (gd : ∀ s ∈ kn, Good K s) :
    m_law_level A [.lst (ss.map stD), .obj jk, .lst (Z.map syD)] (stK A σ q jk kn) = .ok (.lst ((lvl Z ss ([], kn)).1.map stD)) (stK A σ q jk (lvl Z ss ([], kn)).2) := by
  have hst : ∀ s : Dr, (O A).st s = s.st := fun _ => rfl
  obtain ⟨y4, y5, y6, y7, e⟩ := states_ok (A := A) (σ := σ) hK hq hZ hzl (cond := fun l => sqS l (.lst (ss.map stD)) = some (true, ss.map stD)) (fun _ => rfl) (x0 := .sh (.lst (ss.map stD))) ss ([], kn) .no .no .no .no hs ⟨nd, gd, Nat.zero_le _⟩
  have run : m_law_level A [.lst (ss.map stD), .obj jk, .lst (Z.map syD)] (stK A σ q jk kn) = runF (O A) 8 (mb_law_level A) [.lst (ss.map stD), .obj jk, .lst (Z.map syD)] (stK A σ q jk kn) := rfl
  have ee : ([.lst (ss.map stD), .obj jk, .lst (Z.map syD)] : List D).map Sl.sh ++ List.replicate (8 - ([.lst (ss.map stD), .obj jk, .lst (Z.map syD)] : List D).length) .no = [.sh (.lst (ss.map stD)), .sh (.obj jk), .sh (.lst (Z.map syD)), .no, .no, .no, .no, .no] := rfl
  rw [run]
  unfold runF
  rw [ee]
  have o1 : mOwn (O A) 3 (mDisp (O A) (mNil (O A))) [.sh (.lst (ss.map stD)), .sh (.obj jk), .sh (.lst (Z.map syD)), .no, .no, .no, .no, .no] (stK A σ q jk kn) = .nx (LE (.sh (.lst (ss.map stD))) jk (.sh (.lst (Z.map syD))) [] .no .no .no .no) (stK A σ q jk kn) := rfl
  have it : mJS (O A) (mVar (O A) 0) (LE (.sh (.lst (ss.map stD))) jk (.sh (.lst (Z.map syD))) [] .no .no .no .no) (stK A σ q jk kn) = .ok (ss.map stD, fun l => sqS l (.lst (ss.map stD)) = some (true, ss.map stD)) (stK A σ q jk kn) := rfl
  have l1 : mForS (O A) (mJS (O A) (mVar (O A) 0)) (fName 4) (bd_law_level_2 A) (LE (.sh (.lst (ss.map stD))) jk (.sh (.lst (Z.map syD))) [] .no .no .no .no) (stK A σ q jk kn) = .nx (LE (.sh (.lst (ss.map stD))) jk (.sh (.lst (Z.map syD))) (lvl Z ss ([], kn)).1 y4 y5 y6 y7) (stK A σ q jk (lvl Z ss ([], kn)).2) := by
    unfold mForS
    rw [it]
    exact e
  unfold mb_law_level mSeq seqS
  rw [o1]
  dsimp only
  rw [l1]
  rfl
end
end K26
namespace K26
open PySem PySem.Spec PyProof.Rows L2 RZ Mr S
section
variable {A : Ad} {σ : Dr} {q : List Ob} {L : Prs} {K : Int}
theorem apx0 {α : Type} (l xs : List α) : (l ++ xs)[l.length]? = xs[0]? := by rw [List.getElem?_append_right (Nat.le_refl _), Nat.sub_self]
theorem apy0 {α : Type} (l xs : List α) (o : α) : (l ++ xs).set l.length o = l ++ xs.set 0 o := by rw [List.set_append_right _ _ (Nat.le_refl _), Nat.sub_self]
def duD (g : Int → Int) : List D := [syD (g 0), syD (g 1), syD (g 2), syD (g 3)]
def gPut (g : Int → Int) (p : Int × Int) : Int → Int := fun c => if c = p.1 then p.2 else g c
theorem gPut_all : ∀ (L : Prs) (g : Int → Int) (c : Int), (tgs L).Nodup → L.foldl gPut g c = if c ∈ tgs L then sL L c else g c
  | [], g, c, _ => rfl
  | p :: L, g, c, nd => by
    have nd' : p.1 ∉ tgs L ∧ (tgs L).Nodup := List.nodup_cons.mp nd
    rw [List.foldl_cons, gPut_all L _ c nd'.2]
    have tc : tgs (p :: L) = p.1 :: tgs L := rfl
    by_cases h : p.1 = c
    · have hn : c ∉ tgs L := fun z => nd'.1 (h ▸ z)
      have s1 : sL (p :: L) c = p.2 := by rw [← h]; exact sL_mem nd List.mem_cons_self
      rw [if_neg hn, tc, if_pos (by rw [h]; exact List.mem_cons_self), s1]
      unfold gPut
      rw [if_pos h.symm]
    · by_cases hm : c ∈ tgs L
      · have s1 : sL (p :: L) c = sL L c := by
          have := sL_pair nd'.2 hm
          exact sL_mem nd (List.mem_cons_of_mem p this)
        rw [if_pos hm, tc, if_pos (List.mem_cons_of_mem _ hm), s1]
      · rw [if_neg hm, tc, if_neg (fun z => (List.mem_cons.mp z).elim (fun e => h e.symm) hm)]
        unfold gPut
        rw [if_neg (fun e => h e.symm)]
theorem du_set {g : Int → Int} {t v : Int} (ht : 0 ≤ t ∧ t < 4) : (duD g).set t.toNat (syD v) = duD (gPut g (t, v)) := by
  have : t = 0 ∨ t = 1 ∨ t = 2 ∨ t = 3 := by omega
  rcases this with rfl | rfl | rfl | rfl <;> rfl
theorem du_ix (g : Int → Int) {t : Int} (ht : 0 ≤ t ∧ t < 4) (d : D) : ixN (duD g).length t = some t.toNat ∧ ixN ((duD g).set t.toNat d).length t = some t.toNat := by
  have : t = 0 ∨ t = 1 ∨ t = 2 ∨ t = 3 := by omega
  rcases this with rfl | rfl | rfl | rfl <;> exact ⟨rfl, rfl⟩
abbrev FE (x0 : Sl) (jd : Nat) (y2 y3 y4 y5 y6 y7 y8 : Sl) : Ev := [x0, .sh (.obj jd), y2, y3, y4, y5, y6, y7, y8]
theorem due_step {g : Int → Int} {p : Int × Int} (ht : 0 ≤ p.1 ∧ p.1 < 4) (hv : (0 ≤ p.2 ∧ p.2 < 4) ∨ p.2 = K) (hK : K < -1) {x0 y4 y5 y6 y7 y8 : Sl} :
    bd_law_fewest_0 A (FE x0 q.length (.sh (.int p.1)) (.sh (srD p.2)) y4 y5 y6 y7 y8) (sto σ (q ++ [.lst (duD g)])) = .nx (FE x0 q.length (.sh (.int p.1)) (.sh (srD p.2)) y4 y5 y6 y7 y8) (sto σ (q ++ [.lst (duD (gPut g p))])) := by
  have hst : ∀ s : Dr, (O A).st s = s.st := fun _ => rfl
  obtain ⟨t, v⟩ := p
  dsimp only at ht hv ⊢
  have ps : ∀ (xs : List D) (d : D), ixN xs.length t = some t.toNat → putS (q ++ [Ob.lst xs]) (.obj q.length) (.int t) d = some (q.length, .lst (xs.set t.toNat d)) := fun xs d hi => by
    have a0 : (q ++ [Ob.lst xs])[q.length]? = some (.lst xs) := apx0 q _
    simp only [putS, a0, hi, Option.map_some]
  have st : ∀ (xs ys : List D), (q ++ [Ob.lst xs]).set q.length (.lst ys) = q ++ [.lst ys] := fun xs ys => apy0 q _ _
  have s1 : mSetIS (O A) (mVar (O A) 1) (mVar (O A) 2) (mVar (O A) 3) (FE x0 q.length (.sh (.int t)) (.sh (srD v)) y4 y5 y6 y7 y8) (sto σ (q ++ [.lst (duD g)])) = .nx (FE x0 q.length (.sh (.int t)) (.sh (srD v)) y4 y5 y6 y7 y8) (sto σ (q ++ [.lst ((duD g).set t.toNat (srD v))])) := by
    have p1 := ps (duD g) (srD v) (du_ix g ht (srD v)).1
    have s1 := st (duD g) ((duD g).set t.toNat (srD v))
    generalize srD v = V at *
    generalize duD g = W at *
    simp only [FE, mSetIS, EE, eEqS, seqS, toS, R.lift, asSeq, asList, asTup, List.replicate, Nat.reduceAdd, Nat.reduceSub, Nat.reduceLeDiff, Nat.reduceLT, Nat.reduceMul, Int.reduceToNat, Int.reduceEq, Int.reduceAdd, Int.reduceSub, Int.reduceNeg, reduceIte, Nat.reduceEqDiff, hst, sto_st, p1, stPut_sto, s1, toS]
  unfold bd_law_fewest_0 mSeq seqS
  rw [s1]
  dsimp only
  rcases hv with hv | hv
  · have e1 : srD v = .int v := srD_int (by omega)
    have e2 : syD v = .int v := by unfold syD; rw [if_neg (by omega), if_neg (by omega)]
    rw [e1, ← e2, du_set ht, e2]
    have is : ∀ l, dIsIS l [.int v, .ty "tuple"] = some (.bl false) := fun _ => rfl
    have tt : ∀ l, dTruthS l (.bl false) = some false := fun _ => rfl
    simp only [FE, mClS, mTruthS, EE, eEqS, seqS, toS, R.lift, asSeq, asList, asTup, List.replicate, Nat.reduceAdd, Nat.reduceSub, Nat.reduceLeDiff, Nat.reduceLT, Nat.reduceMul, Int.reduceToNat, Int.reduceEq, Int.reduceAdd, Int.reduceSub, Int.reduceNeg, reduceIte, Nat.reduceEqDiff, hst, is, R.lift, tt, Bool.false_eq_true, if_false]
  · subst hv
    have e1 : srD v = cD (ucst v) := srD_low (by omega)
    have e2 : syD v = .str "number" := by unfold syD; rw [if_neg (by omega), if_pos hK]
    have is : ∀ l, dIsIS l [cD (ucst v), .ty "tuple"] = some (.bl true) := fun _ => rfl
    have tt : ∀ l, dTruthS l (.bl true) = some true := fun _ => rfl
    have p1 := ps ((duD g).set t.toNat (srD v)) (.str "number") (du_ix g ht (srD v)).2
    rw [List.set_set, ← e2, du_set ht] at p1
    rw [e1] at p1 ⊢
    have s1 := st ((duD g).set t.toNat (cD (ucst v))) (duD (gPut g (t, v)))
    rw [e2] at p1
    generalize cD (ucst v) = V at *
    generalize duD (gPut g (t, v)) = W2 at *
    generalize (duD g).set t.toNat V = W1 at *
    simp only [FE, mSetIS, mClS, mTruthS, EE, eEqS, seqS, toS, R.lift, asSeq, asList, asTup, List.replicate, Nat.reduceAdd, Nat.reduceSub, Nat.reduceLeDiff, Nat.reduceLT, Nat.reduceMul, Int.reduceToNat, Int.reduceEq, Int.reduceAdd, Int.reduceSub, Int.reduceNeg, reduceIte, Nat.reduceEqDiff, hst, sto_st, is, R.lift, tt, if_true, p1, stPut_sto, s1, toS]
theorem due_loop {cond : List Ob → Prop} (hc : ∀ l, cond l) (hK : K < -1) {x0 y4 y5 y6 y7 y8 : Sl} : ∀ (L : Prs) (g : Int → Int) (y2 y3 : Sl), (∀ p ∈ L, (0 ≤ p.1 ∧ p.1 < 4) ∧ ((0 ≤ p.2 ∧ p.2 < 4) ∨ p.2 = K)) →
    ∃ y2' y3', forLS Dr (O A).st cond (fTup 2 (fCons (fName 2) (fCons (fName 3) fNil))) (bd_law_fewest_0 A) (prX L) (FE x0 q.length y2 y3 y4 y5 y6 y7 y8) (sto σ (q ++ [.lst (duD g)])) = .nx (FE x0 q.length y2' y3' y4 y5 y6 y7 y8) (sto σ (q ++ [.lst (duD (L.foldl gPut g))]))
  | [], g, y2, y3, _ => ⟨y2, y3, by show forLS Dr (O A).st _ _ _ [] _ _ = _; unfold forLS; exact if_pos (hc _)⟩
  | p :: L, g, y2, y3, h => by
    obtain ⟨h1, h2⟩ := h p List.mem_cons_self
    obtain ⟨y2', y3', ih⟩ := due_loop hc hK (x0 := x0) (y4 := y4) (y5 := y5) (y6 := y6) (y7 := y7) (y8 := y8) L (gPut g p) (.sh (.int p.1)) (.sh (srD p.2)) fun z hz => h z (List.mem_cons_of_mem _ hz)
    refine ⟨y2', y3', ?_⟩
    show forLS Dr (O A).st _ _ _ (pr3 p :: prX L) _ _ = _
    unfold forLS
    refine (if_pos (hc _)).trans ?_
    have f1 : fTup 2 (fCons (fName 2) (fCons (fName 3) fNil)) (pr3 p) (FE x0 q.length y2 y3 y4 y5 y6 y7 y8) = some (FE x0 q.length (.sh (.int p.1)) (.sh (srD p.2)) y4 y5 y6 y7 y8) := rfl
    rw [f1]
    dsimp only
    rw [due_step h1 h2 hK]
    exact ih
theorem str_ok : PyData.strOk "scratch" = true ∧ PyData.strOk "number" = true := by decide +kernel
theorem sy_pq (c : Int) : pqD 0 (syD c) = true := by
  unfold syD
  split
  · exact str_ok.1
  · split
    · exact str_ok.2
    · rfl
theorem sys_pq (xs : List Int) : pqD 1 (.lst (xs.map syD)) = true := by
  show (xs.map syD).all (pqD 0) = true
  rw [List.all_eq_true]
  intro d hd
  obtain ⟨c, _, rfl⟩ := List.mem_map.mp hd
  exact sy_pq c
theorem syD_K {a b : Int} (h : syD a = syD b) : syK a = syK b := by
  unfold syD at h
  unfold syK
  by_cases a1 : a = -1
  · rw [if_pos a1] at h ⊢
    by_cases b1 : b = -1
    · rw [if_pos b1]
    · rw [if_neg b1] at h ⊢
      by_cases b2 : b < -1
      · rw [if_pos b2] at h ⊢
        exact absurd (D.str.inj h) sc_nu
      · rw [if_neg b2] at h
        cases h
  · rw [if_neg a1] at h ⊢
    by_cases a2 : a < -1
    · rw [if_pos a2] at h ⊢
      by_cases b1 : b = -1
      · rw [if_pos b1] at h
        exact absurd (D.str.inj h).symm sc_nu
      · rw [if_neg b1] at h ⊢
        by_cases b2 : b < -1
        · rw [if_pos b2]
        · rw [if_neg b2] at h
          cases h
    · rw [if_neg a2] at h ⊢
      by_cases b1 : b = -1
      · rw [if_pos b1] at h
        cases h
      · rw [if_neg b1] at h ⊢
        by_cases b2 : b < -1
        · rw [if_pos b2] at h
          cases h
        · rw [if_neg b2] at h ⊢
          rw [D.int.inj h]
theorem mapD_K : ∀ {s u : List Int}, s.map syD = u.map syD → s.map syK = u.map syK
  | [], [], _ => rfl
  | [], _ :: _, h => by cases h
  | _ :: _, [], h => by cases h
  | a :: s, b :: u, h => by
    rw [List.map_cons, List.map_cons, List.cons.injEq] at h
    rw [List.map_cons, List.map_cons, syD_K h.1, mapD_K h.2]
/-- list(state[:4]) == due -/
theorem goal_test (Sm : Sml L K) {l : List Ob} {jd : Nat} (hd : l[jd]? = some (.lst ((dueL L).map syD))) {s : St} (hs : Good K s) : liftO dEq l (.lst ((s.take 4).map syD)) (.obj jd) = some (.bl (decide (s.take 4 = dueL L))) := by
  have t1 : thaw l (.lst ((s.take 4).map syD)) = some (.lst ((s.take 4).map syD)) := thaw_pq (sys_pq _) (by decide)
  have t2 : thaw l (.obj jd) = some (.lst ((dueL L).map syD)) := by
    have := thaw_pq (l := l) (sys_pq (dueL L)) (by decide)
    unfold thaw thawN at this ⊢
    dsimp only at this ⊢
    rw [hd]
    have q := thawL_pq (l := l) (m := 22) (xs := (dueL L).map syD) (fun d hd => by
      obtain ⟨c, _, rfl⟩ := List.mem_map.mp hd
      exact thawN_pq 0 23 _ (sy_pq c) (by decide))
    dsimp only
    rw [q]
    rfl
  obtain ⟨r, e, hr⟩ := eq_pq (sys_pq (s.take 4)) (sys_pq (dueL L)) (by decide) (by decide)
  unfold liftO
  rw [t1, t2]
  simp only [Option.bind_some, dEq, e, Option.map_some]
  show some (D.bl r) = _
  have symL : ∀ c ∈ dueL L, Sym K c := fun c hc => by
    have key : ∀ x, 0 ≤ x ∧ x < 4 → Sym K (dueC L x) := fun x hx => by
      unfold dueC
      split
      · rename_i ht
        rcases Sm.sr x ht with z | z
        · unfold Sym; omega
        · unfold Sym; omega
      · unfold Sym; omega
    simp only [dueL, List.mem_cons, List.not_mem_nil, or_false] at hc
    rcases hc with rfl | rfl | rfl | rfl <;> exact key _ (by omega)
  have iff : r = true ↔ s.take 4 = dueL L := hr.trans ⟨fun z => mapK_inj Sm.kk (fun c hc => hs.2 c (List.mem_of_mem_take hc)) symL (mapD_K (D.lst.inj z)), fun z => by rw [z]⟩
  congr 2
  cases r with
  | true => exact (decide_eq_true (iff.mp rfl)).symm
  | false => exact (decide_eq_false fun z => by cases iff.mpr z).symm
/-- "number" in due -/
theorem num_in (Sm : Sml L K) {l : List Ob} {jd : Nat} (hd : l[jd]? = some (.lst ((dueL L).map syD))) : dInS false l (.str "number") (.obj jd) = some (.bl (decide (K ∈ dueL L))) := by
  have dc : dcS l (.obj jd) = none := by simp only [dcS, hd]
  have t1 : thaw l (.str "number") = some (.str "number") := by simp [thaw, thawN]
  have t2 : thaw l (.obj jd) = some (.lst ((dueL L).map syD)) := by
    unfold thaw thawN
    dsimp only
    rw [hd]
    have q := thawL_pq (l := l) (m := 22) (xs := (dueL L).map syD) (fun d hd => by
      obtain ⟨c, _, rfl⟩ := List.mem_map.mp hd
      exact thawN_pq 0 23 _ (sy_pq c) (by decide))
    dsimp only
    rw [q]
    rfl
  have key : ∀ xs : List Int, (∀ c ∈ xs, 0 ≤ c ∨ c = K) → ∃ vs, toVs (xs.map syD) = some vs ∧ inV (.str "number") vs = decide (K ∈ xs) := fun xs => by
    induction xs with
    | nil => exact fun _ => ⟨[], rfl, rfl⟩
    | cons c xs ih =>
      intro h
      obtain ⟨vs, e, hv⟩ := ih fun x hx => h x (List.mem_cons_of_mem _ hx)
      have kk := Sm.kk
      rcases h c List.mem_cons_self with hc | rfl
      · have e1 : syD c = .int c := by unfold syD; rw [if_neg (by omega), if_neg (by omega)]
        refine ⟨.int c :: vs, by rw [List.map_cons, e1]; unfold toVs; rw [e]; rfl, ?_⟩
        have d : decide (K ∈ c :: xs) = decide (K ∈ xs) := decide_eq_decide.mpr ⟨fun z => (List.mem_cons.mp z).resolve_left (by omega), fun z => List.mem_cons_of_mem _ z⟩
        rw [d, ← hv]
        rfl
      · have e1 : syD c = .str "number" := by unfold syD; rw [if_neg (by omega), if_pos kk]
        refine ⟨.str "number" :: vs, by rw [List.map_cons, e1]; unfold toVs; rw [e]; rfl, ?_⟩
        rw [decide_eq_true (show c ∈ c :: xs from List.mem_cons_self)]
        unfold inV
        rw [List.any_cons]
        have : eqV (.str "number") (.str "number") = true := by decide +kernel
        rw [this]
        rfl
  obtain ⟨vs, e, hv⟩ := key (dueL L) fun c hc => by
    have kx : ∀ x, 0 ≤ x ∧ x < 4 → 0 ≤ dueC L x ∨ dueC L x = K := fun x hx => by
      unfold dueC
      split
      · rename_i ht
        rcases Sm.sr x ht with z | z
        · exact .inl z.1
        · exact .inr z
      · exact .inl hx.1
    simp only [dueL, List.mem_cons, List.not_mem_nil, or_false] at hc
    rcases hc with rfl | rfl | rfl | rfl <;> exact kx _ (by omega)
  unfold dInS
  rw [dc]
  dsimp only
  unfold liftO
  rw [t1, t2]
  have tv : toV (.str "number") = some (.str "number") := rfl
  simp only [Option.bind_some, Bool.false_eq_true, if_false, dIn, dInB, tv, e, hv, Option.map_some]
  rfl
end
end K26
namespace K26
open PySem PySem.Spec PyProof.Rows L2 RZ Mr S
section
variable {A : Ad} {σ : Dr} {q : List Ob} {L : Prs} {K : Int}
abbrev WE (x0 : Sl) (jd jk : Nat) (y2 y3 : Sl) (Z : List Int) (ss : List St) (k : Nat) (y8 : Sl) : Ev := [x0, .sh (.obj jd), y2, y3, .sh (.lst (Z.map syD)), .sh (.lst (ss.map stD)), .sh (.obj jk), .sh (.int (k : Nat)), y8]
/-- what the while loop asks -/
noncomputable def wCond (A : Ad) : MT (O A) := mTest (O A) (mBin (O A) dEq (mClS (O A) dLenS (mCons (O A) (mLst (O A) (lc_law_fewest_2 A)) (mNil (O A)))) (mC (O A) (.int 0)))
theorem cond_ok (Sm : Sml L K) {x0 y2 y3 y8 : Sl} {jd jk : Nat} (hd : q[jd]? = some (.lst ((dueL L).map syD))) (hjk : jd ≠ jk) {kn ss : List St} (gs : ∀ s ∈ ss, Good K s) (hl : ss.length ≤ 7776) {k : Nat} :
    wCond A (WE x0 jd jk y2 y3 (srcs L K) ss k y8) (stK A σ q jk kn) = .ok (decide ((ss.filter fun s => decide (s.take 4 = dueL L)).length = 0)) (stK A σ q jk kn) := by
  have hst : ∀ s : Dr, (O A).st s = s.st := fun _ => rfl
  have hd' : (stK A σ q jk kn).st[jd]? = some (.lst ((dueL L).map syD)) := by rw [sto_st, List.getElem?_set_ne (Ne.symm hjk)]; exact hd
  have lc : lc_law_fewest_2 A (WE x0 jd jk y2 y3 (srcs L K) ss k y8) (stK A σ q jk kn) = .ok ((ss.filter fun s => decide (s.take 4 = dueL L)).map stD) (stK A σ q jk kn) := by
    unfold lc_law_fewest_2
    refine mLcS_fm (c := fun l => sqS l (.lst (ss.map stD)) = some (true, ss.map stD)) stD (fun s => decide (s.take 4 = dueL L)) stD ss rfl rfl (fun s hs => ⟨[x0, .sh (.obj jd), y2, y3, .sh (.lst ((srcs L K).map syD)), .sh (.lst (ss.map stD)), .sh (.obj jk), .sh (.int (k : Nat)), .sh (stD s)], rfl, ?_, fun _ => rfl⟩) (by omega)
    have gt := goal_test Sm hd' (gs s hs)
    have sq : ∀ l, sqS l (stD s) = some (false, s.map syD) := fun _ => rfl
    have c1 : cutD (s.map syD) none (some 4) = (s.take 4).map syD := by
      have := cut_take (s.map syD) 4
      rw [List.map_take]
      exact this
    have sq2 : ∀ l, sqS l (.tup ((s.take 4).map syD)) = some (false, (s.take 4).map syD) := fun _ => rfl
    generalize stD s = SD at sq
    generalize (s.take 4).map syD = T4 at *
    generalize s.map syD = S5 at *
    simp only [mLst, mListNS, mSliceS, mNoPart, mPart, mBinS, EE, eEqS, seqS, toS, R.lift, asSeq, asList, asTup, List.replicate, Nat.reduceAdd, Nat.reduceSub, Nat.reduceLeDiff, Nat.reduceLT, Nat.reduceMul, Int.reduceToNat, Int.reduceEq, Int.reduceAdd, Int.reduceSub, Int.reduceNeg, reduceIte, Nat.reduceEqDiff, hst, sq, c1, sq2, gt, R.lift, dBool]
  generalize (ss.filter fun s => decide (s.take 4 = dueL L)) = fs at lc
  have ln : ∀ l, dLenS l [.lst (fs.map stD)] = some (.int (fs.length : Nat)) := fun l => by simp only [dLenS, sqS, List.length_map]
  have eq0 : dEq (.int (fs.length : Nat)) (.int 0) = some (.bl (decide (fs.length = 0))) := by
    show some (D.bl (decide (((fs.length : Nat) : Int) = 0))) = _
    congr 2
    exact decide_eq_decide.mpr ⟨fun h => by omega, fun h => by omega⟩
  generalize decide (fs.length = 0) = bb at eq0 ⊢
  generalize fs.map stD = FD at *
  unfold wCond
  simp only [mLst, mClS, mTest, mBin, mCons, mNil, mC, lc, bind_ok, hst, ln, R.lift, eq0, dBool]
theorem while_ok (Sm : Sml L K) {x0 y2 y3 y8 : Sl} {jd jk : Nat} (hd : q[jd]? = some (.lst ((dueL L).map syD))) (hjk : jd ≠ jk) (hq : jk < q.length) {m : Nat} (lo : ∀ k s, Rch (srcs L K) k s → Goal L s → m ≤ k) (up : ∃ s, Rch (srcs L K) m s ∧ Goal L s) (e0 : Nat) :
    ∀ (n k : Nat) (ss kn : List St), k + n = m → Inv L K k ss kn → ∃ ss' kn', whileL Dr (wCond A) (bd_law_fewest_3 A) (n + 1 + e0) (WE x0 jd jk y2 y3 (srcs L K) ss k y8) (stK A σ q jk kn) = .nx (WE x0 jd jk y2 y3 (srcs L K) ss' m y8) (stK A σ q jk kn')
  | n, k, ss, kn, hk, inv => by
    have gk := inv_good Sm inv
    obtain ⟨o, ho, _, _⟩ := inv.old
    have gs : ∀ s ∈ ss, Good K s := fun s hs => gk s (by rw [ho]; exact List.mem_append_right _ hs)
    have sl : ss.length ≤ 7776 := by
      have := kn_len inv.nd gk
      rw [ho, List.length_append] at this
      omega
    have c := cond_ok (A := A) (σ := σ) Sm (x0 := x0) (y2 := y2) (y3 := y3) (y8 := y8) hd hjk (kn := kn) gs sl (k := k)
    cases n with
    | zero =>
      have km : k = m := by omega
      subst km
      obtain ⟨s, hs, g⟩ := goal_some lo up inv
      have hf : ¬ (ss.filter fun s => decide (s.take 4 = dueL L)).length = 0 := fun z => by
        have fm : s ∈ ss.filter fun s => decide (s.take 4 = dueL L) := List.mem_filter.mpr ⟨hs, decide_eq_true (p := s.take 4 = dueL L) g⟩
        rw [List.length_eq_zero_iff.mp z] at fm
        cases fm
      rw [decide_eq_false hf] at c
      refine ⟨ss, kn, ?_⟩
      rw [show 0 + 1 + e0 = e0 + 1 by omega]
      unfold whileL
      rw [c]
      rfl
    | succ n =>
      have hf : (ss.filter fun s => decide (s.take 4 = dueL L)).length = 0 := by
        rw [List.length_eq_zero_iff, List.filter_eq_nil_iff]
        exact fun s hs z => goal_none lo (by omega) inv s hs (show s.take 4 = dueL L from of_decide_eq_true (p := s.take 4 = dueL L) z)
      rw [decide_eq_true hf] at c
      have zl : (srcs L K).length ≤ 100 := by unfold srcs; split <;> simp
      have zs : ∀ x ∈ srcs L K, Sym K x := fun x hx => by
        unfold srcs at hx
        split at hx
        · rw [List.mem_singleton.mp hx]; unfold Sym; omega
        · cases hx
      have lv := level_ok (A := A) (σ := σ) (q := q) (jk := jk) Sm.kk hq zs zl gs inv.nd gk
      obtain ⟨ss', kn', ih⟩ := while_ok Sm (x0 := x0) (y2 := y2) (y3 := y3) (y8 := y8) hd hjk hq lo up e0 n (k + 1) _ _ (by omega) (inv_step inv)
      refine ⟨ss', kn', ?_⟩
      have b : bd_law_fewest_3 A (WE x0 jd jk y2 y3 (srcs L K) ss k y8) (stK A σ q jk kn) = .nx (WE x0 jd jk y2 y3 (srcs L K) (lvl (srcs L K) ss ([], kn)).1 (k + 1) y8) (stK A σ q jk (lvl (srcs L K) ss ([], kn)).2) := by
        have ad : dAdd (.int (k : Nat)) (.int 1) = some (.int ((k + 1 : Nat) : Int)) := rfl
        unfold WE
        generalize (srcs L K).map syD = ZD at lv ⊢
        generalize ss.map stD = SD at lv ⊢
        generalize (lvl (srcs L K) ss ([], kn)).1.map stD = SD' at lv ⊢
        simp only [bd_law_fewest_3, EE, eEqS, seqS, toS, R.lift, asSeq, asList, asTup, List.replicate, Nat.reduceAdd, Nat.reduceSub, Nat.reduceLeDiff, Nat.reduceLT, Nat.reduceMul, Int.reduceToNat, Int.reduceEq, Int.reduceAdd, Int.reduceSub, Int.reduceNeg, reduceIte, Nat.reduceEqDiff, lv, ad]
      rw [show n + 1 + 1 + e0 = (n + 1 + e0) + 1 by omega]
      unfold whileL
      rw [c]
      simp only [toS, if_true]
      rw [b]
      exact ih
theorem fewest_ok (Sm : Sml L K) (hL : ∀ p ∈ L, (0 ≤ p.1 ∧ p.1 < 4) ∧ ((0 ≤ p.2 ∧ p.2 < 4) ∨ p.2 = K)) {m : Nat} (hm : m ≤ 100) (lo : ∀ k s, Rch (srcs L K) k s → Goal L s → m ≤ k) (up : ∃ s, Rch (srcs L K) m s ∧ Goal L s) :
    ∃ s', m_law_fewest A [.lst (prX L)] (sto σ q) = .ok (.int (m : Nat)) s' := by
  have hst : ∀ s : Dr, (O A).st s = s.st := fun _ => rfl
  have hwi : ∀ (s : Dr) (q : List Ob), (O A).wi s q = sto s q := fun _ _ => rfl
  let x0 : Sl := .sh (.lst (prX L))
  have run : m_law_fewest A [.lst (prX L)] (sto σ q) = runF (O A) 9 (mb_law_fewest A) [.lst (prX L)] (sto σ q) := rfl
  have ee : ([.lst (prX L)] : List D).map Sl.sh ++ List.replicate (9 - ([.lst (prX L)] : List D).length) .no = [x0, .no, .no, .no, .no, .no, .no, .no, .no] := rfl
  have s1 : mAsg (O A) (mObjL (O A) (mDisp (O A) (mCons (O A) (mC (O A) (.int 0)) (mCons (O A) (mC (O A) (.int 1)) (mCons (O A) (mC (O A) (.int 2)) (mCons (O A) (mC (O A) (.int 3)) (mNil (O A)))))))) (fName 1) [x0, .no, .no, .no, .no, .no, .no, .no, .no] (sto σ q) = .nx (FE x0 q.length .no .no .no .no .no .no .no) (sto σ (q ++ [.lst (duD fun c => c)])) := by
    simp only [mAsg, mObjL, mDisp, listMax, EE, eEqS, seqS, toS, R.lift, asSeq, asList, asTup, List.replicate, Nat.reduceAdd, Nat.reduceSub, Nat.reduceLeDiff, Nat.reduceLT, Nat.reduceMul, Int.reduceToNat, Int.reduceEq, Int.reduceAdd, Int.reduceSub, Int.reduceNeg, reduceIte, Nat.reduceEqDiff, hst, sto_st, hwi, sto_sto, toS]
    rfl
  obtain ⟨y2, y3, lp⟩ := due_loop (A := A) (σ := σ) (q := q) (cond := fun l => sqS l (.lst (prX L)) = some (true, prX L)) (fun _ => rfl) Sm.kk (x0 := x0) (y4 := .no) (y5 := .no) (y6 := .no) (y7 := .no) (y8 := .no) L (fun c => c) .no .no hL
  have dd : duD (L.foldl gPut fun c => c) = (dueL L).map syD := by
    have g : ∀ c, L.foldl gPut (fun c => c) c = dueC L c := fun c => gPut_all L _ c Sm.nd
    unfold duD dueL
    rw [g, g, g, g]
    rfl
  rw [dd] at lp
  let jd := q.length
  let Q1 : List Ob := q ++ [.lst ((dueL L).map syD)]
  have hd1 : Q1[jd]? = some (.lst ((dueL L).map syD)) := apx0 q _
  have s2 : mForS (O A) (mJS (O A) (mVar (O A) 0)) (fTup 2 (fCons (fName 2) (fCons (fName 3) fNil))) (bd_law_fewest_0 A) (FE x0 q.length .no .no .no .no .no .no .no) (sto σ (q ++ [.lst (duD fun c => c)])) = .nx (FE x0 jd y2 y3 .no .no .no .no .no) (sto σ Q1) := by
    unfold mForS
    exact lp
  have ni := num_in Sm hd1
  have s3 : mAsg (O A) (mLst (O A) (mRepN (O A) (mDisp (O A) (mCons (O A) (mC (O A) (.str "number")) (mNil (O A)))) (mCl (O A) dIntC (mCons (O A) (mBinS (O A) (dInS false) (mC (O A) (.str "number")) (mVar (O A) 1)) (mNil (O A)))))) (fName 4) (FE x0 jd y2 y3 .no .no .no .no .no) (sto σ Q1) = .nx (FE x0 jd y2 y3 (.sh (.lst ((srcs L K).map syD))) .no .no .no .no) (sto σ Q1) := by
    have kk := Sm.kk
    have sK : syD K = .str "number" := by unfold syD; rw [if_neg (by omega), if_pos kk]
    by_cases hk : K ∈ dueL L
    · rw [decide_eq_true hk] at ni
      have e : (srcs L K).map syD = [.str "number"] := by unfold srcs; rw [if_pos hk, List.map_cons, sK]; rfl
      rw [e]
      simp only [FE, mAsg, mLst, mRepN, mDisp, listMax, mBinS, EE, eEqS, seqS, toS, R.lift, asSeq, asList, asTup, List.replicate, Nat.reduceAdd, Nat.reduceSub, Nat.reduceLeDiff, Nat.reduceLT, Nat.reduceMul, Int.reduceToNat, Int.reduceEq, Int.reduceAdd, Int.reduceSub, Int.reduceNeg, reduceIte, Nat.reduceEqDiff, hst, sto_st, ni, R.lift, dIntC, if_true]
      rfl
    · rw [decide_eq_false hk] at ni
      have e : (srcs L K).map syD = [] := by unfold srcs; rw [if_neg hk]; rfl
      rw [e]
      simp only [FE, mAsg, mLst, mRepN, mDisp, listMax, mBinS, EE, eEqS, seqS, toS, R.lift, asSeq, asList, asTup, List.replicate, Nat.reduceAdd, Nat.reduceSub, Nat.reduceLeDiff, Nat.reduceLT, Nat.reduceMul, Int.reduceToNat, Int.reduceEq, Int.reduceAdd, Int.reduceSub, Int.reduceNeg, reduceIte, Nat.reduceEqDiff, hst, sto_st, ni, R.lift, dIntC, Bool.false_eq_true, if_false]
      rfl
  generalize hZ : (srcs L K).map syD = ZD at s3
  have s4 : mAsg (O A) (mCl (O A) dList (mCons (O A) (mCl (O A) dTup (mCons (O A) (mC (O A) (.int 0)) (mCons (O A) (mC (O A) (.int 1)) (mCons (O A) (mC (O A) (.int 2)) (mCons (O A) (mC (O A) (.int 3)) (mCons (O A) (mC (O A) (.str "scratch")) (mNil (O A)))))))) (mNil (O A)))) (fName 5) (FE x0 jd y2 y3 (.sh (.lst ZD)) .no .no .no .no) (sto σ Q1) = .nx (FE x0 jd y2 y3 (.sh (.lst ZD)) (.sh (.lst [stD st0])) .no .no .no) (sto σ Q1) := rfl
  let jk := Q1.length
  let Q : List Ob := Q1 ++ [.dcX A.hw (knD [st0])]
  have qk : Q[jk]? = some (.dcX A.hw (knD [st0])) := apx0 Q1 _
  have qq : stK A σ Q jk [st0] = sto σ Q := by
    show sto σ (Q.set jk (.dcX A.hw (knD [st0]))) = _
    congr 1
    exact (apy0 Q1 _ _).trans rfl
  have s5 : mAsg (O A) (mDisp1X (O A) A.hw (mIdxS (O A) (mVar (O A) 5) (mC (O A) (.int 0))) (mC (O A) (.bl true))) (fName 6) (FE x0 jd y2 y3 (.sh (.lst ZD)) (.sh (.lst [stD st0])) .no .no .no) (sto σ Q1) = .nx (FE x0 jd y2 y3 (.sh (.lst ZD)) (.sh (.lst [stD st0])) (.sh (.obj jk)) .no .no) (sto σ Q) := by
    have ky := key_st st0
    have ix : ∀ l, dIdxS l (.lst [stD st0]) (.int 0) = some (stD st0) := fun _ => rfl
    have dk : dcX A.hw (Q1 ++ [Ob.dcX A.hw []]) (.obj Q1.length) = some [] := dcX_at (apx0 Q1 _)
    have pu : stPut (O A) (sto σ (Q1 ++ [Ob.dcX A.hw []])) Q1.length (.dcX A.hw [(.inr (st0.map syK), .bl true)]) = sto σ Q := by
      rw [stPut_sto]
      congr 1
      exact apy0 Q1 _ _
    generalize stD st0 = S0 at *
    simp only [FE, mAsg, mDisp1X, mNewX, mIdxS, mBinS, EE, eEqS, seqS, toS, R.lift, asSeq, asList, asTup, List.replicate, Nat.reduceAdd, Nat.reduceSub, Nat.reduceLeDiff, Nat.reduceLT, Nat.reduceMul, Int.reduceToNat, Int.reduceEq, Int.reduceAdd, Int.reduceSub, Int.reduceNeg, reduceIte, Nat.reduceEqDiff, hst, hwi, sto_st, sto_sto, ix, R.lift, dk, ky, toS]
    show RS.nx (FE x0 jd y2 y3 (.sh (.lst ZD)) (.sh (.lst [S0])) (.sh (.obj jk)) .no .no) (stPut (O A) (sto σ (Q1 ++ [Ob.dcX A.hw []])) Q1.length (.dcX A.hw [(.inr (st0.map syK), .bl true)])) = _
    rw [pu]
  have s6 : mAsg (O A) (mC (O A) (.int 0)) (fName 7) (FE x0 jd y2 y3 (.sh (.lst ZD)) (.sh (.lst [stD st0])) (.sh (.obj jk)) .no .no) (sto σ Q) = .nx (WE x0 jd jk y2 y3 (srcs L K) [st0] 0 .no) (stK A σ Q jk [st0]) := by
    rw [qq]
    unfold WE
    rw [hZ]
    rfl
  have lQ : Q.length = Q1.length + 1 := List.length_append
  have lq : jk < Q.length := by rw [lQ]; exact Nat.lt_succ_self _
  have l1 : Q1.length = q.length + 1 := List.length_append
  have hdQ : Q[jd]? = some (.lst ((dueL L).map syD)) := by
    show (Q1 ++ [_])[jd]? = _
    rw [List.getElem?_append_left (by show q.length < Q1.length; omega)]
    exact hd1
  obtain ⟨ss', kn', w⟩ := while_ok (A := A) (σ := σ) Sm (x0 := x0) (y2 := y2) (y3 := y3) (y8 := .no) (jd := jd) (jk := jk) hdQ (by show q.length ≠ Q1.length; omega) lq lo up (999 - m) m 0 [st0] [st0] (by omega) inv0
  rw [show m + 1 + (999 - m) = 1000 by omega] at w
  have s7 : mWhile (O A) (fun _ _ => 1000) (mTest (O A) (mBin (O A) dEq (mClS (O A) dLenS (mCons (O A) (mLst (O A) (lc_law_fewest_2 A)) (mNil (O A)))) (mC (O A) (.int 0)))) (bd_law_fewest_3 A) (WE x0 jd jk y2 y3 (srcs L K) [st0] 0 .no) (stK A σ Q jk [st0]) = .nx (WE x0 jd jk y2 y3 (srcs L K) ss' m .no) (stK A σ Q jk kn') := w
  refine ⟨stK A σ Q jk kn', ?_⟩
  rw [run]
  unfold runF
  rw [ee]
  unfold mb_law_fewest mSeq seqS
  rw [s1]
  dsimp only
  rw [s2]
  dsimp only
  rw [s3]
  dsimp only
  rw [s4]
  dsimp only
  rw [s5]
  dsimp only
  rw [s6]
  dsimp only
  rw [s7]
  rfl
end
end K26
namespace K26
open PySem PySem.Spec PyProof.Rows L2 RZ Mr S
section
variable {A : Ad} {s : Dr} {q : List Ob} {b : Int}
theorem flat_sub (P : List Int → Bool) : ∀ C : List (List Int), (C.filter P).flatten.Sublist C.flatten
  | [] => List.Sublist.refl _
  | c :: C => by
    have ih := flat_sub P C
    rw [List.filter_cons, List.flatten_cons]
    split
    · rw [List.flatten_cons]
      exact (List.Sublist.refl c).append ih
    · exact ih.trans (List.sublist_append_right _ _)
def KK : Int := cst 7
theorem kk_low : KK < -1 := cst_low 7
/-- pairs as the law draws them -/
structure Sm4 (L : Prs) (i : Int) : Prop where
  nd : (tgs L).Nodup
  rg : ∀ p ∈ L, 0 ≤ p.1 ∧ p.1 < i
  ne : ∀ p ∈ L, p.2 ≠ p.1
  sr : ∀ p ∈ L, (0 ≤ p.2 ∧ p.2 < 4) ∨ p.2 = KK
theorem Sm4.sml {L : Prs} (h : Sm4 L 4) : Sml L KK := by
  have pr : ∀ t ∈ tgs L, (t, sL L t) ∈ L := fun t ht => sL_pair h.nd ht
  exact ⟨h.nd, fun t ht => h.rg _ (pr t ht), fun t ht => h.ne _ (pr t ht), fun t ht => h.sr _ (pr t ht), kk_low⟩
theorem Sm4.add {L : Prs} {i c : Int} (h : Sm4 L i) (hi : 0 ≤ i) (hc : 0 ≤ c ∧ c < 4) (hn : c ≠ i) : Sm4 (L ++ [(i, c)]) (i + 1) := by
  refine ⟨?_, fun p hp => ?_, fun p hp => ?_, fun p hp => ?_⟩
  · unfold tgs
    rw [List.map_append]
    refine nodup_snoc h.nd fun hm => ?_
    obtain ⟨p, hp, e⟩ := List.mem_map.mp hm
    have := (h.rg p hp).2
    have e : p.1 = i := e
    omega
  · rcases List.mem_append.mp hp with hp | hp
    · have := h.rg p hp; omega
    · rw [List.mem_singleton.mp hp]; exact ⟨hi, by show i < i + 1; omega⟩
  · rcases List.mem_append.mp hp with hp | hp
    · exact h.ne p hp
    · rw [List.mem_singleton.mp hp]; exact hn
  · rcases List.mem_append.mp hp with hp | hp
    · exact h.sr p hp
    · rw [List.mem_singleton.mp hp]; exact .inl hc
theorem Sm4.mono {L : Prs} {i j : Int} (h : Sm4 L i) (hij : i ≤ j) : Sm4 L j := ⟨h.nd, fun p hp => by have := h.rg p hp; omega, h.ne, h.sr⟩
theorem Sm4.const {L : Prs} (h : Sm4 L 4) {j : Nat} {p : Int × Int} (hj : L[j]? = some p) : Sm4 (L.set j (p.1, KK)) 4 := by
  have hl := lt_of_some hj
  have kk := kk_low
  have et : tgs (L.set j (p.1, KK)) = tgs L := by
    unfold tgs
    rw [List.map_set]
    have : (L.map (·.1))[j]? = some p.1 := by rw [List.getElem?_map, hj]; rfl
    have lm := lt_of_some this
    rw [List.getElem?_eq_getElem lm] at this
    have e := Option.some.inj this
    show (L.map (·.1)).set j p.1 = _
    rw [← e]
    exact List.set_getElem_self lm
  refine ⟨by rw [et]; exact h.nd, fun x hx => ?_, fun x hx => ?_, fun x hx => ?_⟩
  · rcases List.mem_or_eq_of_mem_set hx with hx | rfl
    · exact h.rg x hx
    · exact h.rg p (List.mem_of_getElem? hj)
  · rcases List.mem_or_eq_of_mem_set hx with hx | rfl
    · exact h.ne x hx
    · have := (h.rg p (List.mem_of_getElem? hj)).1
      show KK ≠ p.1
      omega
  · rcases List.mem_or_eq_of_mem_set hx with hx | rfl
    · exact h.sr x hx
    · exact .inr rfl
theorem prX_snoc (L : Prs) (p : Int × Int) : prX (L ++ [p]) = prX L ++ [pr3 p] := by unfold prX; rw [List.map_append]; rfl
abbrev SE (A : Ad) (L : Prs) (y2 y3 y4 : Sl) : Ev := [.sh (.ref A.d), .own (prX L), y2, y3, y4]
theorem small_body (A : Ad) {L : Prs} {i : Int} {y3 y4 : Sl} (h : Sm4 L i) (hi : 0 ≤ i ∧ i < 4) (hl : L.length ≤ 100) (ok : OkQ q b s) (hb : b < 800000) :
    Nx (O := O A) (fun ρ' s' => ∃ L' y3' y4', ρ' = SE A L' (.sh (.int i)) y3' y4' ∧ Sm4 L' (i + 1) ∧ L'.length ≤ L.length + 1 ∧ OkQ q (b + 2) s') (bd_law_small_0 A (SE A L (.sh (.int i)) y3 y4) s) := by
  obtain ⟨c, s1, e1, c0, c1, k1⟩ := take_ok A (n := 4) ok (by omega) (by decide) (by decide)
  unfold bd_law_small_0
  refine nx_seq (fun ρ' s' => ρ' = SE A L (.sh (.int i)) (.sh (.int c)) y4 ∧ s1 = s') (nx_of (by
    generalize prX L = W
    simp only [mAsg, EE, eEqS, seqS, toS, R.lift, asSeq, asList, asTup, List.replicate, Nat.reduceAdd, Nat.reduceSub, Nat.reduceLeDiff, Nat.reduceLT, Nat.reduceMul, Int.reduceToNat, Int.reduceEq, Int.reduceAdd, Int.reduceSub, Int.reduceNeg, reduceIte, Nat.reduceEqDiff, e1, toS]) ⟨rfl, rfl⟩) ?_
  rintro _ _ ⟨rfl, rfl⟩
  have ne : dNe (.int c) (.int i) = some (.bl (!decide (c = i))) := rfl
  by_cases hc : c = i
  · rw [decide_eq_true hc] at ne
    refine nx_if (k := false) (s1 := s1) (by
      generalize prX L = W
      simp only [SE, mAnd, EE, eEqS, seqS, toS, R.lift, asSeq, asList, asTup, List.replicate, Nat.reduceAdd, Nat.reduceSub, Nat.reduceLeDiff, Nat.reduceLT, Nat.reduceMul, Int.reduceToNat, Int.reduceEq, Int.reduceAdd, Int.reduceSub, Int.reduceNeg, reduceIte, Nat.reduceEqDiff, ne, dBool, Bool.not_true, Bool.false_eq_true, if_false]) (fun hk => by cases hk) (fun _ => nx_next ⟨L, _, _, rfl, h.mono (by omega), by omega, k1.mono (by omega)⟩)
  · rw [decide_eq_false hc] at ne
    obtain ⟨u, s2, e2, u0, u1, k2⟩ := take_ok A (n := 6) k1 (by omega) (by decide) (by decide)
    have gt : dGt (.int u) (.int 0) = some (.bl (decide (0 < u))) := rfl
    by_cases hu : 0 < u
    · rw [decide_eq_true hu] at gt
      refine nx_if (k := true) (s1 := s2) (by
        generalize prX L = W
        simp only [SE, mAnd, EE, eEqS, seqS, toS, R.lift, asSeq, asList, asTup, List.replicate, Nat.reduceAdd, Nat.reduceSub, Nat.reduceLeDiff, Nat.reduceLT, Nat.reduceMul, Int.reduceToNat, Int.reduceEq, Int.reduceAdd, Int.reduceSub, Int.reduceNeg, reduceIte, Nat.reduceEqDiff, ne, dBool, Bool.not_false, if_true, e2, gt]) (fun _ => ?_) (fun hk => by cases hk)
      have pl : (prX L).length < 100000 := by unfold prX; rw [List.length_map]; omega
      have tp : dTup [.int i, .int c] = some (pr3 (i, c)) := by
        show some (D.tup [.int i, .int c]) = some (D.tup [.int i, srD c])
        rw [srD_int (by omega)]
      refine nx_of (ρ := SE A (L ++ [(i, c)]) (.sh (.int i)) (.sh (.int c)) y4) (s := s2) ?_ ⟨_, _, _, rfl, h.add hi.1 ⟨c0, c1⟩ hc, by rw [List.length_append]; exact Nat.le_refl _, k2.mono (by omega)⟩
      unfold SE
      rw [prX_snoc]
      have tp2 : pr3 (i, c) = .tup [.int i, .int c] := (Option.some.inj tp).symm
      rw [tp2]
      generalize prX L = W at *
      simp only [mAppend, EE, eEqS, seqS, toS, R.lift, asSeq, asList, asTup, List.replicate, Nat.reduceAdd, Nat.reduceSub, Nat.reduceLeDiff, Nat.reduceLT, Nat.reduceMul, Int.reduceToNat, Int.reduceEq, Int.reduceAdd, Int.reduceSub, Int.reduceNeg, reduceIte, Nat.reduceEqDiff, if_pos pl]
    · rw [decide_eq_false hu] at gt
      refine nx_if (k := false) (s1 := s2) (by
        generalize prX L = W
        simp only [SE, mAnd, EE, eEqS, seqS, toS, R.lift, asSeq, asList, asTup, List.replicate, Nat.reduceAdd, Nat.reduceSub, Nat.reduceLeDiff, Nat.reduceLT, Nat.reduceMul, Int.reduceToNat, Int.reduceEq, Int.reduceAdd, Int.reduceSub, Int.reduceNeg, reduceIte, Nat.reduceEqDiff, ne, dBool, Bool.not_false, if_true, e2, gt]) (fun hk => by cases hk) (fun _ => nx_next ⟨L, _, _, rfl, h.mono (by omega), by omega, k2.mono (by omega)⟩)
theorem small_ok (A : Ad) (ok : OkQ q b s) (hb : b < 700000) : ∃ L s', m_law_small A [.ref A.d] s = .ok (.lst (prX L)) s' ∧ Sm4 L 4 ∧ L.length ≤ 4 ∧ OkQ q (b + 10) s' := by
  have run : m_law_small A [.ref A.d] s = runF (O A) 5 (mb_law_small A) [.ref A.d] s := rfl
  let Q : D → Dr → Prop := fun d s' => ∃ L, d = .lst (prX L) ∧ Sm4 L 4 ∧ L.length ≤ 4 ∧ OkQ q (b + 10) s'
  have key : ∃ d s', m_law_small A [.ref A.d] s = .ok d s' ∧ Q d s' := by
    rw [run]
    refine oc_run (O := O A) (n := 5) (m := mb_law_small A) (Q := Q) ?_
    unfold mb_law_small
    refine oc_seq (O := O A) (fun ρ' s' => ρ' = SE A [] .no .no .no ∧ s = s') (oc_nx (ρ := SE A [] .no .no .no) (s := s) rfl ⟨rfl, rfl⟩) ?_
    rintro _ _ ⟨rfl, rfl⟩
    have rg := rng1_ok (A := A) (ma := mCons (O A) (mC (O A) (.int 4)) (mNil (O A))) (ρ := SE A [] .no .no .no) (s := s) (s' := s) (l := 4) rfl (by omega) (by omega)
    have le : (iD (rng 4)).length = 4 := by decide
    have at_ : ∀ (i : Nat) d, (iD (rng 4))[i]? = some d → d = .int i ∧ i < 4 := fun i d hd => by
      have hlt := lt_of_some hd
      rw [le] at hlt
      have hv : i = 0 ∨ i = 1 ∨ i = 2 ∨ i = 3 := by omega
      rcases hv with rfl | rfl | rfl | rfl <;> exact ⟨(Option.some.inj hd).symm, by omega⟩
    refine oc_seq (O := O A) (fun ρ' s' => ∃ L y2 y3 y4, ρ' = SE A L y2 y3 y4 ∧ Sm4 L 4 ∧ L.length ≤ 4 ∧ OkQ q (b + 8) s') (oc_for (O := O A) rg (fun i ρ' s' => ∃ L y2 y3 y4, ρ' = SE A L y2 y3 y4 ∧ Sm4 L (i : Int) ∧ L.length ≤ i ∧ OkQ q (b + 2 * i) s') ?_ ⟨[], _, _, _, rfl, ⟨List.nodup_nil, (fun p hp => by cases hp), (fun p hp => by cases hp), (fun p hp => by cases hp)⟩, Nat.le_refl _, by simpa using ok⟩ ?_) ?_
    · rintro i d ρ' s' hd ⟨L, y2, y3, y4, rfl, h, hl, kk⟩
      obtain ⟨rfl, hi⟩ := at_ i d hd
      refine ⟨SE A L (.sh (.int i)) y3 y4, rfl, oc_of_nx (O := O A) ?_⟩
      refine (small_body A (i := (i : Int)) h (by omega) (by omega) kk (by omega)).mono ?_
      rintro ρ' s' ⟨L', y3', y4', rfl, h', hl', k'⟩
      exact ⟨L', _, _, _, rfl, h', by omega, k'.mono (by push_cast; omega)⟩
    · rintro ρ' s' ⟨L, y2, y3, y4, rfl, h, hl, kk⟩
      rw [le] at h hl kk
      exact ⟨L, _, _, _, rfl, h, hl, kk.mono (by omega)⟩
    rintro _ s1 ⟨L, y2, y3, y4, rfl, h, hl, k1⟩
    have fin : ∀ L s' y2 y3 y4, Sm4 L 4 → L.length ≤ 4 → OkQ q (b + 10) s' → Oc (S := Dr) (fun _ _ => False) Q (mFrz (O A) 1 (mRet (O A) (mVar (O A) 1)) (SE A L y2 y3 y4) s') := fun L s' y2 y3 y4 h hl kk => oc_rt (d := .lst (prX L)) (s := s') rfl ⟨L, rfl, h, hl, kk⟩
    have pl : (prX L).length = L.length := List.length_map _
    have gt : dGt (.int (L.length : Nat)) (.int 0) = some (.bl (decide (0 < L.length))) := by
      show some (D.bl (decide ((0 : Int) < (L.length : Nat)))) = _
      congr 2
      exact decide_eq_decide.mpr ⟨fun z => by omega, fun z => by omega⟩
    have lo : ∀ s y2 y3 y4, mLenO (O A) 1 (SE A L y2 y3 y4) s = .ok (.int (L.length : Nat)) s := fun s y2 y3 y4 => by
      show R.ok (D.int ((prX L).length : Nat)) s = _
      rw [pl]
    by_cases hz : 0 < L.length
    case neg =>
      rw [decide_eq_false hz] at gt
      refine oc_seq (O := O A) (fun ρ' s' => ρ' = SE A L y2 y3 y4 ∧ s1 = s') (oc_if (k := false) (s1 := s1) (by
        have := lo s1 y2 y3 y4
        simp only [mAnd, mTest, mBin, this, bind_ok, mC, gt, R.lift, dBool, Bool.false_eq_true, if_false]) (fun hk => by cases hk) (fun _ => oc_next (O := O A) ⟨rfl, rfl⟩)) ?_
      rintro _ _ ⟨rfl, rfl⟩
      exact fin L s1 _ _ _ h hl (k1.mono (by omega))
    rw [decide_eq_true hz] at gt
    obtain ⟨u, s2, e2, u0, u1, k2⟩ := take_ok A (n := 4) k1 (by omega) (by decide) (by decide)
    have eq0 : dEq (.int u) (.int 0) = some (.bl (decide (u = 0))) := rfl
    have tst : mAnd (O A) (mTest (O A) (mBin (O A) dGt (mLenO (O A) 1) (mC (O A) (.int 0)))) (mTest (O A) (mBin (O A) dEq (mCall (O A) 2 (m_law_take A) (mCons (O A) (mVar (O A) 0) (mCons (O A) (mC (O A) (.int 4)) (mNil (O A))))) (mC (O A) (.int 0)))) (SE A L y2 y3 y4) s1 = .ok (decide (u = 0)) s2 := by
      have l1 := lo s1 y2 y3 y4
      generalize hE : SE A L y2 y3 y4 = EE at l1
      have v0 : ∀ s, mVar (O A) 0 EE s = .ok (.ref A.d) s := fun s => by rw [← hE]; rfl
      simp only [mAnd, mTest, mBin, l1, bind_ok, mC, gt, R.lift, dBool, if_true, mCall, mCons, mNil, v0, List.length_cons, List.length_nil, e2, eq0]
    by_cases hu : u = 0
    case neg =>
      rw [decide_eq_false hu] at tst
      refine oc_seq (O := O A) (fun ρ' s' => ρ' = SE A L y2 y3 y4 ∧ s2 = s') (oc_if (k := false) (s1 := s2) tst (fun hk => by cases hk) (fun _ => oc_next (O := O A) ⟨rfl, rfl⟩)) ?_
      rintro _ _ ⟨rfl, rfl⟩
      exact fin L s2 _ _ _ h hl (k2.mono (by omega))
    rw [decide_eq_true hu] at tst
    obtain ⟨j, s3, e3, j0, j1, k3⟩ := take_ok A (n := (L.length : Nat)) k2 (by omega) (by omega) (by omega)
    have jl : j.toNat < L.length := by omega
    have hj := List.getElem?_eq_getElem jl
    generalize L[j.toNat] = p at hj
    have ixp : L2.atI (prX L) j = some (pr3 p) := by
      unfold atI ixN
      rw [if_pos j0, if_pos (by rw [pl]; omega)]
      show (prX L)[j.toNat]? = _
      unfold prX
      rw [List.getElem?_map, hj]
      rfl
    have ixn : ixN (prX L).length j = some j.toNat := by
      unfold ixN
      rw [if_pos j0, if_pos (by rw [pl]; omega)]
    have i0 : dIdx (pr3 p) (.int 0) = some (.int p.1) := rfl
    have srk : srD KK = .tup [.str "number", .int 7] := by
      show srD (cst 7) = _
      rw [srD_cst]
      rfl
    have st : (prX L).set j.toNat (.tup [.int p.1, .tup [.str "number", .int 7]]) = prX (L.set j.toNat (p.1, KK)) := by
      unfold prX
      rw [List.map_set]
      congr 1
    refine oc_seq (O := O A) (fun ρ' s' => ρ' = SE A (L.set j.toNat (p.1, KK)) y2 y3 (.sh (.int j)) ∧ s3 = s') (oc_if (k := true) (s1 := s2) tst (fun _ => ?_) (fun hk => by cases hk)) ?_
    · refine oc_nx (ρ := SE A (L.set j.toNat (p.1, KK)) y2 y3 (.sh (.int j))) (s := s3) ?_ ⟨rfl, rfl⟩
      have a1 : mAsg (O A) (mCall (O A) 2 (m_law_take A) (mCons (O A) (mVar (O A) 0) (mCons (O A) (mLenO (O A) 1) (mNil (O A))))) (fName 4) (SE A L y2 y3 y4) s2 = .nx (SE A L y2 y3 (.sh (.int j))) s3 := by
        have l2 := lo s2 y2 y3 y4
        have v0 : ∀ s, mVar (O A) 0 (SE A L y2 y3 y4) s = .ok (.ref A.d) s := fun s => rfl
        have f4 : fName 4 (.int j) (SE A L y2 y3 y4) = some (SE A L y2 y3 (.sh (.int j))) := rfl
        generalize hE : SE A L y2 y3 y4 = EE at l2 v0 f4
        simp only [mAsg, mCall, mCons, mNil, v0, bind_ok, l2, List.length_cons, List.length_nil, Nat.zero_add, Nat.reduceAdd, if_true, e3, toS, f4]
      unfold mSeq seqS
      rw [a1]
      dsimp only
      unfold SE
      rw [← st]
      generalize pr3 p = P3 at *
      generalize prX L = W at *
      simp only [mSetI, mIdxO, EE, eEqS, seqS, toS, R.lift, asSeq, asList, asTup, List.replicate, Nat.reduceAdd, Nat.reduceSub, Nat.reduceLeDiff, Nat.reduceLT, Nat.reduceMul, Int.reduceToNat, Int.reduceEq, Int.reduceAdd, Int.reduceSub, Int.reduceNeg, reduceIte, Nat.reduceEqDiff, ixp, i0, ixn, R.lift]
    rintro _ _ ⟨rfl, rfl⟩
    exact fin _ s3 _ _ _ (h.const hj) (by rw [List.length_set]; exact hl) (k3.mono (by omega))
  obtain ⟨d, s', e, L, rfl, h, hl, kk⟩ := key
  exact ⟨L, s', e, h, hl, kk⟩
theorem hm_holds (A : Ad) (ns : List Int) (he : A.es = []) (J : A.toCa.Inj) (hl : ns.length ≤ 63) : ∃ s, mb_law A (.sh (.lst (ns.map D.int)) :: .sh (.ref A.d) :: List.replicate 3 .no) ⟨ns.filter (fun n => decide (10 ^ 18 ≤ n)), 0, ns.filter (fun n => decide (n < 10 ^ 18)), 0, []⟩ = .rt (.bl true) s := by
  have hst : ∀ s : Dr, (O A).st s = s.st := fun _ => rfl
  have k0 := OkQ.start ns
  generalize (⟨ns.filter (fun n => decide (10 ^ 18 ≤ n)), 0, ns.filter (fun n => decide (n < 10 ^ 18)), 0, []⟩ : Dr) = s0 at k0 ⊢
  generalize Sl.sh (D.lst (ns.map D.int)) = x0
  obtain ⟨L, s1, e1, h4, hL4, k1⟩ := small_ok A k0 (by omega)
  have Sm := h4.sml
  have q1 : s1 = sto s1 [] := by rw [← k1.st]; rfl
  have pos : ∀ x ∈ tgs L, 0 ≤ x := fun x hx => (Sm.rg x hx).1
  obtain ⟨W, cp, C, ms, e, ho, cl, as, ha, pl, p1, p3, p5, pm, pe⟩ := planX_ok (A := A) (q := []) (s := s1) (L := L) Sm.nd pos (by omega) (pd := .lst (prX L)) (fun s => sourcesX_ok A Sm.nd (by omega) s)
  rw [← q1] at pl
  simp only [List.nil_append, List.length_nil, Nat.zero_add] at pl p1
  have ho1 := ho.toOut1
  have CLO : Clo L (C.filter (clB cp)) := by
    refine ⟨fun c hc => (closed_cd Sm.nd ho1 cl as (List.mem_filter.mp hc).1 (List.mem_filter.mp hc).2).cy, fun c hc t ht hs => ?_, ?_⟩
    · obtain ⟨hcm, hb⟩ := List.mem_filter.mp hc
      have hcy := cl.all c hcm
      by_cases hw : t ∈ W
      · unfold clB at hb
        have := List.all_eq_true.mp hb _ hs
        rw [(copied_iff ho1).mpr ⟨t, hw, rfl⟩] at this
        cases this
      · exact hcy.bwd (left_pm Sm.nd ho1) (mem_lft.mpr ⟨ht, hw⟩) hs
    · exact cl.dis.sublist (flat_sub _ C)
  have cnt := plan_count Sm.nd ho1 cl ha.adds
  have lo : ∀ k s, Rch (srcs L KK) k s → Goal L s → (mvR L W ++ ms).length ≤ k := fun k s hr g => by
    rw [cnt]
    exact lower Sm CLO hr g
  have up := upper Sm ho1 cl ha
  have ml : (mvR L W ++ ms).length ≤ 100 := by
    have c1 : (C.filter (clB cp)).length ≤ C.length := List.length_filter_le _ _
    have c2 := cls_count (L := L) (F := lft L W) cl.all
    have c3 := cl.len
    have c4 : (lft L W).length ≤ (tgs L).length := List.length_filter_le _ _
    have c5 : (tgs L).length = L.length := List.length_map _
    omega
  obtain ⟨s', fe⟩ := fewest_ok (A := A) (σ := s1) (q := e) Sm (fun p hp => ⟨h4.rg p hp, h4.sr p hp⟩) ml lo up
  refine ⟨s', ?_⟩
  have ln : dLenS e [.obj 1] = some (.int ((mvR L W ++ ms).length : Nat)) := by
    have pz : (prX (mvR L W ++ ms)).length = (mvR L W ++ ms).length := List.length_map _
    simp only [dLenS, sqS, p1, pz]
  generalize (mvR L W ++ ms).length = m at *
  generalize D.lst (prX L) = PD at *
  have leq : ∀ l, liftO dEq l (.int (m : Nat)) (.int (m : Nat)) = some (.bl true) := fun l => by
    have t1 : thaw l (.int (m : Nat)) = some (.int (m : Nat)) := by simp [thaw, thawN]
    unfold liftO
    rw [t1]
    have e : dEq (.int (m : Nat)) (.int (m : Nat)) = some (.bl true) := by show some (D.bl (decide _)) = _; rw [decide_eq_true rfl]
    simp only [Option.bind_some, e]
    rfl
  have ft : ∀ x2 : Sl, fTup 2 (fCons (fName 3) (fCons (fName 4) fNil)) (.tup [.obj 1, .obj 3]) [x0, .sh (.ref A.d), x2, .no, .no] = some [x0, .sh (.ref A.d), x2, .sh (.obj 1), .sh (.obj 3)] := fun _ => rfl
  unfold mb_law
  simp only [mClS, mBinS, EE, eEqS, seqS, toS, R.lift, asSeq, asList, asTup, List.replicate, Nat.reduceAdd, Nat.reduceSub, Nat.reduceLeDiff, Nat.reduceLT, Nat.reduceMul, Int.reduceToNat, Int.reduceEq, Int.reduceAdd, Int.reduceSub, Int.reduceNeg, reduceIte, Nat.reduceEqDiff, e1, pl, ft, hst, sto_st, ln, fe, leq, R.lift]
end
end K26
namespace K26
open PySem PySem.Spec PyProof.Rows L2 RZ Mr S
theorem all_mk {P : Program} {w : World} {K : PySem.W.Frag} {h : Heap} {mg : Str → Option Value} {fa : Addr} (X : K.In h) (G : h.Ns mainGlobals mg) (hfa : mg "law" = some (.ref fa))
    {f0 : Addr} {od0 an0 : Option Addr} {sl0 : Array (Option Value)} {oc0 kV0 dc0 pm0 cd0 ct0 : Value}
    {f1 : Addr} {od1 an1 : Option Addr} {sl1 : Array (Option Value)} {oc1 kV1 dc1 pm1 cd1 ct1 : Value}
    {f2 : Addr} {od2 an2 : Option Addr} {sl2 : Array (Option Value)} {oc2 kV2 dc2 pm2 cd2 ct2 : Value}
    {f3 : Addr} {od3 an3 : Option Addr} {sl3 : Array (Option Value)} {oc3 kV3 dc3 pm3 cd3 ct3 : Value}
    {f4 : Addr} {od4 an4 : Option Addr} {sl4 : Array (Option Value)} {oc4 kV4 dc4 pm4 cd4 ct4 : Value}
    {f5 : Addr} {od5 an5 : Option Addr} {sl5 : Array (Option Value)} {oc5 kV5 dc5 pm5 cd5 ct5 : Value}
    {f6 : Addr} {od6 an6 : Option Addr} {sl6 : Array (Option Value)} {oc6 kV6 dc6 pm6 cd6 ct6 : Value}
    {f7 : Addr} {od7 an7 : Option Addr} {sl7 : Array (Option Value)} {oc7 kV7 dc7 pm7 cd7 ct7 : Value}
    {f8 : Addr} {od8 an8 : Option Addr} {sl8 : Array (Option Value)} {oc8 kV8 dc8 pm8 cd8 ct8 : Value}
    {f9 : Addr} {od9 an9 : Option Addr} {sl9 : Array (Option Value)} {oc9 kV9 dc9 pm9 cd9 ct9 : Value}
    {f10 : Addr} {od10 an10 : Option Addr} {sl10 : Array (Option Value)} {oc10 kV10 dc10 pm10 cd10 ct10 : Value}
    {f11 : Addr} {od11 an11 : Option Addr} {sl11 : Array (Option Value)} {oc11 kV11 dc11 pm11 cd11 ct11 : Value}
    {f12 : Addr} {od12 an12 : Option Addr} {sl12 : Array (Option Value)} {oc12 kV12 dc12 pm12 cd12 ct12 : Value}
    {f13 : Addr} {od13 an13 : Option Addr} {sl13 : Array (Option Value)} {oc13 kV13 dc13 pm13 cd13 ct13 : Value}
    {f14 : Addr} {od14 an14 : Option Addr} {sl14 : Array (Option Value)} {oc14 kV14 dc14 pm14 cd14 ct14 : Value}
    {tk0 : Tok}
    (a0 : PySem.W.nsIn K mainGlobals "_law_draws" = some (some (.ref f0)))
    (l0 : K.lookup f0 = some ⟨oc0, od0, .func (PySem.W.fnOf "_law_draws" "_law_draws" (defArgs s_law_draws) (defBody s_law_draws) (defScope s_law_draws) .none kV0 dc0 pm0 an0 cd0 ct0), sl0⟩)
    (c0 : PySem.W.codeIn K cd0 "_law_draws" = true)
    (k0 : PySem.W.keepIn K (.ref f0) = true)
    (a1 : PySem.W.nsIn K mainGlobals "_law_mixed" = some (some (.ref f1)))
    (l1 : K.lookup f1 = some ⟨oc1, od1, .func (PySem.W.fnOf "_law_mixed" "_law_mixed" (defArgs s_law_mixed) (defBody s_law_mixed) (defScope s_law_mixed) .none kV1 dc1 pm1 an1 cd1 ct1), sl1⟩)
    (c1 : PySem.W.codeIn K cd1 "_law_mixed" = true)
    (k1 : PySem.W.keepIn K (.ref f1) = true)
    (a2 : PySem.W.nsIn K mainGlobals "_law_take" = some (some (.ref f2)))
    (l2 : K.lookup f2 = some ⟨oc2, od2, .func (PySem.W.fnOf "_law_take" "_law_take" (defArgs s_law_take) (defBody s_law_take) (defScope s_law_take) .none kV2 dc2 pm2 an2 cd2 ct2), sl2⟩)
    (c2 : PySem.W.codeIn K cd2 "_law_take" = true)
    (k2 : PySem.W.keepIn K (.ref f2) = true)
    (a3 : PySem.W.nsIn K mainGlobals "_law_small" = some (some (.ref f3)))
    (l3 : K.lookup f3 = some ⟨oc3, od3, .func (PySem.W.fnOf "_law_small" "_law_small" (defArgs s_law_small) (defBody s_law_small) (defScope s_law_small) .none kV3 dc3 pm3 an3 cd3 ct3), sl3⟩)
    (c3 : PySem.W.codeIn K cd3 "_law_small" = true)
    (k3 : PySem.W.keepIn K (.ref f3) = true)
    (a4 : PySem.W.nsIn K mainGlobals "as_pair" = some (some (.ref f4)))
    (l4 : K.lookup f4 = some ⟨oc4, od4, .func (PySem.W.fnOf "as_pair" "as_pair" (defArgs s_as_pair) (defBody s_as_pair) (defScope s_as_pair) .none kV4 dc4 pm4 an4 cd4 ct4), sl4⟩)
    (c4 : PySem.W.codeIn K cd4 "as_pair" = true)
    (k4 : PySem.W.keepIn K (.ref f4) = true)
    (a5 : PySem.W.nsIn K mainGlobals "sources_of" = some (some (.ref f5)))
    (l5 : K.lookup f5 = some ⟨oc5, od5, .func (PySem.W.fnOf "sources_of" "sources_of" (defArgs s_sources_of) (defBody s_sources_of) (defScope s_sources_of) .none kV5 dc5 pm5 an5 cd5 ct5), sl5⟩)
    (c5 : PySem.W.codeIn K cd5 "sources_of" = true)
    (k5 : PySem.W.keepIn K (.ref f5) = true)
    (a6 : PySem.W.nsIn K mainGlobals "reader_counts" = some (some (.ref f6)))
    (l6 : K.lookup f6 = some ⟨oc6, od6, .func (PySem.W.fnOf "reader_counts" "reader_counts" (defArgs s_reader_counts) (defBody s_reader_counts) (defScope s_reader_counts) .none kV6 dc6 pm6 an6 cd6 ct6), sl6⟩)
    (c6 : PySem.W.codeIn K cd6 "reader_counts" = true)
    (k6 : PySem.W.keepIn K (.ref f6) = true)
    (a7 : PySem.W.nsIn K mainGlobals "moves_outside_cycles" = some (some (.ref f7)))
    (l7 : K.lookup f7 = some ⟨oc7, od7, .func (PySem.W.fnOf "moves_outside_cycles" "moves_outside_cycles" (defArgs s_moves_outside_cycles) (defBody s_moves_outside_cycles) (defScope s_moves_outside_cycles) .none kV7 dc7 pm7 an7 cd7 ct7), sl7⟩)
    (c7 : PySem.W.codeIn K cd7 "moves_outside_cycles" = true)
    (k7 : PySem.W.keepIn K (.ref f7) = true)
    (a8 : PySem.W.nsIn K mainGlobals "cycle_from" = some (some (.ref f8)))
    (l8 : K.lookup f8 = some ⟨oc8, od8, .func (PySem.W.fnOf "cycle_from" "cycle_from" (defArgs s_cycle_from) (defBody s_cycle_from) (defScope s_cycle_from) .none kV8 dc8 pm8 an8 cd8 ct8), sl8⟩)
    (c8 : PySem.W.codeIn K cd8 "cycle_from" = true)
    (k8 : PySem.W.keepIn K (.ref f8) = true)
    (a9 : PySem.W.nsIn K mainGlobals "cycles_left" = some (some (.ref f9)))
    (l9 : K.lookup f9 = some ⟨oc9, od9, .func (PySem.W.fnOf "cycles_left" "cycles_left" (defArgs s_cycles_left) (defBody s_cycles_left) (defScope s_cycles_left) .none kV9 dc9 pm9 an9 cd9 ct9), sl9⟩)
    (c9 : PySem.W.codeIn K cd9 "cycles_left" = true)
    (k9 : PySem.W.keepIn K (.ref f9) = true)
    (a10 : PySem.W.nsIn K mainGlobals "moves_along" = some (some (.ref f10)))
    (l10 : K.lookup f10 = some ⟨oc10, od10, .func (PySem.W.fnOf "moves_along" "moves_along" (defArgs s_moves_along) (defBody s_moves_along) (defScope s_moves_along) .none kV10 dc10 pm10 an10 cd10 ct10), sl10⟩)
    (c10 : PySem.W.codeIn K cd10 "moves_along" = true)
    (k10 : PySem.W.keepIn K (.ref f10) = true)
    (a11 : PySem.W.nsIn K mainGlobals "plan" = some (some (.ref f11)))
    (l11 : K.lookup f11 = some ⟨oc11, od11, .func (PySem.W.fnOf "plan" "plan" (defArgs s_plan) (defBody s_plan) (defScope s_plan) .none kV11 dc11 pm11 an11 cd11 ct11), sl11⟩)
    (c11 : PySem.W.codeIn K cd11 "plan" = true)
    (k11 : PySem.W.keepIn K (.ref f11) = true)
    (a12 : PySem.W.nsIn K mainGlobals "_law_level" = some (some (.ref f12)))
    (l12 : K.lookup f12 = some ⟨oc12, od12, .func (PySem.W.fnOf "_law_level" "_law_level" (defArgs s_law_level) (defBody s_law_level) (defScope s_law_level) .none kV12 dc12 pm12 an12 cd12 ct12), sl12⟩)
    (c12 : PySem.W.codeIn K cd12 "_law_level" = true)
    (k12 : PySem.W.keepIn K (.ref f12) = true)
    (a13 : PySem.W.nsIn K mainGlobals "_law_fewest" = some (some (.ref f13)))
    (l13 : K.lookup f13 = some ⟨oc13, od13, .func (PySem.W.fnOf "_law_fewest" "_law_fewest" (defArgs s_law_fewest) (defBody s_law_fewest) (defScope s_law_fewest) .none kV13 dc13 pm13 an13 cd13 ct13), sl13⟩)
    (c13 : PySem.W.codeIn K cd13 "_law_fewest" = true)
    (k13 : PySem.W.keepIn K (.ref f13) = true)
    (a14 : PySem.W.nsIn K mainGlobals "law" = some (some (.ref f14)))
    (l14 : K.lookup f14 = some ⟨oc14, od14, .func (PySem.W.fnOf "law" "law" (defArgs s_law) (defBody s_law) (defScope s_law) .none kV14 dc14 pm14 an14 cd14 ct14), sl14⟩)
    (c14 : PySem.W.codeIn K cd14 "law" = true)
    (k14 : PySem.W.keepIn K (.ref f14) = true)
    (z_dict : PySem.W.nsIn K mainGlobals "dict" = some none)
    (z_enumerate : PySem.W.nsIn K mainGlobals "enumerate" = some none)
    (z_int : PySem.W.nsIn K mainGlobals "int" = some none)
    (z_isinstance : PySem.W.nsIn K mainGlobals "isinstance" = some none)
    (z_len : PySem.W.nsIn K mainGlobals "len" = some none)
    (z_list : PySem.W.nsIn K mainGlobals "list" = some none)
    (z_range : PySem.W.nsIn K mainGlobals "range" = some none)
    (z_sorted : PySem.W.nsIn K mainGlobals "sorted" = some none)
    (z_tuple : PySem.W.nsIn K mainGlobals "tuple" = some none)
    (z_zip : PySem.W.nsIn K mainGlobals "zip" = some none)
    (g0 : PySem.W.nsIn K mainGlobals "SCRATCH" = some (some (.int (-1) tk0)))
    : ∃ fd : FuncData, (∀ (s : Shared) (v : Value), BindsTo s fd ⟨[v], []⟩ [("_law_script", v)]) ∧ ∀ base : Heap, K.In base → base.Ns mainGlobals mg → FnOk P w K mg base (L2.CX P w) 4 fa fd ["_law_script"] (spLaw K) := by
  have e := hfa.symm.trans (PySem.W.mg_of X G a14)
  cases e
  have F0 := fun_mk (st := s_law_draws) l0 c0 k0
  have F1 := fun_mk (st := s_law_mixed) l1 c1 k1
  have F2 := fun_mk (st := s_law_take) l2 c2 k2
  have F3 := fun_mk (st := s_law_small) l3 c3 k3
  have F4 := fun_mk (st := s_as_pair) l4 c4 k4
  have F5 := fun_mk (st := s_sources_of) l5 c5 k5
  have F6 := fun_mk (st := s_reader_counts) l6 c6 k6
  have F7 := fun_mk (st := s_moves_outside_cycles) l7 c7 k7
  have F8 := fun_mk (st := s_cycle_from) l8 c8 k8
  have F9 := fun_mk (st := s_cycles_left) l9 c9 k9
  have F10 := fun_mk (st := s_moves_along) l10 c10 k10
  have F11 := fun_mk (st := s_plan) l11 c11 k11
  have F12 := fun_mk (st := s_law_level) l12 c12 k12
  have F13 := fun_mk (st := s_law_fewest) l13 c13 k13
  have F14 := fun_mk (st := s_law) l14 c14 k14
  let C : Ca := ⟨(fun e => match e with
      | _ => fa), [], fa, fa, fun _ => fa, keyH w⟩
  refine ⟨PySem.W.fnOf "law" "law" (defArgs s_law) (defBody s_law) (defScope s_law) .none kV14 dc14 pm14 an14 cd14 ct14, fun s v => .of_eq rfl, fun base _ _ => ?_⟩
  have T : Txt P w K mg base C :=
    { f_law_draws := ⟨_, _, F0, PySem.W.mg_of X G a0⟩
      f_law_mixed := ⟨_, _, F1, PySem.W.mg_of X G a1⟩
      f_law_take := ⟨_, _, F2, PySem.W.mg_of X G a2⟩
      f_law_small := ⟨_, _, F3, PySem.W.mg_of X G a3⟩
      f_as_pair := ⟨_, _, F4, PySem.W.mg_of X G a4⟩
      f_sources_of := ⟨_, _, F5, PySem.W.mg_of X G a5⟩
      f_reader_counts := ⟨_, _, F6, PySem.W.mg_of X G a6⟩
      f_moves_outside_cycles := ⟨_, _, F7, PySem.W.mg_of X G a7⟩
      f_cycle_from := ⟨_, _, F8, PySem.W.mg_of X G a8⟩
      f_cycles_left := ⟨_, _, F9, PySem.W.mg_of X G a9⟩
      f_moves_along := ⟨_, _, F10, PySem.W.mg_of X G a10⟩
      f_plan := ⟨_, _, F11, PySem.W.mg_of X G a11⟩
      f_law_level := ⟨_, _, F12, PySem.W.mg_of X G a12⟩
      f_law_fewest := ⟨_, _, F13, PySem.W.mg_of X G a13⟩
      f_law := ⟨_, _, F14, PySem.W.mg_of X G a14⟩
      b_dict := PySem.W.mg_none_of X G z_dict
      b_enumerate := PySem.W.mg_none_of X G z_enumerate
      b_int := PySem.W.mg_none_of X G z_int
      b_isinstance := PySem.W.mg_none_of X G z_isinstance
      b_len := PySem.W.mg_none_of X G z_len
      b_list := PySem.W.mg_none_of X G z_list
      b_range := PySem.W.mg_none_of X G z_range
      b_sorted := PySem.W.mg_none_of X G z_sorted
      b_tuple := PySem.W.mg_none_of X G z_tuple
      b_zip := PySem.W.mg_none_of X G z_zip
      es := rfl
      hw := rfl
      inj := fun e he => absurd he List.not_mem_nil
      g_SCRATCH := ⟨_, gc_int (PySem.W.mg_of X G g0)⟩ }
  exact ok_law T F14 (fun A ns he hi hl => hm_holds A ns he hi hl)
end K26
open PySem PySem.W PyProof.Rows
set_option maxRecDepth 100000 in
set_option maxHeartbeats 0 in
theorem PySem.Challenge.cw_latecopy_k26_whole_no_shorter_list_holds : PySem.Challenge.rw_latecopy_k26_whole_no_shorter_list.Holds := by
  w_on; o_law; k_head; (case hw => w_witness2)
  k_fill
  refine L2.walk_of (l := PySem.Challenge.rw_latecopy_k26_whole_no_shorter_list) (n := 63) (k := 4) (x := "_law_script") (CX := fun w => L2.CX PySem.Challenge.rw_latecopy_k26_whole_no_shorter_list.prog w) (sp := fun w => Mr.spLaw _) rfl (by decide) rfl ⟨rfl, by decide, by decide⟩ (fun w h Y => PySem.W.kIn_of Y) ?F (fun _ _ a ns hl _ hS => ⟨a, ns, rfl, hS, hl, fun _ => rfl⟩) (fun w H s e s2 z => Mr.noCX z)
  case F =>
    intro w mg fa h KX G hmg
    refine' K26.all_mk KX G hmg ?Za0 ?Zl0 ?Zc0 ?Zk0 ?Za1 ?Zl1 ?Zc1 ?Zk1 ?Za2 ?Zl2 ?Zc2 ?Zk2 ?Za3 ?Zl3 ?Zc3 ?Zk3 ?Za4 ?Zl4 ?Zc4 ?Zk4 ?Za5 ?Zl5 ?Zc5 ?Zk5 ?Za6 ?Zl6 ?Zc6 ?Zk6 ?Za7 ?Zl7 ?Zc7 ?Zk7 ?Za8 ?Zl8 ?Zc8 ?Zk8 ?Za9 ?Zl9 ?Zc9 ?Zk9 ?Za10 ?Zl10 ?Zc10 ?Zk10 ?Za11 ?Zl11 ?Zc11 ?Zk11 ?Za12 ?Zl12 ?Zc12 ?Zk12 ?Za13 ?Zl13 ?Zc13 ?Zk13 ?Za14 ?Zl14 ?Zc14 ?Zk14 ?Zz_dict ?Zz_enumerate ?Zz_int ?Zz_isinstance ?Zz_len ?Zz_list ?Zz_range ?Zz_sorted ?Zz_tuple ?Zz_zip ?Zg0
    (case Za0 => k_is)
    (case Zl0 => k_is)
    (case Zc0 => k_is)
    (case Zk0 => first | k_is | decide +kernel | rfl)
    (case Za1 => k_is)
    (case Zl1 => k_is)
    (case Zc1 => k_is)
    (case Zk1 => first | k_is | decide +kernel | rfl)
    (case Za2 => k_is)
    (case Zl2 => k_is)
    (case Zc2 => k_is)
    (case Zk2 => first | k_is | decide +kernel | rfl)
    (case Za3 => k_is)
    (case Zl3 => k_is)
    (case Zc3 => k_is)
    (case Zk3 => first | k_is | decide +kernel | rfl)
    (case Za4 => k_is)
    (case Zl4 => k_is)
    (case Zc4 => k_is)
    (case Zk4 => first | k_is | decide +kernel | rfl)
    (case Za5 => k_is)
    (case Zl5 => k_is)
    (case Zc5 => k_is)
    (case Zk5 => first | k_is | decide +kernel | rfl)
    (case Za6 => k_is)
    (case Zl6 => k_is)
    (case Zc6 => k_is)
    (case Zk6 => first | k_is | decide +kernel | rfl)
    (case Za7 => k_is)
    (case Zl7 => k_is)
    (case Zc7 => k_is)
    (case Zk7 => first | k_is | decide +kernel | rfl)
    (case Za8 => k_is)
    (case Zl8 => k_is)
    (case Zc8 => k_is)
    (case Zk8 => first | k_is | decide +kernel | rfl)
    (case Za9 => k_is)
    (case Zl9 => k_is)
    (case Zc9 => k_is)
    (case Zk9 => first | k_is | decide +kernel | rfl)
    (case Za10 => k_is)
    (case Zl10 => k_is)
    (case Zc10 => k_is)
    (case Zk10 => first | k_is | decide +kernel | rfl)
    (case Za11 => k_is)
    (case Zl11 => k_is)
    (case Zc11 => k_is)
    (case Zk11 => first | k_is | decide +kernel | rfl)
    (case Za12 => k_is)
    (case Zl12 => k_is)
    (case Zc12 => k_is)
    (case Zk12 => first | k_is | decide +kernel | rfl)
    (case Za13 => k_is)
    (case Zl13 => k_is)
    (case Zc13 => k_is)
    (case Zk13 => first | k_is | decide +kernel | rfl)
    (case Za14 => k_is)
    (case Zl14 => k_is)
    (case Zc14 => k_is)
    (case Zk14 => first | k_is | decide +kernel | rfl)
    (case Zz_dict => k_is)
    (case Zz_enumerate => k_is)
    (case Zz_int => k_is)
    (case Zz_isinstance => k_is)
    (case Zz_len => k_is)
    (case Zz_list => k_is)
    (case Zz_range => k_is)
    (case Zz_sorted => k_is)
    (case Zz_tuple => k_is)
    (case Zz_zip => k_is)
    (case Zg0 => k_is)
