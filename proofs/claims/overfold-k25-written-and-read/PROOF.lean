import PyProof.Rows.All
import Wide.All
import OpenK.AllK
import Wide.FinOn
import PyProof.EqKinds
import PyProof.DictRoadsH
import HandS.NoneIn
import HandS.Dict
import HandS.ForMost
import HandS.ForExc
import HandS.Defaults
import HandS.ExcCtx
import HandS.HotCalls
import HandS.TupAny
import HandS.Flow
import HandS.Deep
import HandS.IsInst
import HandS.SetKeys
import HandS.TupLen
import HandS.DictTup
import HandS.More
import HandS.Conv
import HandS.Zip
import HandS.Style
import PyProof.DictMoreH
import HandS.Call
import KE.KExcIs
import HandS.ExcValue
import HandS.Iter
import KE.SortData
import KE.KSortTup
import HandS.TupSets
import HandS.List
import HandS.HeadHook1
import HandS.HeadHook2
import HandS.ExcInit
import PyProof.Rows.TupDisplay
import HandS.DictEq
import KE.DataCmp
import HandS.StrMore
import PyProof.ListRange
import HandS.RevTup
import HandS.Rev
import KE.KStateDown
import Lean
import HandS.Head0
import HandS.Head1
import HandS.Head2
import HandS.HeadEnd
import PySem.Challenge.RW_overfold_k25_whole_written_and_read
set_option Elab.async false
set_option linter.all false
set_option maxRecDepth 100000
set_option maxHeartbeats 4000000
section
/-! Ev: a dict whose keys are None and tuples of texts, every value True (a set, as LayerRows.origins is one). -/
namespace Ev
open PySem PySem.Spec L2
set_option autoImplicit false
abbrev NK := Option (List Key)
section
variable {P : Program} {w : World}
/-- the value v is the key k -/
def nIs (P : Program) (w : World) (h : Heap) : NK → Value → Prop
  | none, v => v = .none
  | some k, v => ∃ a, v = .ref a ∧ (tupleKind (mixKind P w)).is h k a
def nHash (P : Program) (w : World) : NK → Int
  | none => (noneKind P w).hash none
  | some k => (tupleKind (mixKind P w)).hash k
def nEnt (P : Program) (w : World) (x : NK × Value) : DictEntry := ⟨nHash P w x.1, x.2, .bool true⟩
def DnOf (P : Program) (w : World) (h : Heap) (d : Addr) (xs : List (NK × Value)) : Prop :=
  ∃ o es ep, h.get? d = some o ∧ o.ExactDict ∧ o.data = .dict es ep ∧ es.toList = xs.map (nEnt P w) ∧ (xs.map (·.1)).Nodup
theorem nIs.inj {h : Heap} {x y : NK} {v : Value} (a : nIs P w h x v) (b : nIs P w h y v) : x = y := by
  cases x with
  | none => cases y with
    | none => rfl
    | some k => obtain ⟨c, e, _⟩ := b; rw [show v = .none from a] at e; cases e
  | some k => cases y with
    | none => obtain ⟨c, e, _⟩ := a; rw [show v = .none from b] at e; cases e
    | some j =>
      obtain ⟨c, e, hc⟩ := a
      obtain ⟨c', e', hc'⟩ := b
      rw [e] at e'
      cases e'
      exact congrArg some ((tupleKind (mixKind P w)).inj hc hc')
variable {A : Around} {E : Value → Shared → Prop} {s : Shared}
theorem isTup {h : Heap} {k : List Key} {a : Addr} (x : (tupleKind (mixKind P w)).is h k a) : ∃ items, h.IsTuple a items := by
  obtain ⟨o, its, n, h1, h2, h3, _⟩ := x
  exact ⟨its, o, h1, h2, n, h3⟩
/-- does the key k stand as the value v: one look -/
theorem n_eq (hu : A.units < cLine) {x y : NK} {u v : Value} {Q : Bool → Shared → Prop} (hx : nIs P w s.heap x u) (hy : nIs P w s.heap y v) (h : Q (decide (x = y)) s) : wpAny (model P w) A (PySem.eqBool u v) Q E s := by
  cases x with
  | none =>
    obtain rfl : u = .none := hx
    cases y with
    | none =>
      obtain rfl : v = .none := hy
      rw [decide_eq_true rfl] at h
      exact SeqAt.EqAt.same _ _ _ _ _ h
    | some k =>
      obtain ⟨a, rfl, ha⟩ := hy
      rw [decide_eq_false (fun z => nomatch z)] at h
      obtain ⟨its, ht⟩ := isTup ha
      exact SeqAt.EqAt.none_tuple ht hu _ _ _ _ h
  | some k =>
    obtain ⟨a, rfl, ha⟩ := hx
    cases y with
    | none =>
      obtain rfl : v = .none := hy
      rw [decide_eq_false (fun z => nomatch z)] at h
      obtain ⟨its, ht⟩ := isTup ha
      exact SeqAt.EqAt.tuple_none ht hu _ _ _ _ h
    | some j =>
      obtain ⟨b, rfl, hb⟩ := hy
      refine (tupleKind (mixKind P w)).eqBool hu ha hb ?_
      rwa [show decide (k = j) = decide (some k = some j) from by simp]
theorem n_quiet {x : NK} {v : Value} {Q : Bool → Shared → Prop} (hx : nIs P w s.heap x v) (h : Q true s) : wpAny (model P w) A (eqIsQuiet 8 v) Q E s := by
  cases x with
  | none =>
    obtain rfl : v = .none := hx
    rw [eqIsQuiet_byValue _ rfl]
    exact wpAny_pure h
  | some k =>
    obtain ⟨a, rfl, ha⟩ := hx
    exact (tupleKind (mixKind P w)).quiet ha h
def nDraws (P : Program) (w : World) : NK → Nat
  | none => 1
  | some k => (tupleKind (mixKind P w)).draws k
theorem n_hash (hu : A.units < cLine) {x : NK} {v : Value} {Q : Int → Shared → Prop} (hx : nIs P w s.heap x v) (h : Q (nHash P w x) { s with toks := s.toks + nDraws P w x }) : wpAny (model P w) A (PySem.pyHash v) Q E s := by
  cases x with
  | none =>
    obtain rfl : v = .none := hx
    exact (noneKind P w).pyHash (k := none) rfl h
  | some k =>
    obtain ⟨a, rfl, ha⟩ := hx
    exact (tupleKind (mixKind P w)).pyHash hu ha h
theorem n_tell {k : NK} {key : Value} {stored : List Value} {Q : Bool → Shared → Prop} (hkey : nIs P w s.heap k key) (hst : ∀ v ∈ stored, ∃ k', nIs P w s.heap k' v) (h : Q false s) : wpAny (model P w) A (tableMayTell key stored) Q E s := by
  unfold tableMayTell
  split
  · exact wpAny_pure h
  · refine wpAny_bind (n_quiet hkey ?_)
    simp only [Bool.not_true, Bool.false_eq_true, if_false]
    refine wpAny_bind ?_
    refine wpAny_forIn_list _ (fun rest r s' => s' = s ∧ r = (none, ()) ∧ ∀ v ∈ rest, ∃ k', nIs P w s.heap k' v) _ ?_ ?_ _ _ ⟨rfl, rfl, hst⟩
    · rintro x rest r s' ⟨rfl, rfl, hr⟩
      obtain ⟨k', hb⟩ := hr x List.mem_cons_self
      refine wpAny_bind (n_quiet hb ?_)
      simp only [Bool.not_true, Bool.false_eq_true, if_false]
      exact wpAny_pure ⟨rfl, rfl, fun v hv => hr v (List.mem_cons_of_mem _ hv)⟩
    · rintro r s' ⟨rfl, rfl, _⟩
      exact wpAny_pure h
theorem nodup_get {xs : List (NK × Value)} (hn : (xs.map (·.1)).Nodup) {i j : Nat} {k : NK} {p q : Value} (hi : xs[i]? = some (k, p)) (hj : xs[j]? = some (k, q)) : i = j := by
  have hi' : (xs.map (·.1))[i]? = some k := by rw [List.getElem?_map, hi]; rfl
  have hj' : (xs.map (·.1))[j]? = some k := by rw [List.getElem?_map, hj]; rfl
  exact (List.getElem?_inj (List.getElem?_eq_some_iff.mp hi').1 hn).mp (hi'.trans hj'.symm)
/-- how far a walk over the places of one hash has come -/
def NHit (xs : List (NK × Value)) (k : NK) (pl : List Nat) (rest : List Nat) (hit : Option Nat) : Prop :=
  ∃ pre, pl = pre ++ rest ∧ ((hit = none ∧ ∀ j ∈ pre, ∀ p, xs[j]? ≠ some (k, p)) ∨ ∃ j p, hit = some j ∧ j ∈ pre ∧ xs[j]? = some (k, p))
theorem NHit.skip {xs : List (NK × Value)} {k k' : NK} {pl rest : List Nat} {hit : Option Nat} {x : Nat} {p' : Value} (h : NHit xs k pl (x :: rest) hit) (hx : xs[x]? = some (k', p')) (hne : ¬ k' = k) : NHit xs k pl rest hit := by
  obtain ⟨pre, e, o⟩ := h
  refine ⟨pre ++ [x], by rw [e]; simp, ?_⟩
  rcases o with ⟨h0, hno⟩ | ⟨j, p, h1, hj, e2⟩
  · refine .inl ⟨h0, fun j hj p e3 => ?_⟩
    rcases List.mem_append.mp hj with hj | hj
    · exact hno j hj p e3
    · rw [List.mem_singleton.mp hj, hx] at e3
      cases e3
      exact hne rfl
  · exact .inr ⟨j, p, h1, List.mem_append_left _ hj, e2⟩
theorem NHit.take {xs : List (NK × Value)} (hn : (xs.map (·.1)).Nodup) {k : NK} {pl rest : List Nat} (hd : pl.Nodup) {hit : Option Nat} {x : Nat} {p' : Value} (h : NHit xs k pl (x :: rest) hit) (hx : xs[x]? = some (k, p')) : hit = none ∧ NHit xs k pl rest (some x) := by
  obtain ⟨pre, e, o⟩ := h
  rcases o with ⟨h0, hno⟩ | ⟨j, p, h1, hj, e2⟩
  · exact ⟨h0, pre ++ [x], by rw [e]; simp, .inr ⟨x, p', rfl, by simp, hx⟩⟩
  · have : j = x := nodup_get hn e2 hx
    subst this
    rw [e] at hd
    exact absurd rfl ((List.nodup_append.mp hd).2.2 j hj j List.mem_cons_self)
theorem n_find {d : Addr} {o : Obj} {es ep} {xs : List (NK × Value)} {k : NK} {key : Value} {Q : Option Nat → Shared → Prop} (hu : A.units < cLine) (hkey : nIs P w s.heap k key)
    (ho : s.heap.get? d = some o) (hd : o.data = .dict es ep) (he : es.toList = xs.map (nEnt P w)) (his : ∀ x ∈ xs, nIs P w s.heap x.1 x.2) (hn : (xs.map (·.1)).Nodup)
    (hnone : k ∉ xs.map (·.1) → Q none s) (hsome : ∀ (j : Nat) (p : Value), xs[j]? = some (k, p) → Q (some j) s) :
    wpAny (model P w) A (dictFind d key (nHash P w k)) Q E s := by
  have at_ : ∀ i, es[i]? = (xs[i]?).map (nEnt P w) := fun i => by rw [← Array.getElem?_toList, he, List.getElem?_map]
  have hsz : es.size = xs.length := by rw [← Array.length_toList, he, List.length_map]
  obtain ⟨pl, hpl⟩ : ∃ pl, pl = placesWithHash es.size (fun i => es[i]?.map (·.hash)) (nHash P w k) := ⟨_, rfl⟩
  have hpd : pl.Nodup := by rw [hpl]; exact List.Pairwise.filter _ List.nodup_range
  have hin : ∀ j p, xs[j]? = some (k, p) → j ∈ pl := fun j p e => by
    rw [hpl]
    refine List.mem_filter.mpr ⟨List.mem_range.mpr (by rw [hsz]; exact (List.getElem?_eq_some_iff.mp e).1), ?_⟩
    dsimp only
    rw [at_, e]
    simp [nEnt]
  have hall : ∀ i ∈ pl, ∃ k' p, xs[i]? = some (k', p) ∧ es[i]? = some ⟨nHash P w k, p, .bool true⟩ ∧ nIs P w s.heap k' p := fun i hi => by
    rw [hpl] at hi
    obtain ⟨h1, h2⟩ := List.mem_filter.mp hi
    have hlt : i < xs.length := by rw [← hsz]; exact List.mem_range.mp h1
    obtain ⟨⟨k', p⟩, hx⟩ : ∃ y, xs[i]? = some y := ⟨_, List.getElem?_eq_getElem hlt⟩
    dsimp only at h2
    rw [at_, hx] at h2
    refine ⟨k', p, hx, ?_, his _ (List.mem_of_getElem? hx)⟩
    rw [at_, hx]
    have : nHash P w k' = nHash P w k := by simpa [nEnt] using h2
    show some (nEnt P w (k', p)) = _
    unfold nEnt
    rw [this]
  have none_of : NHit xs k pl [] none → k ∉ xs.map (·.1) := fun ⟨pre, e, o⟩ hm => by
    obtain ⟨x, hx, rfl⟩ := List.mem_map.mp hm
    obtain ⟨j, hj⟩ := List.mem_iff_getElem?.mp hx
    rcases o with ⟨_, hno⟩ | ⟨_, _, h, _⟩
    · refine hno j ?_ x.2 hj
      have := hin j x.2 hj
      rw [e, List.append_nil] at this
      exact this
    · cases h
  have h0 : NHit xs k pl pl none := ⟨[], rfl, .inl ⟨rfl, fun _ h => nomatch h⟩⟩
  have hst : ∀ v ∈ pl.filterMap (fun i => es[i]?.map (·.key)), ∃ k', nIs P w s.heap k' v := fun v hv => by
    obtain ⟨i, hi, e⟩ := List.mem_filterMap.mp hv
    obtain ⟨k', p, _, e2, h2⟩ := hall i hi
    rw [e2] at e
    obtain rfl : p = v := by simpa using e
    exact ⟨k', h2⟩
  have plain : wpAny (model P w) A (dictWalkPlain d key (nHash P w k) es pl) Q E s := by
    unfold dictWalkPlain
    refine wpAny_bind ?_
    refine wpAny_forIn_list _ (fun rest b s' => s' = s ∧ b = (none, ()) ∧ NHit xs k pl rest none ∧ ∀ i ∈ rest, i ∈ pl) _ ?_ ?_ _ _ ⟨rfl, rfl, h0, fun _ h => h⟩
    · rintro x rest b s' ⟨rfl, rfl, hh, hr⟩
      obtain ⟨k', p, ex, ee, hp⟩ := hall x (hr x List.mem_cons_self)
      rw [ee]
      dsimp only
      rw [if_pos (by simp)]
      refine wpAny_bind (wpAny_dictEpoch ho hd (wpAny_bind (n_eq hu hp hkey (wpAny_bind (wpAny_dictEpoch ho hd ?_)))))
      show wpAny _ _ (if (ep != ep) = true then _ else _) _ E _
      rw [if_neg (by simp)]
      by_cases hkk : k' = k
      · rw [decide_eq_true hkk]
        subst hkk
        exact wpAny_bind (wpAny_rule (wpAny_pure (wpAny_pure (hsome x p ex))))
      · rw [decide_eq_false hkk]
        exact wpAny_bind (wpAny_rule (wpAny_pure ⟨rfl, rfl, hh.skip ex hkk, fun i hi => hr i (List.mem_cons_of_mem _ hi)⟩))
    · rintro b s' ⟨rfl, rfl, hh, _⟩
      exact wpAny_pure (hnone (none_of hh))
  have hany : ¬ (es.any fun e => e.key == key && e.hash != nHash P w k) = true := by
    rw [← Array.any_toList, List.any_eq_true]
    rintro ⟨e, hin', hc⟩
    rw [he] at hin'
    obtain ⟨x, hx, rfl⟩ := List.mem_map.mp hin'
    simp only [nEnt, Bool.and_eq_true, beq_iff_eq, bne_iff_ne, ne_eq] at hc
    obtain ⟨hxa, hne⟩ := hc
    have := his x hx
    rw [hxa] at this
    exact hne (by rw [this.inj hkey])
  unfold dictFind
  try with_reducible refine wpAny_holding ?_
  refine wpAny_bind (wpAny_dictEntries ho hd ?_)
  rw [← hpl]
  obtain rfl | ⟨a, rfl⟩ : key = .none ∨ ∃ a, key = .ref a := by
    cases k with
    | none => exact .inl hkey
    | some k => obtain ⟨a, e, _⟩ := hkey; exact .inr ⟨a, e⟩
  · dsimp only
    by_cases hp : ((Value.none :: pl.filterMap fun i => es[i]?.map (·.key)).all carriedByValue) = true
    · rw [if_pos hp]
      exact plain
    · rw [if_neg hp]
      by_cases hone : ((pl.filterMap fun i => es[i]?.map (·.key)) == [Value.none]) = true <;>
      (first | rw [if_pos hone] | rw [if_neg hone]) <;> (first | refine wpAny_bind (wpAny_pure ?_) | refine wpAny_bind (n_tell hkey hst ?_)) <;>
      (rw [if_neg (by simp)]
       refine wpAny_bind ?_
       refine wpAny_forIn_list _ (fun rest b s' => s' = s ∧ ∃ hit, b = (none, hit) ∧ NHit xs k pl rest hit ∧ ∀ i ∈ rest, i ∈ pl) _ ?_ ?_ _ _ ⟨rfl, none, rfl, h0, fun _ h => h⟩
       · rintro x rest b s' ⟨rfl, hit, rfl, hh, hr⟩
         obtain ⟨k', p, ex, ee, hp'⟩ := hall x (hr x List.mem_cons_self)
         have hr' : ∀ i ∈ rest, i ∈ pl := fun i hi => hr i (List.mem_cons_of_mem _ hi)
         rw [ee]
         dsimp only
         rw [if_pos (by simp)]
         refine wpAny_bind (wpAny_dictEpoch ho hd (wpAny_bind (n_eq hu hp' hkey (wpAny_bind (wpAny_dictEpoch ho hd ?_)))))
         show wpAny _ _ (if (ep != ep) = true then _ else _) _ E _
         rw [if_neg (by simp)]
         by_cases hkk : k' = k
         · rw [decide_eq_true hkk]
           subst hkk
           obtain ⟨rfl, hh'⟩ := hh.take hn hpd ex
           simp only [Option.isSome_none, Bool.false_eq_true, if_false, if_true]
           first | refine wpAny_bind (wpAny_pure ?_) | skip
           refine wpAny_bind (wpAny_rule ?_)
           split
           · exact wpAny_pure (wpAny_pure (hsome x _ ex))
           · exact wpAny_pure ⟨rfl, some x, rfl, hh', hr'⟩
         · rw [decide_eq_false hkk]
           simp only [Bool.false_eq_true, if_false]
           refine wpAny_bind (wpAny_rule ?_)
           first | rw [if_neg (by simp)] | skip
           first
             | exact wpAny_pure ⟨rfl, hit, rfl, hh.skip ex hkk, hr'⟩
             | exact wpAny_bind (wpAny_pure (wpAny_pure ⟨rfl, hit, rfl, hh.skip ex hkk, hr'⟩))
       · rintro b s' ⟨rfl, hit, rfl, ⟨pre, e, o'⟩, _⟩
         rcases o' with ⟨rfl, hno⟩ | ⟨j, p, rfl, _, ej⟩
         · exact wpAny_pure (hnone (none_of ⟨pre, e, .inl ⟨rfl, hno⟩⟩))
         · exact wpAny_pure (hsome j p ej))
  · dsimp only
    rw [if_neg (show ¬ ((Value.ref a :: pl.filterMap fun i => es[i]?.map (·.key)).all carriedByValue) = true by simp [carriedByValue])]
    rw [if_neg hany]
    by_cases hone : ((pl.filterMap fun i => es[i]?.map (·.key)) == [Value.ref a]) = true <;>
    (first | rw [if_pos hone] | rw [if_neg hone]) <;> (first | refine wpAny_bind (wpAny_pure ?_) | refine wpAny_bind (n_tell hkey hst ?_)) <;>
    (rw [if_neg (by simp)]
     refine wpAny_bind ?_
     refine wpAny_forIn_list _ (fun rest b s' => s' = s ∧ ∃ hit, b = (none, hit) ∧ NHit xs k pl rest hit ∧ ∀ i ∈ rest, i ∈ pl) _ ?_ ?_ _ _ ⟨rfl, none, rfl, h0, fun _ h => h⟩
     · rintro x rest b s' ⟨rfl, hit, rfl, hh, hr⟩
       obtain ⟨k', p, ex, ee, hp'⟩ := hall x (hr x List.mem_cons_self)
       have hr' : ∀ i ∈ rest, i ∈ pl := fun i hi => hr i (List.mem_cons_of_mem _ hi)
       rw [ee]
       dsimp only
       rw [if_pos (by simp)]
       refine wpAny_bind (wpAny_dictEpoch ho hd (wpAny_bind (n_eq hu hp' hkey (wpAny_bind (wpAny_dictEpoch ho hd ?_)))))
       show wpAny _ _ (if (ep != ep) = true then _ else _) _ E _
       rw [if_neg (by simp)]
       by_cases hkk : k' = k
       · rw [decide_eq_true hkk]
         subst hkk
         obtain ⟨rfl, hh'⟩ := hh.take hn hpd ex
         simp only [Option.isSome_none, Bool.false_eq_true, if_false, if_true]
         first | refine wpAny_bind (wpAny_pure ?_) | skip
         refine wpAny_bind (wpAny_rule ?_)
         split
         · exact wpAny_pure (wpAny_pure (hsome x _ ex))
         · exact wpAny_pure ⟨rfl, some x, rfl, hh', hr'⟩
       · rw [decide_eq_false hkk]
         simp only [Bool.false_eq_true, if_false]
         refine wpAny_bind (wpAny_rule ?_)
         first | rw [if_neg (by simp)] | skip
         first
           | exact wpAny_pure ⟨rfl, hit, rfl, hh.skip ex hkk, hr'⟩
           | exact wpAny_bind (wpAny_pure (wpAny_pure ⟨rfl, hit, rfl, hh.skip ex hkk, hr'⟩))
     · rintro b s' ⟨rfl, hit, rfl, ⟨pre, e, o'⟩, _⟩
       rcases o' with ⟨rfl, hno⟩ | ⟨j, p, rfl, _, ej⟩
       · exact wpAny_pure (hnone (none_of ⟨pre, e, .inl ⟨rfl, hno⟩⟩))
       · exact wpAny_pure (hsome j p ej))
theorem DnOf.typeIs {d : Addr} {xs : List (NK × Value)} (hm : DnOf P w s.heap d xs) : s.TypeIs (.ref d) "dict" :=
  let ⟨o, _, _, ho, hc, _⟩ := hm; ⟨o, ho, hc.1⟩
theorem nIs.keeps {h h' : Heap} {d : Addr} {o : Obj} {es ep} {x : NK} {v : Value} (hx : nIs P w h x v) (ho : h.get? d = some o) (hd : o.data = .dict es ep) (hs : Heap.SameBut d h h') : nIs P w h' x v := by
  cases x with
  | none => exact hx
  | some k => obtain ⟨a, e, ha⟩ := hx; exact ⟨a, e, (tupleKind (mixKind P w)).keeps ha ho hd hs⟩
def nHas (ks : List NK) (k : NK) : Bool := ks.any fun x => decide (x = k)
theorem nHas_iff {ks : List NK} {k : NK} : nHas ks k = true ↔ k ∈ ks := by
  unfold nHas
  rw [List.any_eq_true]
  constructor
  · rintro ⟨x, h1, h2⟩
    rw [← of_decide_eq_true h2]
    exact h1
  · exact fun h => ⟨k, h, decide_eq_true rfl⟩
theorem nHas_not {ks : List NK} {k : NK} (h : k ∉ ks) : nHas ks k = false := by
  cases e : nHas ks k with
  | false => rfl
  | true => exact absurd (nHas_iff.mp e) h
theorem n_get {d : Addr} {xs : List (NK × Value)} {k : NK} {key : Value} {Q : Option Value → Shared → Prop} (hu : A.units < cLine) (hkey : nIs P w s.heap k key) (hm : DnOf P w s.heap d xs)
    (his : ∀ x ∈ xs, nIs P w s.heap x.1 x.2) (h : Q (if nHas (xs.map (·.1)) k = true then some (.bool true) else none) { s with toks := s.toks + nDraws P w k }) : wpAny (model P w) A (dictGet d key) Q E s := by
  obtain ⟨o, es, ep, ho, _, hd, he, hn⟩ := hm
  unfold dictGet
  try with_reducible refine wpAny_holding ?_
  refine wpAny_bind (n_hash hu hkey (wpAny_bind (n_find (s := { s with toks := s.toks + nDraws P w k }) hu hkey ho hd he his hn ?_ ?_)))
  · intro hno
    rw [nHas_not hno, if_neg (by simp)] at h
    exact wpAny_pure h
  · intro j p hj
    rw [if_pos (nHas_iff.mpr (List.mem_map.mpr ⟨(k, p), List.mem_of_getElem? hj, rfl⟩))] at h
    refine wpAny_bind (wpAny_dictEntries (s := { s with toks := s.toks + nDraws P w k }) ho hd ?_)
    rw [show es[j]? = (xs[j]?).map (nEnt P w) from by rw [← Array.getElem?_toList, he, List.getElem?_map], hj]
    exact wpAny_pure h
theorem n_in {d : Addr} {xs : List (NK × Value)} {k : NK} {key : Value} {Q : Value → Shared → Prop} (hu : A.units + 1 < cLine) (hkey : nIs P w s.heap k key) (hd : (d == sysModules) = false) (hm : DnOf P w s.heap d xs)
    (his : ∀ x ∈ xs, nIs P w s.heap x.1 x.2) (h : Q (.bool (nHas (xs.map (·.1)) k)) { s with toks := s.toks + nDraws P w k }) : wpAny (model P w) A (compareOp .In key (.ref d)) Q E s := by
  have hu' : A.in1.units < cLine := hu
  show wpAny _ _ (do return .bool (← contains (.ref d) key)) Q E s
  refine wpAny_bind ?_
  unfold contains
  try with_reducible refine wpAny_holding ?_
  refine wpAny_bind (wpAny_specialOf hm.typeIs slot_dict_contains.lookup ?_)
  show wpAny _ _ (if (some (Value.builtin "dict.__contains__") == some Value.none) = true then _ else _) _ E s
  rw [if_neg (by rw [beq_builtin_none]; exact Bool.false_ne_true)]
  refine wpAny_bind (wpAny_callSpecialUnlessNone?_slot (name := Str.ofString "__contains__") hm.typeIs slot_dict_contains
    (wpAny_call_entry slot_dict_contains hm.typeIs entry_dict_contains ?_ (args_dict_contains _ _)))
  show wpAny _ _ (dictGet d key >>= _) _ _ s
  refine wpAny_bind (n_get hu' hkey hm his ?_)
  by_cases hk : nHas (xs.map (·.1)) k = true
  · rw [hk] at h
    rw [if_pos hk]
    show wpAny _ _ (ret (.bool true)) _ _ _
    exact wpAny_pure ⟨_, rfl, wpAny_truthy_bool (wpAny_pure h)⟩
  · rw [(Bool.not_eq_true _).mp hk] at h
    rw [if_neg hk]
    show wpAny _ _ (Builtin.Dict.pendingKey? d key >>= _) _ _ _
    exact wpAny_bind (wpAny_pendingKey_other hd (wpAny_pure ⟨_, rfl, wpAny_truthy_bool (wpAny_pure h)⟩))
/-- the keys behind d[k] = True -/
def nPut (xs : List (NK × Value)) (k : NK) (v : Value) : List (NK × Value) := if nHas (xs.map (·.1)) k = true then xs else xs ++ [(k, v)]
theorem modify_same {α : Type} (f : α → α) : ∀ (l : List α) (j : Nat), (∀ x, l[j]? = some x → f x = x) → l.modify j f = l
  | [], j, _ => by simp
  | x :: l, 0, h => by rw [List.modify_zero_cons, h x rfl]
  | x :: l, j + 1, h => by rw [List.modify_succ_cons, modify_same f l j fun y hy => h y (by simpa using hy)]
theorem n_set {d : Addr} {xs : List (NK × Value)} {k : NK} {key : Value} {Q : Unit → Shared → Prop} (hu : A.units + 1 < cLine) (hkey : nIs P w s.heap k key) (hm : DnOf P w s.heap d xs)
    (his : ∀ x ∈ xs, nIs P w s.heap x.1 x.2) (hQ : ∀ h', DnOf P w h' d (nPut xs k key) → Heap.SameBut d s.heap h' → Q () { s with heap := h', toks := s.toks + nDraws P w k })
    (hsz : xs.length ≤ sizeLine) : wpAny (model P w) A (setItem (.ref d) key (.bool true)) Q E s := by
  have hu' : A.in1.units < cLine := hu
  unfold setItem
  try with_reducible refine wpAny_holding ?_
  refine wpAny_bind (wpAny_sequenceKey hm.typeIs (by decide) ?_)
  refine wpAny_bind (wpAny_callSpecial?_slot (name := Str.ofString "__setitem__") hm.typeIs slot_dict_setitem
    (wpAny_call_entry slot_dict_setitem hm.typeIs entry_dict_setitem ?_ (args_dict_setitem _ _ _)))
  show wpAny _ _ (Builtin.Dict.notOrdered "__setitem__" ⟨[.ref d, key, .bool true], []⟩ >>= _) _ _ s
  refine wpAny_bind (wpAny_notOrdered_dict hm.typeIs ?_)
  show wpAny _ _ (dictSet d key (.bool true) >>= _) _ _ s
  obtain ⟨o, es, ep, ho, hc, hd, he, hn⟩ := hm
  have hes : es.size = xs.length := by rw [← Array.length_toList, he, List.length_map]
  refine wpAny_bind ?_
  unfold dictSet
  try with_reducible refine wpAny_holding ?_
  refine wpAny_bind (n_hash hu' hkey ?_)
  unfold dictSetHashed
  try with_reducible refine wpAny_holding ?_
  refine wpAny_bind (n_find (s := { s with toks := s.toks + nDraws P w k }) hu' hkey ho hd he his hn ?_ ?_)
  · intro hno
    have hp : nPut xs k key = xs ++ [(k, key)] := by unfold nPut; rw [nHas_not hno]; rfl
    rw [hp] at hQ
    refine wpAny_bind (wpAny_rule (wpAny_updateDictKeys (hz := by omega) (s := { s with toks := s.toks + nDraws P w k }) ho hd (wpAny_pure ⟨.none, rfl, wpAny_pure (hQ _ ⟨_, _, ep + 1, Heap.get?_update_self _ ho (Obj.isFreed_of_dict (Obj.data_mapDictKeys hd _)),
      hc.mapDictKeys _, Obj.data_mapDictKeys hd _, ?_, ?_⟩ (Heap.SameBut.update ..))⟩)))
    · simp [he, nEnt]
    · rw [List.map_append, List.nodup_append]
      refine ⟨hn, by simp, ?_⟩
      intro x hx y hy
      simp only [List.map_cons, List.map_nil, List.mem_singleton] at hy
      subst hy
      exact fun e => hno (e ▸ hx)
  · intro j p hj
    have hp : nPut xs k key = xs := if_pos (nHas_iff.mpr (List.mem_map.mpr ⟨(k, p), List.mem_of_getElem? hj, rfl⟩))
    rw [hp] at hQ
    refine wpAny_bind (wpAny_rule (wpAny_bind (wpAny_updateDict (s := { s with toks := s.toks + nDraws P w k }) ho hd (wpAny_point (wpAny_pure ⟨.none, rfl, wpAny_pure (hQ _ ⟨_, _, ep, Heap.get?_update_self _ ho (Obj.isFreed_of_dict (Obj.data_mapDict hd _)),
      hc.mapDict _, Obj.data_mapDict hd _, ?_, hn⟩ (Heap.SameBut.update ..))⟩)))))
    rw [← he]
    have := modify_same (fun e : DictEntry => { e with val := .bool true }) es.toList j fun x hx => by
      rw [he, List.getElem?_map, hj] at hx
      cases hx
      rfl
    rw [Array.toList_modify]
    exact this
end
end Ev
end
section
/-! Ev, first part: own values, the abstract heap, results, and how they stand to the hand layer's. -/
namespace Ev
open PySem PySem.Spec L2
set_option autoImplicit false

inductive AV where
  | non | bl (b : Bool) | int (i : Int) | str (x : Str) | tup (xs : List AV) | ktup (xs : List AV) | kl (xs : List AV) | ref (n : Nat) | exc (c : Nat) (r : Option Int) | ty (n : String) | cls (c : Nat) | hx (c : Nat) (r : Option Int)
  deriving Inhabited
inductive AK where
  | k (x : Key) | t (xs : List Key)
  deriving DecidableEq
inductive AO where
  | lst (xs : List AV) (ro : Bool)
  | dict (kvs : List (AK × AV)) (lk : Bool)
  | ins (c : Nat) (fs : List (Nat × AV))
  | dn (ks : List NK)
abbrev AHp := List AO
abbrev ASt := List (Option AV)
inductive Res (α : Type) where
  | ok (a : α) (A : AHp) | err (c : Nat) (r : Option Int) (A : AHp) | bad
inductive SR where
  | nx (σ : ASt) (A : AHp) | rt (v : AV) (A : AHp) | bk (σ : ASt) (A : AHp) | ct (σ : ASt) (A : AHp) | er (σ : ASt) (c : Nat) (r : Option Int) (A : AHp) | bad
abbrev M (α : Type) := AHp → Res α
abbrev Den (α : Type) := ASt → AHp → Res α
abbrev SDen := ASt → AHp → SR
def Res.bind {α β : Type} (r : Res α) (g : α → AHp → Res β) : Res β := match r with
  | .ok a A => g a A
  | .err c x A => .err c x A
  | .bad => .bad
@[simp] theorem Res.bind_ok {α β : Type} (a : α) (A : AHp) (g : α → AHp → Res β) : (Res.ok a A).bind g = g a A := (rfl)
@[simp] theorem Res.bind_err {α β : Type} (c : Nat) (x : Option Int) (A : AHp) (g : α → AHp → Res β) : (Res.err c x A : Res α).bind g = .err c x A := (rfl)
@[simp] theorem Res.bind_bad {α β : Type} (g : α → AHp → Res β) : (Res.bad : Res α).bind g = .bad := (rfl)

/-- what a class of exceptions says -/
structure ExC (K : PySem.W.Frag) (C : Addr) : Prop where
  cl : (PySem.W.clsIn K C).isSome = true
  ga : PySem.W.findIn K (.ref C) "__getattribute__" = some (some (.builtin "BaseException.__getattribute__"))
  gt : PySem.W.findIn K (.ref C) "__getattr__" = some none
  sub : PySem.W.subIn K (.ref C) (.type "BaseException") = some true
  ha : PySem.W.findIn K (.ref C) "__class__" = some (some (.builtin "object.__class__"))
  hn : PySem.W.specialIn K (.builtin "object.__class__") "__get__" = some (some (.builtin "getset_descriptor.__get__"))
  tk : PySem.W.takesIn K (.builtin "object.__class__") = some true
  hm : PySem.W.mroIn K C (.type "object") = some true
  ty : PySem.W.typeIn K (.ref C) = some (.type "type")
  kp : PySem.W.keepIn K (.ref C) = true
/-- the program's names: where its classes stand, its fields' names, the field of an error class -/
structure En where
  K : PySem.W.Frag
  cad : Nat → Addr
  fnm : Nat → Str
  finj : ∀ i j, fnm i = fnm j → i = j
  efl : Nat → Str
  hot : Option (Addr × Nat × Option Int × Option Addr)
  isC : Nat → Bool
  isF : Nat → Bool
  isX : Nat → Bool
  clsOk : ∀ c, isC c = true → Cls K (cad c)
  noat : ∀ c f, isC c = true → isF f = true → NoAttr K (cad c) (fnm f)
  mnm : Nat → Str
  mnf : ∀ m f, isF f = true → fnm f ≠ mnm m
  sub : Nat → Nat → Option Bool
  subB : Nat → String → Option Bool
  bsub : String → Nat → Option Bool
  subOk : ∀ c c' b, sub c c' = some b → PySem.W.kitOne K (.ref (cad c)) (.ref (cad c')) = some b
  subBOk : ∀ c n b, subB c n = some b → PySem.W.kitOne K (.ref (cad c)) (.type n) = some b
  bsubOk : ∀ n c b, bsub n c = some b → PySem.W.kitOne K (.type n) (.ref (cad c)) = some b
  insF : ∀ c, isC c = true → PySem.W.findIn K (.ref (cad c)) "__class__" = some (some (.builtin "object.__class__")) ∧ PySem.W.specialIn K (.builtin "object.__class__") "__get__" = some (some (.builtin "getset_descriptor.__get__")) ∧
    PySem.W.takesIn K (.builtin "object.__class__") = some true ∧ PySem.W.mroIn K (cad c) (.type "object") = some true
  excOk : ∀ c, isX c = true → ExC K (cad c)
  P : Program
  w : World

/-- the exception object: its class and its own dict -/
def exφ (a : Addr) (cls : Value) (d : Option Addr) : Heap → Prop := fun h => ∃ oe, h.get? a = some oe ∧ oe.cls = cls ∧ oe.dict = d ∧ ∃ vs, oe.data = .fields vs
/-- it is an exception's object -/
def IsExφ (a : Addr) (φ : Heap → Prop) : Prop := ∃ cls d, ∀ h, φ h → exφ a cls d h
/-- what never changes once it stands -/
noncomputable def fixd (a : Addr) : HO → Bool
  | .tup _ => true
  | .ext φ => @decide (IsExφ a φ) (Classical.propDecidable _)
  | .xd _ => true
  | .frz _ _ => true
  | _ => false
/-- an object that may be written -/
def unl : AO → Bool
  | .dict _ true => false
  | _ => true
/-- the dict at a: its keys, by value -/
def dnO (P : Program) (w : World) (a : Addr) (xs : List (NK × Value)) : HO := .ext fun h => xs.length ≤ sizeLine ∧ (a == sysModules) = false ∧ DnOf P w h a xs
theorem fix_dn {P : Program} {w : World} {a : Addr} {xs : List (NK × Value)} (h : ∃ h, DnOf P w h a xs) (h1 : xs.length ≤ sizeLine) (h2 : (a == sysModules) = false) : fixd a (dnO P w a xs) = false := by
  refine @decide_eq_false _ (Classical.propDecidable _) ?_
  rintro ⟨cls, d, hx⟩
  obtain ⟨h0, hd⟩ := h
  obtain ⟨oe, e1, _, _, vs, e2⟩ := hx h0 ⟨h1, h2, hd⟩
  obtain ⟨o, es, ep, e3, _, e4, _⟩ := hd
  rw [e1] at e3
  cases e3
  rw [e2] at e4
  cases e4
/-- a key's value -/
def NAt (H : Hp) (x : NK × Value) : Prop := match x.1 with
  | none => x.2 = .none
  | some k => ∃ b, x.2 = .ref b ∧ H b = some (.tup (k.map kV))
/-- a list that nothing writes: the law's argument -/
def SqF (K : PySem.W.Frag) (H : Hp) (a : Addr) (xs : List V) : Prop := (∃ o, H a = some (.frz o (.lst xs))) ∨ SqL K (fun _ => none) a xs
theorem SqF.sq {K : PySem.W.Frag} {H : Hp} {a : Addr} {xs : List V} (h : SqF K H a xs) : SqL K H a xs := by
  rcases h with ⟨o, h⟩ | (h | ⟨o, h⟩) | h
  · exact .inl (.inr ⟨o, h⟩)
  · cases h
  · cases h
  · exact .inr h
theorem SqF.of {K : PySem.W.Frag} {H : Hp} {a : Addr} {xs : List V} (hO : Only H) (h : SqL K H a xs) : SqF K H a xs := by
  rcases h with (h | ⟨o, h⟩) | h
  · rcases hO a with z | ⟨_, _, z⟩ <;> (rw [h] at z; cases z)
  · exact .inl ⟨o, h⟩
  · exact .inr (.inr h)
def RX (E : En) (H : Hp) (c : Nat) (r : Option Int) (d : Option Addr) : Prop := match r with
  | none => d = none
  | some i => ∃ dd, d = some dd ∧ H dd = some (.xd [(E.efl c, V.int i)])

section
variable (E : En) (ρ : List Addr) (H : Hp)
mutual
def RV : AV → V → Prop
  | .non, v => v = .non
  | .bl b, v => v = .bl b
  | .int i, v => v = .int i
  | .str x, v => v = .str x
  | .tup xs, v => ∃ a ys, v = .ref a ∧ H a = some (.tup ys) ∧ RVs xs ys
  | .ktup xs, v => ∃ a ys, v = .ref a ∧ SqT E.K H a ys ∧ RVs xs ys
  | .kl xs, v => ∃ a ys, v = .ref a ∧ SqF E.K H a ys ∧ RVs xs ys
  | .ref n, v => ∃ a, ρ[n]? = some a ∧ v = .ref a
  | .exc c r, v => ∃ a d φ, v = .ref a ∧ H a = some (.ext φ) ∧ (∀ h, φ h → exφ a (.ref (E.cad c)) d h) ∧ E.isX c = true ∧ RX E H c r d
  | .ty n, v => v = .ty n
  | .cls c, v => v = .ref (E.cad c)
  | .hx c r, v => ∃ p d, E.hot = some (p, c, r, d) ∧ v = .ref p ∧ RX E H c r d
def RVs : List AV → List V → Prop
  | [], vs => vs = []
  | x :: xs, vs => ∃ y ys, vs = y :: ys ∧ RV x y ∧ RVs xs ys
end
def RK : List (AK × AV) → List (Key × V) → Prop
  | [], l => l = []
  | (k, v) :: r, l => ∃ k' v' r', l = (k', v') :: r' ∧ k = .k k' ∧ RV E ρ H v v' ∧ RK r r'
def RT : List (AK × AV) → List (List Key × V) → Prop
  | [], l => l = []
  | (k, v) :: r, l => ∃ k' v' r', l = (k', v') :: r' ∧ k = .t k' ∧ RV E ρ H v v' ∧ RT r r'
def RF : List (Nat × AV) → List (Str × V) → Prop
  | [], l => l = []
  | (k, v) :: r, l => ∃ v' r', l = (E.fnm k, v') :: r' ∧ RV E ρ H v v' ∧ RF r r'
/-- a dict that may be written, or one that a loop holds -/
def AtD (a : Addr) (lk : Bool) (u : HO) : Prop := if lk = true then ∃ od, H a = some (.frz od u) ∧ u ≠ .dT [] else H a = some u
def RO : AO → Addr → Prop
  | .lst xs ro, a => ∃ ys, RVs E ρ H xs ys ∧ H a = some (.lst ys)
  | .dict kvs lk, a => (∃ kv', RK E ρ H kvs kv' ∧ AtD H a lk (.dK kv')) ∨ ∃ kv', RT E ρ H kvs kv' ∧ AtD H a lk (.dT kv')
  | .dn ks, a => ∃ xs : List (NK × Value), xs.map (·.1) = ks ∧ H a = some (dnO E.P E.w a xs) ∧ (∀ x ∈ xs, NAt H x) ∧ (∃ h, DnOf E.P E.w h a xs) ∧ xs.length ≤ sizeLine ∧ (a == sysModules) = false
  | .ins c fs, a => ∃ dx fs', H a = some (.ins (E.cad c) dx fs') ∧ RF E ρ H fs fs' ∧ E.isC c = true ∧ ∀ p ∈ fs, E.isF p.1 = true
structure RH (A : AHp) : Prop where
  len : ρ.length = A.length
  nd : ρ.Nodup
  at_ : ∀ (n : Nat) (o : AO) (a : Addr), A[n]? = some o → ρ[n]? = some a → RO E ρ H o a
structure RS (σa : ASt) (σ : St) : Prop where
  len : σa.length = σ.length
  at_ : ∀ (i : Nat) (x : AV), σa[i]? = some (some x) → ∃ v, σ[i]? = some (some v) ∧ RV E ρ H x v
end
/-- what values lean on -/
noncomputable def fixv (a : Addr) : HO → Bool
  | .tup _ => true
  | .ext φ => @decide (IsExφ a φ) (Classical.propDecidable _)
  | .xd _ => true
  | .frz _ (.tup _) => true
  | .frz _ (.lst _) => true
  | _ => false
theorem fixv_fixd {a : Addr} {o : HO} (h : fixv a o = true) : fixd a o = true := by
  cases o with
  | frz o u => rfl
  | tup _ => rfl
  | ext _ => exact h
  | xd _ => rfl
  | _ => cases h
theorem fix_ex {a : Addr} {φ : Heap → Prop} {cls : Value} {d : Option Addr} (h : ∀ h, φ h → exφ a cls d h) : fixv a (.ext φ) = true := @decide_eq_true _ (Classical.propDecidable _) ⟨cls, d, h⟩
structure ExtV (ρ : List Addr) (H : Hp) (ρ' : List Addr) (H' : Hp) : Prop where
  pre : ∀ (n : Nat) (a : Addr), ρ[n]? = some a → ρ'[n]? = some a
  fx : ∀ (a : Addr) (o : HO), H a = some o → fixv a o = true → H' a = some o
/-- more addresses, the fixed things kept -/
structure Ext (ρ : List Addr) (H : Hp) (ρ' : List Addr) (H' : Hp) : Prop where
  pre : ∀ (n : Nat) (a : Addr), ρ[n]? = some a → ρ'[n]? = some a
  fx : ∀ (a : Addr) (o : HO), H a = some o → fixd a o = true → H' a = some o
theorem Ext.v {ρ : List Addr} {H : Hp} {ρ' : List Addr} {H' : Hp} (x : Ext ρ H ρ' H') : ExtV ρ H ρ' H' := ⟨x.pre, fun a o e f => x.fx a o e (fixv_fixd f)⟩
theorem Ext.refl (ρ : List Addr) (H : Hp) : Ext ρ H ρ H := ⟨fun _ _ h => h, fun _ _ h _ => h⟩
theorem Ext.trans {ρ ρ1 ρ2 : List Addr} {H H1 H2 : Hp} (a : Ext ρ H ρ1 H1) (b : Ext ρ1 H1 ρ2 H2) : Ext ρ H ρ2 H2 :=
  ⟨fun n x h => b.pre n x (a.pre n x h), fun x o h f => b.fx x o (a.fx x o h f) f⟩

section
variable {E : En} {ρ ρ' : List Addr} {H H' : Hp}
theorem SqT.ext {K : PySem.W.Frag} {a : Addr} {ys : List V} (x : ∀ a o, H a = some o → fixv a o = true → H' a = some o) (h : SqT K H a ys) : SqT K H' a ys := by
  rcases h with (h | ⟨o, h⟩) | h
  · exact .inl (.inl (x _ _ h rfl))
  · exact .inl (.inr ⟨o, x _ _ h rfl⟩)
  · exact .inr h
theorem SqF.ext {K : PySem.W.Frag} {a : Addr} {ys : List V} (x : ∀ a o, H a = some o → fixv a o = true → H' a = some o) (h : SqF K H a ys) : SqF K H' a ys := by
  rcases h with ⟨o, h⟩ | h
  · exact .inl ⟨o, x _ _ h rfl⟩
  · exact .inr h
mutual
theorem RV.extV (x : ExtV ρ H ρ' H') : ∀ {v : AV} {u : V}, RV E ρ H v u → RV E ρ' H' v u
  | .non, _, h => h
  | .bl _, _, h => h
  | .int _, _, h => h
  | .str _, _, h => h
  | .tup xs, _, h => by
    obtain ⟨a, ys, e, s, r⟩ := h
    exact ⟨a, ys, e, x.fx _ _ s rfl, RVs.extV x r⟩
  | .ktup xs, _, h => by
    obtain ⟨a, ys, e, s, r⟩ := h
    exact ⟨a, ys, e, SqT.ext x.fx s, RVs.extV x r⟩
  | .kl xs, _, h => by
    obtain ⟨a, ys, e, s, r⟩ := h
    exact ⟨a, ys, e, SqF.ext x.fx s, RVs.extV x r⟩
  | .ref n, _, h => by
    obtain ⟨a, e, q⟩ := h
    exact ⟨a, x.pre n a e, q⟩
  | .exc c r, _, h => by
    obtain ⟨a, d, φ, e, q, qφ, hX, z⟩ := h
    refine ⟨a, d, φ, e, x.fx _ _ q (fix_ex qφ), qφ, hX, ?_⟩
    cases r with
    | none => exact z
    | some i =>
      obtain ⟨dd, e1, e2⟩ := z
      exact ⟨dd, e1, x.fx _ _ e2 rfl⟩
  | .ty _, _, h => h
  | .cls _, _, h => h
  | .hx c r, _, h => by
    obtain ⟨p, d, e, q, z⟩ := h
    refine ⟨p, d, e, q, ?_⟩
    cases r with
    | none => exact z
    | some i =>
      obtain ⟨dd, e1, e2⟩ := z
      exact ⟨dd, e1, x.fx _ _ e2 rfl⟩
theorem RVs.extV (x : ExtV ρ H ρ' H') : ∀ {vs : List AV} {us : List V}, RVs E ρ H vs us → RVs E ρ' H' vs us
  | [], _, h => h
  | v :: vs, _, h => by
    obtain ⟨y, ys, e, a, b⟩ := h
    exact ⟨y, ys, e, RV.extV x a, RVs.extV x b⟩
end
theorem RX.extV (x : ExtV ρ H ρ' H') {c : Nat} {r : Option Int} {d : Option Addr} (h : RX E H c r d) : RX E H' c r d := by
  cases r with
  | none => exact h
  | some i =>
    obtain ⟨dd, e1, e2⟩ := h
    exact ⟨dd, e1, x.fx _ _ e2 rfl⟩
theorem RK.extV (x : ExtV ρ H ρ' H') : ∀ {l : List (AK × AV)} {m : List (Key × V)}, RK E ρ H l m → RK E ρ' H' l m
  | [], _, h => h
  | (k, v) :: r, _, h => by
    obtain ⟨k', v', r', e, e2, a, b⟩ := h
    exact ⟨k', v', r', e, e2, a.extV x, b.extV x⟩
theorem RT.extV (x : ExtV ρ H ρ' H') : ∀ {l : List (AK × AV)} {m : List (List Key × V)}, RT E ρ H l m → RT E ρ' H' l m
  | [], _, h => h
  | (k, v) :: r, _, h => by
    obtain ⟨k', v', r', e, e2, a, b⟩ := h
    exact ⟨k', v', r', e, e2, a.extV x, b.extV x⟩
theorem RF.extV (x : ExtV ρ H ρ' H') : ∀ {l : List (Nat × AV)} {m : List (Str × V)}, RF E ρ H l m → RF E ρ' H' l m
  | [], _, h => h
  | (k, v) :: r, _, h => by
    obtain ⟨v', r', e, a, b⟩ := h
    exact ⟨v', r', e, a.extV x, b.extV x⟩
theorem RS.extV {σa : ASt} {σ : St} (h : RS E ρ H σa σ) (x : ExtV ρ H ρ' H') : RS E ρ' H' σa σ :=
  ⟨h.len, fun i v e => let ⟨u, e2, r⟩ := h.at_ i v e; ⟨u, e2, r.extV x⟩⟩
theorem RV.ext (x : Ext ρ H ρ' H') {v : AV} {u : V} (h : RV E ρ H v u) : RV E ρ' H' v u := h.extV x.v
theorem RVs.ext (x : Ext ρ H ρ' H') {vs : List AV} {us : List V} (h : RVs E ρ H vs us) : RVs E ρ' H' vs us := h.extV x.v
theorem RX.ext (x : Ext ρ H ρ' H') {c : Nat} {r : Option Int} {d : Option Addr} (h : RX E H c r d) : RX E H' c r d := h.extV x.v
theorem RK.ext (x : Ext ρ H ρ' H') {l : List (AK × AV)} {m : List (Key × V)} (h : RK E ρ H l m) : RK E ρ' H' l m := RK.extV x.v h
theorem RT.ext (x : Ext ρ H ρ' H') {l : List (AK × AV)} {m : List (List Key × V)} (h : RT E ρ H l m) : RT E ρ' H' l m := RT.extV x.v h
theorem RF.ext (x : Ext ρ H ρ' H') {l : List (Nat × AV)} {m : List (Str × V)} (h : RF E ρ H l m) : RF E ρ' H' l m := RF.extV x.v h
theorem RS.ext {σa : ASt} {σ : St} (h : RS E ρ H σa σ) (x : Ext ρ H ρ' H') : RS E ρ' H' σa σ := h.extV x.v
theorem RS.set {σa : ASt} {σ : St} (h : RS E ρ H σa σ) (i : Nat) {x : AV} {v : V} (r : RV E ρ H x v) : RS E ρ H (σa.set i (some x)) (σ.set i (some v)) := by
  refine ⟨by rw [List.length_set, List.length_set]; exact h.len, fun j y e => ?_⟩
  by_cases hj : j = i
  · subst hj
    have hlt : j < σa.length := by
      have q := (List.getElem?_eq_some_iff.mp e).1
      rw [List.length_set] at q
      exact q
    rw [List.getElem?_set_self hlt] at e
    cases e
    exact ⟨v, by rw [List.getElem?_set_self (by rw [← h.len]; exact hlt)], r⟩
  · rw [List.getElem?_set_ne (Ne.symm hj)] at e
    obtain ⟨u, e2, q⟩ := h.at_ j y e
    exact ⟨u, by rw [List.getElem?_set_ne (Ne.symm hj)]; exact e2, q⟩
/-- forgetting locals -/
theorem RS.forget {σa : ASt} {σ : St} (h : RS E ρ H σa σ) (i : Nat) : RS E ρ H (σa.set i none) σ := by
  refine ⟨by rw [List.length_set]; exact h.len, fun j y e => ?_⟩
  by_cases hj : j = i
  · subst hj
    by_cases hlt : j < σa.length
    · rw [List.getElem?_set_self hlt] at e; cases e
    · rw [List.getElem?_eq_none (by rw [List.length_set]; omega)] at e; cases e
  · rw [List.getElem?_set_ne (Ne.symm hj)] at e
    exact h.at_ j y e
theorem RH.get {A : AHp} (h : RH E ρ H A) {n : Nat} {o : AO} (e : A[n]? = some o) : ∃ a, ρ[n]? = some a ∧ RO E ρ H o a := by
  have hlt : n < ρ.length := by rw [h.len]; exact (List.getElem?_eq_some_iff.mp e).1
  exact ⟨ρ[n], List.getElem?_eq_getElem hlt, h.at_ n o _ e (List.getElem?_eq_getElem hlt)⟩
theorem RO_some {o : AO} {a : Addr} (h : RO E ρ H o a) : ∃ u, H a = some u := by
  cases o with
  | lst xs ro =>
    obtain ⟨ys, _, q⟩ := h
    exact ⟨_, q⟩
  | dict kvs lk =>
    rcases h with ⟨kv', _, q⟩ | ⟨kv', _, q⟩ <;> cases lk
    · exact ⟨_, q⟩
    · obtain ⟨od, q, _⟩ := q; exact ⟨_, q⟩
    · exact ⟨_, q⟩
    · obtain ⟨od, q, _⟩ := q; exact ⟨_, q⟩
  | ins c fs =>
    obtain ⟨dx, fs', q, _⟩ := h
    exact ⟨_, q⟩
  | dn ks =>
    obtain ⟨xs, _, q, _⟩ := h
    exact ⟨_, q⟩
theorem RO_notFix {o : AO} {a : Addr} {u : HO} (hu : unl o = true) (h : RO E ρ H o a) (e : H a = some u) : fixd a u = false := by
  cases o with
  | lst xs ro =>
    obtain ⟨ys, _, q⟩ := h
    have q : H a = some (.lst ys) := q
    rw [e] at q; cases q; rfl
  | dict kvs lk =>
    rcases h with ⟨kv', _, q⟩ | ⟨kv', _, q⟩ <;> cases lk
    · have q : H a = some (.dK kv') := q
      rw [e] at q; cases q; rfl
    · cases hu
    · have q : H a = some (.dT kv') := q
      rw [e] at q; cases q; rfl
    · cases hu
  | ins c fs =>
    obtain ⟨dx, fs', q, _⟩ := h
    rw [e] at q; cases q; rfl
  | dn ks =>
    obtain ⟨xs, _, q, _, h1, h2, h3⟩ := h
    rw [e] at q; cases q; exact fix_dn h1 h2 h3
/-- an object stands as before where its address is not written and values go over -/
theorem RO_extV {o : AO} {a : Addr} (x : ExtV ρ H ρ' H') (k : H' a = H a) (h : RO E ρ H o a) : RO E ρ' H' o a := by
  cases o with
  | lst xs ro =>
    obtain ⟨ys, r, q⟩ := h
    refine ⟨ys, r.extV x, ?_⟩
    show H' a = some (.lst ys)
    rw [k]
    exact q
  | dict kvs lk =>
    rcases h with ⟨kv', r, q⟩ | ⟨kv', r, q⟩
    · refine .inl ⟨kv', r.extV x, ?_⟩
      unfold AtD at q ⊢
      rw [k]
      exact q
    · refine .inr ⟨kv', r.extV x, ?_⟩
      unfold AtD at q ⊢
      rw [k]
      exact q
  | ins c fs =>
    obtain ⟨dx, fs', q, r, z⟩ := h
    exact ⟨dx, fs', by rw [k]; exact q, r.extV x, z⟩
  | dn ks =>
    obtain ⟨xs, e, q, r, z⟩ := h
    refine ⟨xs, e, by rw [k]; exact q, fun y hy => ?_, z⟩
    have := r y hy
    unfold NAt at this ⊢
    split
    · rename_i e2; rw [e2] at this; exact this
    · rename_i e2
      rw [e2] at this
      obtain ⟨b, e3, e4⟩ := this
      exact ⟨b, e3, x.fx _ _ e4 rfl⟩
theorem RO_ext {o : AO} {a : Addr} (x : Ext ρ H ρ' H') (k : H' a = H a) (h : RO E ρ H o a) : RO E ρ' H' o a := RO_extV x.v k h
/-- a fixed or hidden thing more -/
theorem RH.keep {A : AHp} (h : RH E ρ H A) (k : ∀ a u, H a = some u → H' a = some u) : RH E ρ H' A ∧ Ext ρ H ρ H' := by
  have x : Ext ρ H ρ H' := ⟨fun _ _ e => e, fun a o e _ => k a o e⟩
  refine ⟨⟨h.len, h.nd, fun n o a e1 e2 => ?_⟩, x⟩
  have q := h.at_ n o a e1 e2
  obtain ⟨u, hu⟩ := (RO_some q)
  exact RO_ext x (by rw [hu]; exact k a u hu) q
/-- a new object -/
theorem RH.alloc {A : AHp} (h : RH E ρ H A) {p : Addr} (k : ∀ a u, H a = some u → H' a = some u) (hp : H p = none) {o : AO} (new : Ext ρ H (ρ ++ [p]) H' → RO E (ρ ++ [p]) H' o p) :
    RH E (ρ ++ [p]) H' (A ++ [o]) ∧ Ext ρ H (ρ ++ [p]) H' ∧ (ρ ++ [p])[A.length]? = some p := by
  have x : Ext ρ H (ρ ++ [p]) H' := ⟨fun n a e => by rw [List.getElem?_append_left (List.getElem?_eq_some_iff.mp e).1]; exact e, fun a o e _ => k a o e⟩
  have hlast : (ρ ++ [p])[A.length]? = some p := by rw [← h.len]; simp
  refine ⟨⟨by simp [h.len], ?_, fun n o' a e1 e2 => ?_⟩, x, hlast⟩
  · rw [List.nodup_append]
    refine ⟨h.nd, by simp, fun a ha b hb => ?_⟩
    have hb' : b = p := by simpa using hb
    subst hb'
    rintro rfl
    obtain ⟨n, hn, e⟩ := List.getElem_of_mem ha
    have hnA : n < A.length := by rw [← h.len]; exact hn
    obtain ⟨u, hu⟩ := RO_some (h.at_ n A[n] a (List.getElem?_eq_getElem hnA) (by rw [List.getElem?_eq_getElem hn, e]))
    rw [hp] at hu; cases hu
  · by_cases hn : n < A.length
    · rw [List.getElem?_append_left hn] at e1
      rw [List.getElem?_append_left (by rw [h.len]; exact hn)] at e2
      have q := h.at_ n o' a e1 e2
      obtain ⟨u, hu⟩ := (RO_some q)
      exact RO_ext x (by rw [hu]; exact k a u hu) q
    · have hn2 : n = A.length := by
        have z := (List.getElem?_eq_some_iff.mp e1).1
        rw [List.length_append, List.length_singleton] at z
        omega
      subst hn2
      rw [hlast] at e2
      cases e2
      rw [List.getElem?_append_right (Nat.le_refl _), Nat.sub_self] at e1
      cases e1
      exact new x
/-- an object is written -/
theorem RH.write {A : AHp} (h : RH E ρ H A) {n : Nat} {a : Addr} {o o' : AO} (e1 : A[n]? = some o) (e2 : ρ[n]? = some a) (k : ∀ b, b ≠ a → H' b = H b) (new : Ext ρ H ρ H' → RO E ρ H' o' a) (hu : unl o = true := by rfl) :
    RH E ρ H' (A.set n o') ∧ Ext ρ H ρ H' := by
  have ra := h.at_ n o a e1 e2
  have x : Ext ρ H ρ H' := ⟨fun _ _ e => e, fun b u e f => by
    by_cases hb : b = a
    · subst hb
      rw [RO_notFix hu ra e] at f; cases f
    · rw [k b hb]; exact e⟩
  refine ⟨⟨by rw [List.length_set]; exact h.len, h.nd, fun m u b q1 q2 => ?_⟩, x⟩
  by_cases hm : m = n
  · subst hm
    rw [e2] at q2; cases q2
    rw [List.getElem?_set_self (List.getElem?_eq_some_iff.mp e1).1] at q1
    cases q1
    exact new x
  · rw [List.getElem?_set_ne (Ne.symm hm)] at q1
    have hb : b ≠ a := fun z => by
      subst z
      exact hm (nodup_addr h.nd q2 e2)
    exact RO_ext x (k b hb) (h.at_ m u b q1 q2)
where
  nodup_addr {N : List Addr} (hN : N.Nodup) {i j : Nat} {x : Addr} (a : N[i]? = some x) (b : N[j]? = some x) : i = j := by
    obtain ⟨h1, e1⟩ := List.getElem?_eq_some_iff.mp a
    obtain ⟨h2, e2⟩ := List.getElem?_eq_some_iff.mp b
    exact (List.getElem_inj hN).mp (e1.trans e2.symm)

/-! ### what is wanted of a result -/
abbrev WH := Value → Option Addr → Hp → Prop
def Post {α β : Type} (E : En) (rel : List Addr → Hp → α → β → Prop) (r : Res α) (ρ : List Addr) (H : Hp) (Q : β → Hp → Prop) (W : WH) : Prop := match r with
  | .ok a A => ∀ ρ' H' b, Ext ρ H ρ' H' → RH E ρ' H' A → rel ρ' H' a b → Q b H'
  | .err c x A => ∀ ρ' H' d, Ext ρ H ρ' H' → RH E ρ' H' A → RX E H' c x d → W (.ref (E.cad c)) d H'
  | .bad => False
theorem Post.ext {α β : Type} {rel : List Addr → Hp → α → β → Prop} {r : Res α} {Q : β → Hp → Prop} {W : WH} (p : Post E rel r ρ H Q W) (x : Ext ρ H ρ' H') : Post E rel r ρ' H' Q W := by
  cases r with
  | ok a A => exact fun ρ2 H2 b y => p ρ2 H2 b (x.trans y)
  | err c i A => exact fun ρ2 H2 d y => p ρ2 H2 d (x.trans y)
  | bad => exact p
theorem Post.mono {α β : Type} {rel : List Addr → Hp → α → β → Prop} {r : Res α} {Q Q' : β → Hp → Prop} {W W' : WH} (p : Post E rel r ρ H Q W) (h : ∀ b H', Q b H' → Q' b H') (hw : ∀ c d H', W c d H' → W' c d H') : Post E rel r ρ H Q' W' := by
  cases r with
  | ok a A => exact fun ρ2 H2 b x y z => h _ _ (p ρ2 H2 b x y z)
  | err c i A => exact fun ρ2 H2 d x y z => hw _ _ _ (p ρ2 H2 d x y z)
  | bad => exact p
/-- the reading of a denotation; any kind of result -/
def rd {α β : Type} (E : En) (rel : List Addr → Hp → α → β → Prop) (f : Den α) (W : WX) : St → Hp → (β → Hp → Prop) → Prop := fun σ H Q =>
  ∃ ρ σa A, RS E ρ H σa σ ∧ RH E ρ H A ∧ Post E rel (f σa A) ρ H Q (fun c d H' => W c d σ H')
/-- what stands behind a first step -/
def At (E : En) {α β : Type} (rel : List Addr → Hp → α → β → Prop) (σ : St) (b : β) (H : Hp) (R : List Addr → ASt → AHp → α → Prop) : Prop := ∃ ρ σa A a, RS E ρ H σa σ ∧ RH E ρ H A ∧ rel ρ H a b ∧ R ρ σa A a
theorem rd_bind {α β γ δ : Type} {rel : List Addr → Hp → α → β → Prop} {rel' : List Addr → Hp → γ → δ → Prop} {f : Den α} {g : ASt → α → AHp → Res γ} {W : WX} {σ : St} {Q : δ → Hp → Prop}
    (h : rd E rel' (fun σa A => (f σa A).bind (g σa)) W σ H Q) :
    rd E rel f W σ H (fun b H1 => At E rel σ b H1 fun ρ σa A a => Post E rel' (g σa a A) ρ H1 Q (fun c d H' => W c d σ H')) := by
  obtain ⟨ρ, σa, A, hs, hh, p⟩ := h
  have p : Post E rel' ((f σa A).bind (g σa)) ρ H Q (fun c d H' => W c d σ H') := p
  refine ⟨ρ, σa, A, hs, hh, ?_⟩
  cases e : f σa A with
  | ok a A1 =>
    rw [e] at p
    intro ρ1 H1 b x rh r
    exact ⟨ρ1, σa, A1, a, hs.ext x, rh, r, p.ext x⟩
  | err c i A1 => rw [e] at p; exact p
  | bad => rw [e] at p; exact p
theorem rd_step {α β γ δ : Type} {rel : List Addr → Hp → α → β → Prop} {rel' : List Addr → Hp → γ → δ → Prop} {f : Den α} {g : ASt → α → AHp → Res γ} {W : WX} {σ : St} {Q : δ → Hp → Prop} {Q1 : β → Hp → Prop}
    (h : rd E rel' (fun σa A => (f σa A).bind (g σa)) W σ H Q)
    (k : ∀ (b : β) (H1 : Hp) (ρ : List Addr) (σa : ASt) (A : AHp) (a : α), RS E ρ H1 σa σ → RH E ρ H1 A → rel ρ H1 a b → Post E rel' (g σa a A) ρ H1 Q (fun c d H' => W c d σ H') → Q1 b H1) : rd E rel f W σ H Q1 := by
  obtain ⟨ρ, σa, A, hs, hh, p⟩ := h
  have p : Post E rel' ((f σa A).bind (g σa)) ρ H Q (fun c d H' => W c d σ H') := p
  refine ⟨ρ, σa, A, hs, hh, ?_⟩
  cases e : f σa A with
  | ok a A1 =>
    rw [e] at p
    intro ρ1 H1 b x rh r
    exact k b H1 ρ1 σa A1 a (hs.ext x) rh r (p.ext x)
  | err c i A1 => rw [e] at p; exact p
  | bad => rw [e] at p; exact p
theorem rd_mono {α β : Type} {rel : List Addr → Hp → α → β → Prop} {f : Den α} {W : WX} {σ : St} {Q Q' : β → Hp → Prop} (h : rd E rel f W σ H Q) (k : ∀ b H', Q b H' → Q' b H') : rd E rel f W σ H Q' := by
  obtain ⟨ρ, σa, A, hs, hh, p⟩ := h
  exact ⟨ρ, σa, A, hs, hh, p.mono k fun _ _ _ z => z⟩
/-- relations of results -/
def relB (_ : List Addr) (_ : Hp) (a b : Bool) : Prop := b = a
abbrev SE (E : En) (X : Cx) (W : WX) (e : Expr) (f : Den AV) : Prop := PE X e (rd E (RV E) f W)
abbrev STt (E : En) (X : Cx) (W : WX) (e : Expr) (f : Den Bool) : Prop := PT X e (rd E relB f W)
abbrev SW (E : En) (X : Cx) (W : WX) (e : Expr) (f : Den Bool) : Prop := PW X e (rd E relB f W)
abbrev SA (E : En) (X : Cx) (W : WX) (es : List Expr) (f : Den (List AV)) : Prop := PA X es (rd E (RVs E) f W)
theorem PE.imp {X : Cx} {e : Expr} {t t' : TE} (h : PE X e t) (k : ∀ σ H Q, t' σ H Q → t σ H Q) : PE X e t' := ⟨fun pins s σ H Q I q => h.run pins s σ H Q I (k σ H Q q)⟩
theorem PT.imp {X : Cx} {e : Expr} {t t' : TT} (h : PT X e t) (k : ∀ σ H Q, t' σ H Q → t σ H Q) : PT X e t' := ⟨fun pins s σ H Q I q => h.run pins s σ H Q I (k σ H Q q)⟩
theorem PW.imp {X : Cx} {e : Expr} {t t' : TT} (h : PW X e t) (k : ∀ σ H Q, t' σ H Q → t σ H Q) : PW X e t' := ⟨fun wh pins s σ H Q I q => h.run wh pins s σ H Q I (k σ H Q q)⟩
theorem PA.imp {X : Cx} {e : List Expr} {t t' : TA} (h : PA X e t) (k : ∀ σ H Q, t' σ H Q → t σ H Q) : PA X e t' := ⟨fun pos pins s σ H Q I q => h.run pos pins s σ H Q I (k σ H Q q)⟩

/-! ### statements -/
def PostS (E : En) (r : SR) (ρ : List Addr) (H : Hp) (D : Ends) (W : WX) : Prop := match r with
  | .nx σa A => ∀ ρ' H' σ', Ext ρ H ρ' H' → RH E ρ' H' A → RS E ρ' H' σa σ' → D.nx σ' H'
  | .rt v A => ∀ ρ' H' v', Ext ρ H ρ' H' → RH E ρ' H' A → RV E ρ' H' v v' → D.rt v' H'
  | .bk σa A => ∀ ρ' H' σ', Ext ρ H ρ' H' → RH E ρ' H' A → RS E ρ' H' σa σ' → D.bk σ' H'
  | .ct σa A => ∀ ρ' H' σ', Ext ρ H ρ' H' → RH E ρ' H' A → RS E ρ' H' σa σ' → D.ct σ' H'
  | .er σa c x A => ∀ ρ' H' σ' d, Ext ρ H ρ' H' → RH E ρ' H' A → RS E ρ' H' σa σ' → RX E H' c x d → W (.ref (E.cad c)) d σ' H'
  | .bad => False
theorem PostS.ext {r : SR} {D : Ends} {W : WX} (p : PostS E r ρ H D W) (x : Ext ρ H ρ' H') : PostS E r ρ' H' D W := by
  cases r with
  | nx σa A => exact fun ρ2 H2 b y => p ρ2 H2 b (x.trans y)
  | rt v A => exact fun ρ2 H2 b y => p ρ2 H2 b (x.trans y)
  | bk σa A => exact fun ρ2 H2 b y => p ρ2 H2 b (x.trans y)
  | ct σa A => exact fun ρ2 H2 b y => p ρ2 H2 b (x.trans y)
  | er σa c i A => exact fun ρ2 H2 b d y => p ρ2 H2 b d (x.trans y)
  | bad => exact p
def rdS (E : En) (f : SDen) (W : WX) : TS := fun D σ H => ∃ ρ σa A, RS E ρ H σa σ ∧ RH E ρ H A ∧ PostS E (f σa A) ρ H D W
abbrev SS (E : En) (X : Cx) (W : WX) (st : Stmt) (f : SDen) : Prop := PS X st (rdS E f W)
abbrev SSs (E : En) (X : Cx) (W : WX) (st : List Stmt) (f : SDen) : Prop := PSs X st (rdS E f W)
theorem PS.imp {X : Cx} {st : Stmt} {t t' : TS} (h : PS X st t) (k : ∀ D σ H, t' D σ H → t D σ H) : PS X st t' := ⟨fun pins s σ H D I q => h.run pins s σ H D I (k D σ H q)⟩
theorem PSs.imp {X : Cx} {st : List Stmt} {t t' : TS} (h : PSs X st t) (k : ∀ D σ H, t' D σ H → t D σ H) : PSs X st t' := ⟨fun pins s σ H D I q => h.run pins s σ H D I (k D σ H q)⟩
/-- an expression's result goes on into a statement -/
def Res.toS {α : Type} (σ : ASt) (r : Res α) (g : α → AHp → SR) : SR := match r with
  | .ok a A => g a A
  | .err c x A => .er σ c x A
  | .bad => .bad
@[simp] theorem Res.toS_ok {α : Type} (σ : ASt) (a : α) (A : AHp) (g : α → AHp → SR) : (Res.ok a A).toS σ g = g a A := (rfl)
@[simp] theorem Res.toS_err {α : Type} (σ : ASt) (c : Nat) (x : Option Int) (A : AHp) (g : α → AHp → SR) : (Res.err c x A : Res α).toS σ g = .er σ c x A := (rfl)
@[simp] theorem Res.toS_bad {α : Type} (σ : ASt) (g : α → AHp → SR) : (Res.bad : Res α).toS σ g = .bad := (rfl)
theorem rdS_bind {α β : Type} {rel : List Addr → Hp → α → β → Prop} {f : Den α} {g : ASt → α → AHp → SR} {W : WX} {σ : St} {D : Ends}
    (h : rdS E (fun σa A => (f σa A).toS σa (g σa)) W D σ H) :
    rd E rel f W σ H (fun b H1 => At E rel σ b H1 fun ρ σa A a => PostS E (g σa a A) ρ H1 D W) := by
  obtain ⟨ρ, σa, A, hs, hh, p⟩ := h
  have p : PostS E ((f σa A).toS σa (g σa)) ρ H D W := p
  refine ⟨ρ, σa, A, hs, hh, ?_⟩
  cases e : f σa A with
  | ok a A1 =>
    rw [e] at p
    intro ρ1 H1 b x rh r
    exact ⟨ρ1, σa, A1, a, hs.ext x, rh, r, PostS.ext p x⟩
  | err c i A1 =>
    rw [e] at p
    exact fun ρ' H' d x rh rx => p ρ' H' σ d x rh (hs.ext x) rx
  | bad => rw [e] at p; exact p
theorem rdS_step {α β : Type} {rel : List Addr → Hp → α → β → Prop} {f : Den α} {g : ASt → α → AHp → SR} {W : WX} {σ : St} {D : Ends} {Q1 : β → Hp → Prop}
    (h : rdS E (fun σa A => (f σa A).toS σa (g σa)) W D σ H)
    (k : ∀ (b : β) (H1 : Hp) (ρ : List Addr) (σa : ASt) (A : AHp) (a : α), RS E ρ H1 σa σ → RH E ρ H1 A → rel ρ H1 a b → PostS E (g σa a A) ρ H1 D W → Q1 b H1) : rd E rel f W σ H Q1 := by
  obtain ⟨ρ, σa, A, hs, hh, p⟩ := h
  have p : PostS E ((f σa A).toS σa (g σa)) ρ H D W := p
  refine ⟨ρ, σa, A, hs, hh, ?_⟩
  cases e : f σa A with
  | ok a A1 =>
    rw [e] at p
    intro ρ1 H1 b x rh r
    exact k b H1 ρ1 σa A1 a (hs.ext x) rh r (PostS.ext p x)
  | err c i A1 =>
    rw [e] at p
    exact fun ρ' H' d x rh rx => p ρ' H' σ d x rh (hs.ext x) rx
  | bad => rw [e] at p; exact p
end
end Ev
end
section
/-! Ev, second part: operators by values. -/
namespace Ev
open PySem PySem.Spec L2
set_option autoImplicit false

abbrev Op1 := AV → AHp → Option (AV × AHp)
abbrev Op2 := AV → AV → AHp → Option (AV × AHp)
def ofO (r : Option (AV × AHp)) : Res AV := match r with
  | some (v, A) => .ok v A
  | none => .bad
@[simp] theorem ofO_some (v : AV) (A : AHp) : ofO (some (v, A)) = .ok v A := (rfl)
@[simp] theorem ofO_none : ofO none = .bad := (rfl)
section
variable {E : En} {X : Cx} {W : WX}
def PostO (E : En) (r : Option (AV × AHp)) (ρ : List Addr) (H : Hp) (Q : VK) : Prop := match r with
  | some (v, A) => ∀ ρ' H' b, Ext ρ H ρ' H' → RH E ρ' H' A → RV E ρ' H' v b → Q b H'
  | none => False
theorem PostO.of_post {r : Option (AV × AHp)} {ρ : List Addr} {H : Hp} {Q : VK} {W : WH} (h : Post E (RV E) (ofO r) ρ H Q W) : PostO E r ρ H Q := by
  cases r with
  | none => exact h
  | some p => obtain ⟨v, A⟩ := p; exact h
/-- a pure answer -/
theorem PostO.pure {v : AV} {b : V} {A : AHp} {ρ : List Addr} {H : Hp} {Q : VK} (h : PostO E (some (v, A)) ρ H Q) (rh : RH E ρ H A) (r : RV E ρ H v b) : Q b H := h ρ H b (Ext.refl _ _) rh r
def r2 (E : En) (p : Op2) : R2 := fun x y H Q => ∃ ρ A a b, RH E ρ H A ∧ RV E ρ H a x ∧ RV E ρ H b y ∧ PostO E (p a b A) ρ H Q
def OpS (E : En) (X : Cx) (f : Value → Value → Sem Value) (p : Op2) : Prop := OpR X f (r2 E p)
def dBin (p : Op2) (fa fb : Den AV) : Den AV := fun σ A => (fa σ A).bind fun x A1 => (fb σ A1).bind fun y A2 => ofO (p x y A2)
theorem bin_rd {p : Op2} {fa fb : Den AV} {σ : St} {H : Hp} {Q : VK} (h : rd E (RV E) (dBin p fa fb) W σ H Q) : tOp (r2 E p) (rd E (RV E) fa W) (rd E (RV E) fb W) σ H Q := by
  refine rd_mono (rd_bind (f := fa) (g := fun σ x A1 => (fb σ A1).bind fun y A2 => ofO (p x y A2)) h) fun x' H1 ⟨ρ, σa, A, x, hs, hh, hx, q⟩ => ?_
  have h2 : rd E (RV E) (fun σ2 A1 => (fb σ2 A1).bind fun y A2 => ofO (p x y A2)) W σ H1 Q := ⟨ρ, σa, A, hs, hh, q⟩
  obtain ⟨ρ, σa, A, hs, hh, q⟩ : ∃ ρ σa A, RS E ρ H1 σa σ ∧ RH E ρ H1 A ∧ (RV E ρ H1 x x' ∧ Post E (RV E) ((fb σa A).bind fun y A2 => ofO (p x y A2)) ρ H1 Q fun c d H' => W c d σ H') := ⟨ρ, σa, A, hs, hh, hx, q⟩
  obtain ⟨hx, q⟩ := q
  refine ⟨ρ, σa, A, hs, hh, ?_⟩
  cases e : fb σa A with
  | ok y A2 =>
    rw [e] at q
    intro ρ2 H2 y' xt rh ry
    exact ⟨ρ2, A2, x, y, rh, hx.ext xt, ry, PostO.of_post (q.ext xt)⟩
  | err c i A2 => rw [e] at q; exact q
  | bad => rw [e] at q; exact q
theorem se_bin {op : Operator} {p : Op2} {a b : Expr} {fa fb : Den AV} {pos : Pos} (ho : OpS E X (binaryOp op) p) (ha : SE E X W a fa) (hb : SE E X W b fb) : SE E X W (.BinOp a op b pos) (dBin p fa fb) :=
  PE.imp (pe_op ho ha hb) fun _ _ _ h => bin_rd h
theorem se_cmp {op : CmpOp} {p : Op2} {a b : Expr} {fa fb : Den AV} {pos : Pos} (ho : OpS E X (compareOp op) p) (ha : SE E X W a fa) (hb : SE E X W b fb) (hm : behindInMarks op b = false) : SE E X W (.Compare a [op] [b] pos) (dBin p fa fb) :=
  PE.imp (pe_cmpR ho ha hb hm) fun _ _ _ h => bin_rd h
/-- an expression's truth where it is a bool -/
def asB (v : AV) (A : AHp) : Res Bool := match v with
  | .bl b => .ok b A
  | _ => .bad
@[simp] theorem asB_bl (b : Bool) (A : AHp) : asB (.bl b) A = .ok b A := (rfl)
def dTB (f : Den AV) : Den Bool := fun σ A => (f σ A).bind asB
theorem tb_rd {f : Den AV} {σ : St} {H : Hp} {Q : Bool → Hp → Prop} (h : rd E relB (dTB f) W σ H Q) : rd E (RV E) f W σ H fun x H' => ∃ k, x = .bl k ∧ Q k H' := by
  refine rd_mono (rd_bind (f := f) (g := fun _ => asB) h) fun x' H1 ⟨ρ, σa, A, x, hs, hh, hx, q⟩ => ?_
  cases x with
  | bl b => exact ⟨b, hx, q ρ H1 b (Ext.refl _ _) hh rfl⟩
  | _ => exact q.elim
theorem st_cmp {op : CmpOp} {p : Op2} {a b : Expr} {fa fb : Den AV} {pos : Pos} (ho : OpS E X (compareOp op) p) (ha : SE E X W a fa) (hb : SE E X W b fb) (hm : behindInMarks op b = false) : STt E X W (.Compare a [op] [b] pos) (dTB (dBin p fa fb)) := by
  refine PT.imp (pt_cmpR ho ha hb hm) fun σ H Q h => ?_
  exact bin_rd_T (tb_rd h)
where
  bin_rd_T {p : Op2} {fa fb : Den AV} {σ : St} {H : Hp} {Q : VK} (h : rd E (RV E) (dBin p fa fb) W σ H Q) : tOp (r2 E p) (rd E (RV E) fa W) (rd E (RV E) fb W) σ H Q := bin_rd h

/-! ### names, constants -/
def dVar (i : Nat) : Den AV := fun σ A => match σ[i]? with
  | some (some v) => .ok v A
  | _ => .bad
theorem se_var {i : Nat} {x : Str} {pos : Pos} (hN : X.N[i]? = some x) (hv : Vis X.env.scope x) (hd : (x == ("__debug__" : Str)) = false) (hcd : (x == ("__classdict__" : Str)) = false) : SE E X W (.Name x pos) (dVar i) := by
  refine PE.imp (pe_var hN hv hd hcd) fun σ H Q ⟨ρ, σa, A, hs, hh, q⟩ => ?_
  unfold dVar at q
  cases e : σa[i]? with
  | none => rw [e] at q; exact q.elim
  | some o =>
    rw [e] at q
    cases o with
    | none => exact q.elim
    | some v =>
      obtain ⟨v', e', r⟩ := hs.at_ i v e
      exact ⟨v', e', q ρ H v' (Ext.refl _ _) hh r⟩
def dC (v : AV) : Den AV := fun _ A => .ok v A
theorem c_rd {v : AV} {v' : V} {σ : St} {H : Hp} {Q : VK} (h : rd E (RV E) (dC v) W σ H Q) (r : ∀ ρ, RV E ρ H v v') : tC v' σ H Q := by
  obtain ⟨ρ, σa, A, hs, hh, q⟩ := h
  exact q ρ H v' (Ext.refl _ _) hh (r ρ)
theorem se_int {i : Int} {j : Nat} {pos : Pos} : SE E X W (.Constant (.int i) j pos) (dC (.int i)) := PE.imp pe_int fun _ _ _ h => c_rd h fun _ => rfl
theorem se_bl {b : Bool} {j : Nat} {pos : Pos} : SE E X W (.Constant (.bool b) j pos) (dC (.bl b)) := PE.imp pe_bl fun _ _ _ h => c_rd h fun _ => rfl
theorem se_non {j : Nat} {pos : Pos} : SE E X W (.Constant .none j pos) (dC .non) := PE.imp pe_non fun _ _ _ h => c_rd h fun _ => rfl
theorem se_str {x : Str} {j : Nat} {pos : Pos} : SE E X W (.Constant (.str x) j pos) (dC (.str x)) := PE.imp pe_str fun _ _ _ h => c_rd h fun _ => rfl
/-- a module's constant -/
theorem se_glob {x : Str} {v : AV} {v' : V} {u : Value} {pos : Pos} (hg : Gl X x) (hm : X.mg x = some u) (r : RelV v' u) (rv : ∀ ρ H, RV E ρ H v v') (hd : (x == ("__debug__" : Str)) = false) : SE E X W (.Name x pos) (dC v) :=
  PE.imp (pe_glob hg hm r hd) fun _ _ _ h => c_rd h fun ρ => rv ρ _

/-! ### operators -/
/-- objects by their number -/
def lstAt (A : AHp) (n : Nat) : Option (List AV) := match A[n]? with
  | some (.lst xs _) => some xs
  | _ => none
def pAdd : Op2 := fun a b A => match a, b with
  | .int i, .int j => some (.int (i + j), A)
  | .str x, .str y => if x.length + y.length ≤ sizeLine then some (.str (x ++ y), A) else none
  | .tup xs, .tup ys => if xs.length + ys.length ≤ sizeLine then some (.tup (xs ++ ys), A) else none
  | .ref n, .ref m => (match A[n]?, A[m]? with
    | some (.lst xs false), some (.lst ys false) => if xs.length + ys.length ≤ sizeLine then some (.ref A.length, A ++ [.lst (xs ++ ys) false]) else none
    | _, _ => none)
  | _, _ => none
theorem RVs.length {ρ : List Addr} {H : Hp} : ∀ {xs : List AV} {ys : List V}, RVs E ρ H xs ys → ys.length = xs.length
  | [], _, h => by cases h; rfl
  | x :: xs, _, h => by
    obtain ⟨y, ys, rfl, _, r⟩ := h
    rw [List.length_cons, List.length_cons, r.length]
theorem RVs.append {ρ : List Addr} {H : Hp} : ∀ {xs xs' : List AV} {ys ys' : List V}, RVs E ρ H xs ys → RVs E ρ H xs' ys' → RVs E ρ H (xs ++ xs') (ys ++ ys')
  | [], _, _, _, h, h' => by cases h; exact h'
  | x :: xs, _, _, _, h, h' => by
    obtain ⟨y, ys, rfl, a, r⟩ := h
    exact ⟨y, ys ++ _, rfl, a, r.append h'⟩
theorem RVs.get {ρ : List Addr} {H : Hp} : ∀ {xs : List AV} {ys : List V} {i : Nat} {x : AV}, RVs E ρ H xs ys → xs[i]? = some x → ∃ y, ys[i]? = some y ∧ RV E ρ H x y
  | [], _, _, _, _, e => by simp at e
  | a :: xs, _, 0, x, h, e => by
    obtain ⟨y, ys, rfl, r, _⟩ := h
    simp at e
    subst e
    exact ⟨y, rfl, r⟩
  | a :: xs, _, i + 1, x, h, e => by
    obtain ⟨y, ys, rfl, _, r⟩ := h
    obtain ⟨z, e2, q⟩ := r.get (i := i) (x := x) (by simpa using e)
    exact ⟨z, by simpa using e2, q⟩
theorem RVs.take {ρ : List Addr} {H : Hp} : ∀ {xs : List AV} {ys : List V} (n : Nat), RVs E ρ H xs ys → RVs E ρ H (xs.take n) (ys.take n)
  | _, _, 0, _ => by simp [RVs]
  | [], _, n + 1, h => by cases h; simp [RVs]
  | x :: xs, _, n + 1, h => by
    obtain ⟨y, ys, rfl, a, r⟩ := h
    exact ⟨y, ys.take n, rfl, a, r.take n⟩
theorem RVs.drop {ρ : List Addr} {H : Hp} : ∀ {xs : List AV} {ys : List V} (n : Nat), RVs E ρ H xs ys → RVs E ρ H (xs.drop n) (ys.drop n)
  | _, _, 0, h => by simpa using h
  | [], _, n + 1, h => by cases h; simp [RVs]
  | x :: xs, _, n + 1, h => by
    obtain ⟨y, ys, rfl, a, r⟩ := h
    simpa using r.drop n
theorem RVs.set {ρ : List Addr} {H : Hp} {x : AV} {y : V} (r : RV E ρ H x y) : ∀ {xs : List AV} {ys : List V} (n : Nat), RVs E ρ H xs ys → RVs E ρ H (xs.set n x) (ys.set n y)
  | [], _, n, h => by cases h; simp [RVs]
  | _ :: xs, _, 0, h => by
    obtain ⟨y, ys, rfl, a, q⟩ := h
    exact ⟨_, ys, rfl, r, q⟩
  | _ :: xs, _, n + 1, h => by
    obtain ⟨y, ys, rfl, a, q⟩ := h
    exact ⟨y, ys.set n _, rfl, a, RVs.set r n q⟩
theorem RVs.nil_iff {ρ : List Addr} {H : Hp} {xs : List AV} {ys : List V} (h : RVs E ρ H xs ys) : ys = [] ↔ xs = [] := by
  rw [← List.length_eq_zero_iff, ← List.length_eq_zero_iff, h.length]
theorem RH.lst {ρ : List Addr} {H : Hp} {A : AHp} (h : RH E ρ H A) {n : Nat} {xs : List AV} {ro : Bool} (e : A[n]? = some (.lst xs ro)) : ∃ a ys, ρ[n]? = some a ∧ RVs E ρ H xs ys ∧ Rd H a (.lst ys) ∧ (ro = false → H a = some (.lst ys)) := by
  obtain ⟨a, ea, ys, r, q⟩ := h.get e
  exact ⟨a, ys, ea, r, .inl q, fun _ => q⟩
theorem RVref {ρ : List Addr} {H : Hp} {n : Nat} {v : V} {a : Addr} (h : RV E ρ H (.ref n) v) (e : ρ[n]? = some a) : v = .ref a := by
  obtain ⟨b, e', q⟩ := h
  rw [e] at e'
  cases e'
  exact q
/-- a new list -/
theorem newLst {ρ : List Addr} {H : Hp} {A : AHp} (h : RH E ρ H A) {p : Addr} (hp : H p = none) {xs : List AV} {ys : List V} (r : RVs E ρ H xs ys) :
    RH E (ρ ++ [p]) (upd H p (.lst ys)) (A ++ [.lst xs false]) ∧ Ext ρ H (ρ ++ [p]) (upd H p (.lst ys)) ∧ RV E (ρ ++ [p]) (upd H p (.lst ys)) (.ref A.length) (.ref p) := by
  obtain ⟨a, b, c⟩ := h.alloc (H' := upd H p (.lst ys)) (o := .lst xs false) (fun a u e => by rw [upd_ne (ne_of_none e hp)]; exact e) hp fun x => ⟨ys, r.ext x, upd_same⟩
  exact ⟨a, b, p, c, rfl⟩
/-- a new tuple -/
theorem newTup {ρ : List Addr} {H : Hp} {A : AHp} (h : RH E ρ H A) {p : Addr} (hp : H p = none) {xs : List AV} {ys : List V} (r : RVs E ρ H xs ys) :
    RH E ρ (upd H p (.tup ys)) A ∧ Ext ρ H ρ (upd H p (.tup ys)) ∧ RV E ρ (upd H p (.tup ys)) (.tup xs) (.ref p) := by
  obtain ⟨a, b⟩ := h.keep (H' := upd H p (.tup ys)) (fun a u e => by rw [upd_ne (ne_of_none e hp)]; exact e)
  exact ⟨a, b, p, ys, rfl, upd_same, r.ext b⟩
theorem os_add (hK : X.K = E.K) : OpS E X (binaryOp .Add) pAdd := by
  intro pins s σ H x y v u Q I rx ry h
  obtain ⟨ρ, A, a, b, hh, ha, hb, q⟩ := h
  unfold pAdd at q
  cases a with
  | int i => cases b with
    | int j =>
      cases ha; cases hb
      exact op_add pins s σ H _ _ v u Q I rx ry ⟨i, j, rfl, rfl, q.pure hh rfl⟩
    | _ => exact q.elim
  | str x1 => cases b with
    | str y1 =>
      cases ha; cases hb
      dsimp only at q
      split at q
      · rename_i hz
        exact op_add_str pins s σ H _ _ v u Q I rx ry ⟨x1, y1, rfl, rfl, hz, q.pure hh rfl⟩
      · exact q.elim
    | _ => exact q.elim
  | tup xs => cases b with
    | tup ys =>
      dsimp only at q
      split at q
      · rename_i hz
        obtain ⟨a1, us, rfl, s1, r1⟩ := ha
        obtain ⟨a2, ws, rfl, s2, r2'⟩ := hb
        refine op_catA pins s σ H _ _ v u Q I rx ry ⟨a1, a2, us, ws, rfl, rfl, (.inl (.inl s1)), (.inl (.inl s2)), by rw [r1.length, r2'.length]; exact hz, fun e => ?_, fun e0 e => ?_, fun e0 e p hp => ?_⟩
        · have e' := r1.nil_iff.mp e
          subst e'
          exact q.pure hh ⟨a2, ws, rfl, s2, r2'⟩
        · have e' := r2'.nil_iff.mp e
          subst e'
          rw [List.append_nil] at q
          exact q.pure hh ⟨a1, us, rfl, s1, r1⟩
        · obtain ⟨z1, z2, z3⟩ := newTup hh hp (r1.append r2')
          exact q ρ _ _ z2 z1 z3
      · exact q.elim
    | _ => exact q.elim
  | ref n => cases b with
    | ref m =>
      dsimp only at q
      cases e1 : A[n]? with
      | none => rw [e1] at q; exact q.elim
      | some o1 => cases o1 with
        | lst xs ro => cases ro with
          | false =>
            cases e2 : A[m]? with
            | none => rw [e1, e2] at q; exact q.elim
            | some o2 => cases o2 with
              | lst ys ro2 => cases ro2 with
                | false =>
                  rw [e1, e2] at q
                  dsimp only at q
                  split at q
                  · rename_i hz
                    obtain ⟨a1, us, p1, r1, _, w1⟩ := hh.lst e1
                    obtain ⟨a2, ws, p2, r2', _, w2⟩ := hh.lst e2
                    have ex := RVref ha p1
                    have ey := RVref hb p2
                    subst ex ey
                    refine op_cat pins s σ H _ _ v u Q I rx ry ⟨a1, a2, us, ws, rfl, rfl, w1 rfl, w2 rfl, by rw [r1.length, r2'.length]; exact hz, fun p hp => ?_⟩
                    obtain ⟨z1, z2, z3⟩ := newLst hh hp (r1.append r2')
                    exact q _ _ _ z2 z1 z3
                  · exact q.elim
                | true => rw [e1, e2] at q; exact q.elim
              | _ => rw [e1, e2] at q; exact q.elim
          | true => rw [e1] at q; exact q.elim
        | _ => rw [e1] at q; exact q.elim
    | _ => exact q.elim
  | _ => exact q.elim
end
end Ev
end
section
/-! Ev, third part: more operators. -/
namespace Ev
open PySem PySem.Spec L2
set_option autoImplicit false
section
variable {E : En} {X : Cx} {W : WX}
/-- an operator of two ints -/
theorem os_int {f : Value → Value → Sem Value} {p : Op2} (g : Int → Int → Option AV) (hp : ∀ a b A, p a b A = (match a, b with
    | .int i, .int j => (g i j).map fun v => (v, A)
    | _, _ => none))
    (h : ∀ i j v, g i j = some v → ∃ v', (∀ ρ H, RV E ρ H v v') ∧ ∀ (pins : List (Addr × Obj)) (s : Shared) (σ : St) (H : Hp) (a b : Value) (Q : VK), Inv X pins σ H s → RelV (.int i) a → RelV (.int j) b → Q v' H → wpAny (model X.prog X.w) X.A (f a b) (EP X pins σ Q) X.xe s) : OpS E X f p := by
  intro pins s σ H x y v u Q I rx ry hh
  obtain ⟨ρ, A, a, b, hh, ha, hb, q⟩ := hh
  rw [hp] at q
  cases a with
  | int i => cases b with
    | int j =>
      cases ha; cases hb
      dsimp only at q
      cases e : g i j with
      | none => rw [e] at q; exact q.elim
      | some w =>
        rw [e] at q
        obtain ⟨v', r, k⟩ := h i j w e
        exact k pins s σ H v u Q I rx ry (q.pure hh (r ρ H))
    | _ => exact q.elim
  | _ => exact q.elim
def pSub : Op2 := fun a b A => match a, b with
  | .int i, .int j => some (.int (i - j), A)
  | _, _ => none
theorem os_sub : OpS E X (binaryOp .Sub) pSub := os_int (g := fun i j => some (.int (i - j))) (fun a b A => by cases a <;> first | rfl | (cases b <;> rfl)) fun i j v e => by
  cases e
  exact ⟨.int (i - j), fun _ _ => rfl, fun pins s σ H a b Q I ra rb q => op_sub pins s σ H _ _ a b Q I ra rb ⟨i, j, rfl, rfl, q⟩⟩
def small64 (i : Int) : Bool := decide (-(2 ^ 64) < i) && decide (i < 2 ^ 64)
theorem small64_iff {i : Int} : small64 i = true ↔ -(2 ^ 64) < i ∧ i < 2 ^ 64 := by
  unfold small64
  rw [Bool.and_eq_true, decide_eq_true_eq, decide_eq_true_eq]
/-- *: ints (one of them below 2^64), a text or a list some times -/
def pMul : Op2 := fun a b A => match a, b with
  | .int i, .int j => if small64 i || small64 j then some (.int (i * j), A) else none
  | .str x, .int n => if x.length = 1 ∧ n ≤ 1000000 ∧ -1000000 ≤ n then some (.str ⟨(List.replicate n.toNat x.cps.toList).flatten.toArray⟩, A) else none
  | .ref l, .int n => (match A[l]? with
    | some (.lst xs false) => if -(2 ^ 63) ≤ n ∧ n < 2 ^ 63 ∧ xs.length * n.toNat ≤ sizeLine then some (.ref A.length, A ++ [.lst (List.replicate n.toNat xs).flatten false]) else none
    | _ => none)
  | _, _ => none
theorem RVs.rep {ρ : List Addr} {H : Hp} {xs : List AV} {ys : List V} (h : RVs E ρ H xs ys) : ∀ n : Nat, RVs E ρ H (List.replicate n xs).flatten (List.replicate n ys).flatten
  | 0 => by simp [RVs]
  | n + 1 => by
    rw [List.replicate_succ, List.replicate_succ, List.flatten_cons, List.flatten_cons]
    exact h.append (h.rep n)
theorem os_mul : OpS E X (binaryOp .Mult) pMul := by
  intro pins s σ H x y v u Q I rx ry h
  obtain ⟨ρ, A, a, b, hh, ha, hb, q⟩ := h
  unfold pMul at q
  cases a with
  | int i => cases b with
    | int j =>
      cases ha; cases hb
      dsimp only at q
      split at q
      · rename_i hz
        refine op_mul pins s σ H _ _ v u Q I rx ry ⟨i, j, rfl, rfl, ?_, q.pure hh rfl⟩
        rcases Bool.or_eq_true_iff.mp hz with z | z
        · exact .inl (small64_iff.mp z)
        · exact .inr (small64_iff.mp z)
      · exact q.elim
    | _ => exact q.elim
  | str z => cases b with
    | int n =>
      cases ha; cases hb
      dsimp only at q
      split at q
      · rename_i hz
        obtain ⟨t, rfl⟩ := rx
        obtain ⟨t', rfl⟩ := ry
        have q' := q.pure (b := .str ⟨(List.replicate n.toNat z.cps.toList).flatten.toArray⟩) hh rfl
        exact mul_str1 I hz.1 hz.2.1 hz.2.2 q'
      · exact q.elim
    | _ => exact q.elim
  | ref l => cases b with
    | int n =>
      cases hb
      dsimp only at q
      cases e1 : A[l]? with
      | none => rw [e1] at q; exact q.elim
      | some o1 => cases o1 with
        | lst xs ro => cases ro with
          | false =>
            rw [e1] at q
            dsimp only at q
            split at q
            · rename_i hz
              obtain ⟨a1, us, p1, r1, _, w1⟩ := hh.lst e1
              have ex := RVref ha p1
              subst ex
              refine op_rep pins s σ H _ _ v u Q I rx ry ⟨a1, n, us, rfl, rfl, w1 rfl, hz.1, hz.2.1, by rw [r1.length]; exact hz.2.2, fun p hp => ?_⟩
              obtain ⟨z1, z2, z3⟩ := newLst hh hp (r1.rep n.toNat)
              exact q _ _ _ z2 z1 z3
            · exact q.elim
          | true => rw [e1] at q; exact q.elim
        | _ => rw [e1] at q; exact q.elim
    | _ => exact q.elim
  | _ => exact q.elim
where
  mul_str1 {pins : List (Addr × Obj)} {σ : St} {H : Hp} {s : Shared} {Q : VK} {z : Str} {n : Int} {t t' : Tok} (I : Inv X pins σ H s) (h1 : z.length = 1) (h2 : n ≤ 1000000) (h3 : -1000000 ≤ n) (q : Q (.str ⟨(List.replicate n.toNat z.cps.toList).flatten.toArray⟩) H) :
      wpAny (model X.prog X.w) X.A (binaryOp .Mult (.str z t) (.int n t')) (EP X pins σ Q) X.xe s := by
    have e0 : (decide (n < -(2 ^ 63 : Int)) || decide (n ≥ 2 ^ 63)) = false := by
      rw [Bool.or_eq_false_iff, decide_eq_false_iff_not, decide_eq_false_iff_not]
      omega
    refine PySem.SB.mul (x := z) (n := n) ⟨e0, fun hn _ => ?_, fun hn _ => ?_⟩ fun t2 k => ⟨.str (Txt.mul z n), H, I.tok _, ⟨_, rfl⟩, ?_⟩
    · rw [h1]
      have : (1 : Int) ≤ (2 ^ 63 - 1) / n := by
        rw [Int.le_ediv_iff_mul_le (by omega)]
        omega
      omega
    · rw [h1, Nat.one_mul]
      have : n.toNat ≤ 1000000 := by omega
      show decide (n.toNat > sizeLine) = false
      rw [decide_eq_false_iff_not, sizeLine_eq]
      omega
    · have e : Txt.mul z n = ⟨(List.replicate n.toNat z.cps.toList).flatten.toArray⟩ := by
        unfold Txt.mul
        split
        · rename_i hn
          have : n.toNat = 0 := by omega
          rw [this]
          rfl
        · split
          · rename_i hn h4
            have h5 : n = 1 := by
              rw [h1] at h4
              simpa using h4
            subst h5
            simp
          · congr 1
            have key : ∀ (m : Nat) (acc : Array Nat), (List.replicate m z.cps).foldl (· ++ ·) acc = acc ++ (List.replicate m z.cps.toList).flatten.toArray := by
              intro m
              induction m with
              | zero => intro acc; simp
              | succ m ih =>
                intro acc
                rw [List.replicate_succ, List.foldl_cons, ih, List.replicate_succ, List.flatten_cons]
                apply Array.ext'
                simp
            rw [key]
            simp
      rw [e]
      exact q
def pMod : Op2 := fun a b A => match a, b with
  | .int i, .int j => if j = 0 then none else some (.int (i.fmod j), A)
  | _, _ => none
theorem os_mod : OpS E X (binaryOp .Mod) pMod := os_int (g := fun i j => if j = 0 then none else some (.int (i.fmod j))) (fun a b A => by cases a <;> first | rfl | (cases b <;> first | rfl | (unfold pMod; dsimp only; split <;> rfl))) fun i j v e => by
  try dsimp only at e
  split at e
  · cases e
  · rename_i hj
    cases e
    exact ⟨.int (i.fmod j), fun _ _ => rfl, fun pins s σ H a b Q I ra rb q => op_modN pins s σ H _ _ a b Q I ra rb ⟨i, j, rfl, rfl, hj, q⟩⟩
def pFdiv : Op2 := fun a b A => match a, b with
  | .int i, .int j => if j ≠ 0 ∧ j.natAbs < 1073741824 then some (.int (i.fdiv j), A) else none
  | _, _ => none
theorem os_fdiv : OpS E X (binaryOp .FloorDiv) pFdiv := os_int (g := fun i j => if j ≠ 0 ∧ j.natAbs < 1073741824 then some (.int (i.fdiv j)) else none) (fun a b A => by cases a <;> first | rfl | (cases b <;> first | rfl | (unfold pFdiv; dsimp only; split <;> rfl))) fun i j v e => by
  try dsimp only at e
  split at e
  · rename_i hj
    cases e
    exact ⟨.int (i.fdiv j), fun _ _ => rfl, fun pins s σ H a b Q I ra rb q => op_fdivN pins s σ H _ _ a b Q I ra rb ⟨i, j, rfl, rfl, hj, q⟩⟩
  · cases e
def pPow : Op2 := fun a b A => match a, b with
  | .int i, .int j => if 0 ≤ j ∧ j ≤ 1000000 ∧ i.natAbs < 2 ^ 64 then some (.int (i ^ j.toNat), A) else none
  | _, _ => none
theorem os_pow : OpS E X (binaryOp .Pow) pPow := os_int (g := fun i j => if 0 ≤ j ∧ j ≤ 1000000 ∧ i.natAbs < 2 ^ 64 then some (.int (i ^ j.toNat)) else none) (fun a b A => by cases a <;> first | rfl | (cases b <;> first | rfl | (unfold pPow; dsimp only; split <;> rfl))) fun i j v e => by
  try dsimp only at e
  split at e
  · rename_i hj
    cases e
    exact ⟨.int (i ^ j.toNat), fun _ _ => rfl, fun pins s σ H a b Q I ra rb q => op_pow pins s σ H _ _ a b Q I ra rb ⟨i, j, rfl, rfl, hj, q⟩⟩
  · cases e

/-! ### order -/
def ltS (x y : Str) : Bool := decide (x.cps.toList < y.cps.toList)
def ordB (fi : Int → Int → Bool) (fs : Str → Str → Bool) : Op2 := fun a b A => match a, b with
  | .int i, .int j => some (.bl (fi i j), A)
  | .str x, .str y => some (.bl (fs x y), A)
  | _, _ => none
theorem os_ord {f : Value → Value → Sem Value} {fi : Int → Int → Bool} {fs : Str → Str → Bool} (h1 : OpR X f (rI0 fun i j => .bl (fi i j))) (h2 : OpR X f (fun x y H Q => ∃ i j, x = .str i ∧ y = .str j ∧ Q (.bl (fs i j)) H)) : OpS E X f (ordB fi fs) := by
  intro pins s σ H x y v u Q I rx ry h
  obtain ⟨ρ, A, a, b, hh, ha, hb, q⟩ := h
  unfold ordB at q
  cases a with
  | int i => cases b with
    | int j =>
      cases ha; cases hb
      exact h1 pins s σ H _ _ v u Q I rx ry ⟨i, j, rfl, rfl, q.pure hh rfl⟩
    | _ => exact q.elim
  | str i => cases b with
    | str j =>
      cases ha; cases hb
      exact h2 pins s σ H _ _ v u Q I rx ry ⟨i, j, rfl, rfl, q.pure hh rfl⟩
    | _ => exact q.elim
  | _ => exact q.elim
def pLt : Op2 := ordB (fun i j => decide (i < j)) ltS
def pLe : Op2 := ordB (fun i j => decide (i ≤ j)) fun x y => !ltS y x
def pGt : Op2 := ordB (fun i j => decide (j < i)) fun x y => ltS y x
def pGe : Op2 := ordB (fun i j => decide (j ≤ i)) fun x y => !ltS x y
theorem os_lt : OpS E X (compareOp .Lt) pLt := os_ord op_lt op_lt_str
theorem os_le : OpS E X (compareOp .LtE) pLe := os_ord op_le op_le_str
theorem os_gt : OpS E X (compareOp .Gt) pGt := os_ord op_gt op_gt_str
theorem os_ge : OpS E X (compareOp .GtE) pGe := os_ord op_ge op_ge_str

/-! ### equality -/
def scalA : AV → AV → Bool
  | .non, .non => true
  | .non, .int _ => true
  | .int _, .non => true
  | .non, .bl _ => true
  | .bl _, .non => true
  | .non, .str _ => true
  | .str _, .non => true
  | .int _, .int _ => true
  | .bl _, .bl _ => true
  | .str _, .str _ => true
  | .int _, .str _ => true
  | .str _, .int _ => true
  | .bl _, .str _ => true
  | .str _, .bl _ => true
  | _, _ => false
def flatEq : AV → AV → Bool
  | .non, .non => true
  | .bl a, .bl b => decide (a = b)
  | .int i, .int j => decide (i = j)
  | .str x, .str y => decide (x = y)
  | _, _ => false
def mapO {α β : Type} (f : α → Option β) : List α → Option (List β)
  | [] => some []
  | x :: xs => match f x, mapO f xs with
    | some d, some ds => some (d :: ds)
    | _, _ => none
def toD : Nat → AHp → AV → Option PyData
  | 0, _, _ => none
  | k + 1, A, v => match v with
    | .non => some .none
    | .bl b => some (.bool b)
    | .int i => some (.int i)
    | .str x => some (.str x)
    | .tup xs => (mapO (toD k A) xs).map .tuple
    | .ref n => (match A[n]? with
      | some (.lst xs _) => (mapO (toD k A) xs).map .list
      | _ => none)
    | _ => none
abbrev toDs (k : Nat) (A : AHp) : List AV → Option (List PyData) := mapO (toD k A)
theorem toDs_ok (hK : X.K = E.K) {ρ : List Addr} {H : Hp} {A : AHp} {k : Nat} (ih : ∀ (v : AV) (v' : V) (d : PyData), toD k A v = some d → RV E ρ H v v' → Dp X.K H v' d) :
    ∀ (vs : List AV) (vs' : List V) (ds : List PyData), toDs k A vs = some ds → RVs E ρ H vs vs' → DpAll X.K H vs' ds
  | [], _, ds, e, r => by cases r; cases e; exact .nil
  | x :: xs, _, ds, e, r => by
    obtain ⟨y, ys, rfl, r1, r2⟩ := r
    unfold toDs mapO at e
    cases e1 : toD k A x with
    | none => rw [e1] at e; cases e
    | some d =>
      cases e2 : mapO (toD k A) xs with
      | none => rw [e1, e2] at e; cases e
      | some ds' =>
        rw [e1, e2] at e
        cases e
        exact .cons (ih x y d e1 r1) (toDs_ok hK ih xs ys ds' e2 r2)
theorem toD_ok1 (hK : X.K = E.K) {ρ : List Addr} {H : Hp} {A : AHp} (hh : RH E ρ H A) : ∀ (k : Nat) (v : AV) (v' : V) (d : PyData), toD k A v = some d → RV E ρ H v v' → Dp X.K H v' d
  | 0, v, v', d, e, r => by cases e
  | k + 1, v, v', d, e, r => by
    have ih2 := toDs_ok hK (toD_ok1 hK hh k)
    unfold toD at e
    cases v with
    | non => cases r; cases e; exact .non
    | bl b => cases r; cases e; exact .bl b
    | int i => cases r; cases e; exact .int i
    | str x => cases r; cases e; exact .str x
    | tup xs =>
      obtain ⟨a, ys, rfl, s, r⟩ := r
      obtain ⟨ds, e1, rfl⟩ := Option.map_eq_some_iff.mp e
      exact .tup (.inl (.inl s)) (ih2 xs ys ds e1 r)
    | ref n =>
      obtain ⟨a, ea, rfl⟩ := r
      dsimp only at e
      cases e1 : A[n]? with
      | none => rw [e1] at e; cases e
      | some o => cases o with
        | lst xs ro =>
          rw [e1] at e
          obtain ⟨ds, e2, rfl⟩ := Option.map_eq_some_iff.mp e
          obtain ⟨a', ys, ea', r, rd', _⟩ := hh.lst e1
          rw [ea] at ea'; cases ea'
          exact .lst (.inl rd') (ih2 xs ys ds e2 r)
        | _ => rw [e1] at e; cases e
    | _ => cases e
theorem toD_ok (hK : X.K = E.K) {ρ : List Addr} {H : Hp} {A : AHp} (hh : RH E ρ H A) (k : Nat) :
    (∀ (v : AV) (v' : V) (d : PyData), toD k A v = some d → RV E ρ H v v' → Dp X.K H v' d) ∧ ∀ (vs : List AV) (vs' : List V) (ds : List PyData), toDs k A vs = some ds → RVs E ρ H vs vs' → DpAll X.K H vs' ds :=
  ⟨toD_ok1 hK hh k, toDs_ok hK (toD_ok1 hK hh k)⟩
/-- == of two values, where it is told -/
def eqB (a b : AV) (A : AHp) : Option Bool := if scalA a b then some (flatEq a b) else match toD 40 A a, toD 40 A b with
  | some d, some e => if SeqAt.shaped d && SeqAt.shaped e then some (PyData.eqv d e) else none
  | _, _ => none
def pEq : Op2 := fun a b A => (eqB a b A).map fun r => (.bl r, A)
def pNe : Op2 := fun a b A => (eqB a b A).map fun r => (.bl (!r), A)
theorem scal_ok {ρ : List Addr} {H : Hp} {a b : AV} {x y : V} (h : scalA a b = true) (ha : RV E ρ H a x) (hb : RV E ρ H b y) : scal x y = true ∧ decide (x = y) = flatEq a b := by
  cases a <;> cases b <;> first | (simp [scalA] at h; done) | (cases ha; cases hb; refine ⟨rfl, ?_⟩; first | rfl | simp [flatEq])
theorem os_eqG (hK : X.K = E.K) (hu : X.A.units + 64 < cLine) {f : Value → Value → Sem Value} {p : Op2} (neg : Bool) (hp : ∀ a b A, p a b A = (eqB a b A).map fun r => (.bl (neg ^^ r), A))
    (h1 : OpR X f (fun x y H Q => scal x y = true ∧ Q (.bl (neg ^^ decide (x = y))) H)) (h2 : OpR X f (fun x y H Q => ∃ d e, Dp X.K H x d ∧ Dp X.K H y e ∧ SeqAt.shaped d = true ∧ SeqAt.shaped e = true ∧ Q (.bl (neg ^^ PyData.eqv d e)) H)) : OpS E X f p := by
  intro pins s σ H x y v u Q I rx ry h
  obtain ⟨ρ, A, a, b, hh, ha, hb, q⟩ := h
  rw [hp] at q
  unfold eqB at q
  cases hs : scalA a b with
  | true =>
    rw [hs, if_pos rfl] at q
    obtain ⟨z1, z2⟩ := scal_ok hs ha hb
    refine h1 pins s σ H _ _ v u Q I rx ry ⟨z1, ?_⟩
    rw [z2]
    exact q.pure hh rfl
  | false =>
    rw [hs, if_neg Bool.false_ne_true] at q
    cases e1 : toD 40 A a with
    | none => rw [e1] at q; exact q.elim
    | some d => cases e2 : toD 40 A b with
      | none => rw [e1, e2] at q; exact q.elim
      | some e =>
        rw [e1, e2] at q
        dsimp only at q
        cases hz : SeqAt.shaped d && SeqAt.shaped e with
        | false => rw [hz] at q; exact q.elim
        | true =>
          rw [hz] at q
          obtain ⟨z1, z2⟩ := Bool.and_eq_true_iff.mp hz
          exact h2 pins s σ H _ _ v u Q I rx ry ⟨d, e, (toD_ok hK hh 40).1 a x d e1 ha, (toD_ok hK hh 40).1 b y e e2 hb, z1, z2, q.pure hh rfl⟩
theorem os_eq (hK : X.K = E.K) (hu : X.A.units + 64 < cLine) : OpS E X (compareOp .Eq) pEq :=
  os_eqG hK hu false (fun a b A => by unfold pEq; simp) (fun pins s σ H x y v u Q I rx ry h => op_eq pins s σ H x y v u Q I rx ry (by simpa [rEq] using h)) fun pins s σ H x y v u Q I rx ry h => op_eqD hu pins s σ H x y v u Q I rx ry (by simpa [rEqD] using h)
theorem os_ne (hK : X.K = E.K) (hu : X.A.units + 64 < cLine) : OpS E X (compareOp .NotEq) pNe :=
  os_eqG hK hu true (fun a b A => by unfold pNe; simp) (fun pins s σ H x y v u Q I rx ry h => op_ne pins s σ H x y v u Q I rx ry (by simpa [rNe] using h)) fun pins s σ H x y v u Q I rx ry h => op_neD hu pins s σ H x y v u Q I rx ry (by simpa [rNeD] using h)
def isNon : AV → Bool
  | .non => true
  | _ => false
def pIs : Op2 := fun a b A => match b with
  | .non => some (.bl (isNon a), A)
  | _ => none
def pIsNot : Op2 := fun a b A => match b with
  | .non => some (.bl (!isNon a), A)
  | _ => none
theorem isNon_ok {ρ : List Addr} {H : Hp} {a : AV} {x : V} (ha : RV E ρ H a x) : decide (x = .non) = isNon a := by
  cases a with
  | non => cases ha; rfl
  | bl b => cases ha; rfl
  | int i => cases ha; rfl
  | str x => cases ha; rfl
  | tup xs => obtain ⟨a, ys, rfl, _⟩ := ha; rfl
  | ktup xs => obtain ⟨a, ys, rfl, _⟩ := ha; rfl
  | kl xs => obtain ⟨a, ys, rfl, _⟩ := ha; rfl
  | ref n => obtain ⟨a, _, rfl⟩ := ha; rfl
  | exc c r => obtain ⟨a, d, φ, rfl, _⟩ := ha; rfl
  | ty n => cases ha; rfl
  | cls c => cases ha; rfl
  | hx c r => obtain ⟨p, d, _, rfl, _⟩ := ha; rfl
theorem os_is : OpS E X (compareOp .Is) pIs := by
  intro pins s σ H x y v u Q I rx ry h
  obtain ⟨ρ, A, a, b, hh, ha, hb, q⟩ := h
  cases b with
  | non =>
    cases hb
    refine op_isN pins s σ H _ _ v u Q I rx ry ⟨rfl, ?_⟩
    rw [isNon_ok ha]
    exact q.pure hh rfl
  | _ => exact q.elim
theorem os_isnot : OpS E X (compareOp .IsNot) pIsNot := by
  intro pins s σ H x y v u Q I rx ry h
  obtain ⟨ρ, A, a, b, hh, ha, hb, q⟩ := h
  cases b with
  | non =>
    cases hb
    refine op_notN pins s σ H _ _ v u Q I rx ry ⟨rfl, ?_⟩
    rw [isNon_ok ha]
    exact q.pure hh rfl
  | _ => exact q.elim
end
end Ev
end
section
/-! Ev, fourth part: expressions. -/
namespace Ev
open PySem PySem.Spec L2
set_option autoImplicit false
/-- where one stands: room for calls k deep -/
structure Ctx (E : En) (k : Nat) (X : Cx) (W : WX) : Prop where
  hK : X.K = E.K
  calm : X.calm = true
  room : Room k X.A
  tk : L2N.Takes X W
  po : PassesOwn (model X.prog X.w) X.A X.env X.xe
  h0 : E.hot = none
  hP : X.prog = E.P ∧ X.w = E.w
/-- what is known where an exception is handled, too -/
structure CtxB (E : En) (X : Cx) : Prop where
  hK : X.K = E.K
  hu : X.A.units + 64 < cLine
  hP : X.prog = E.P ∧ X.w = E.w
theorem CtxB.hu1 {E : En} {X : Cx} (c : CtxB E X) : X.A.units + 1 < cLine := by have := c.hu; omega
theorem CtxB.b {E : En} {X : Cx} (c : CtxB E X) : CtxB E X := c
theorem Ctx.b {E : En} {X : Cx} {W : WX} {k : Nat} (c : Ctx E k X W) : CtxB E X := ⟨c.hK, c.room.units, c.hP⟩
section
variable {E : En} {X : Cx} {W : WX} {k : Nat}
theorem Ctx.hu (c : Ctx E k X W) : X.A.units + 64 < cLine := c.room.units
theorem Ctx.hu1 (c : Ctx E k X W) : X.A.units + 1 < cLine := by have := c.room.units; omega

/-! ### truth -/
def truA (v : AV) (A : AHp) : Option Bool := match v with
  | .non => some false
  | .bl b => some b
  | .int i => some (i != 0)
  | .str x => if x.length ≤ sizeLine then some ((x.length : Int) != 0) else none
  | .tup xs => some (!xs.isEmpty)
  | .ref n => (match A[n]? with
    | some (.lst xs _) => some (!xs.isEmpty)
    | _ => none)
  | _ => none
theorem isEmpty_rvs {ρ : List Addr} {H : Hp} {xs : List AV} {ys : List V} (h : RVs E ρ H xs ys) : (!xs.isEmpty) = !ys.isEmpty := by
  cases xs with
  | nil => cases h; rfl
  | cons x xs => obtain ⟨y, ys, rfl, _⟩ := h; rfl
theorem tru_okA (hK : X.K = E.K) {ρ : List Addr} {H : Hp} {A : AHp} (hh : RH E ρ H A) {v : AV} {x : V} (r : RV E ρ H v x) {b : Bool} (e : truA v A = some b) : TruV X.K x H b := by
  cases v with
  | non => cases r; simp only [truA, Option.some.injEq] at e; exact e.symm
  | bl c => cases r; simp [truA] at e; exact e.symm
  | int i => cases r; simp [truA] at e; show b = (i != 0); rw [← e]
  | str z =>
    cases r
    unfold truA at e
    dsimp only at e
    split at e
    · cases e
      exact ⟨by assumption, rfl⟩
    · cases e
  | tup xs =>
    obtain ⟨a, ys, rfl, s, q⟩ := r
    simp only [truA, Option.some.injEq] at e
    refine .inr (.inl ⟨ys, .inl (.inl s), ?_⟩)
    rw [← isEmpty_rvs q, ← e]
  | ref n =>
    unfold truA at e
    dsimp only at e
    cases e1 : A[n]? with
    | none => rw [e1] at e; cases e
    | some o => cases o with
      | lst xs ro =>
        rw [e1] at e
        cases e
        obtain ⟨a, ys, p1, q, w, _⟩ := hh.lst e1
        have ex := RVref r p1
        subst ex
        exact .inl ⟨ys, .inl w, isEmpty_rvs q⟩
      | dict kvs lk => rw [e1] at e; cases e
      | ins c fs => rw [e1] at e; cases e
      | dn _ => rw [e1] at e; cases e
  | exc c i => simp [truA] at e
  | ktup xs => simp [truA] at e
  | kl xs => simp [truA] at e
  | ty n => simp [truA] at e
  | cls c => simp [truA] at e
  | hx c r => simp [truA] at e

/-- the truth of a denotation's value -/
def asT (v : AV) (A : AHp) : Res Bool := match truA v A with
  | some b => .ok b A
  | none => .bad
def dTru (f : Den AV) : Den Bool := fun σ A => (f σ A).bind asT
theorem st_tru {e : Expr} {f : Den AV} (c : Ctx E k X W) (h : SE E X W e f) (he : ∀ whole, isTrue e X.env whole = (do let v ← whole; standAt e.pos; holding [v] (truthy v))) : STt E X W e (dTru f) := by
  refine PT.imp (pt_truth h he) fun σ H Q h => ?_
  refine rd_step h fun x' H1 ρ σa A x hs hh hx q => ?_
  unfold asT at q
  cases e : truA x A with
  | none => rw [e] at q; exact q.elim
  | some b =>
    rw [e] at q
    exact ⟨b, tru_okA c.hK hh hx e, q ρ H1 b (Ext.refl _ _) hh rfl⟩
def dNotT (f : Den Bool) : Den Bool := fun σ A => (f σ A).bind fun b A1 => .ok (!b) A1
theorem st_not {e : Expr} {f : Den Bool} {pos : Pos} (h : STt E X W e f) : STt E X W (.UnaryOp .Not e pos) (dNotT f) := by
  refine PT.imp (pt_not h) fun σ H Q h => ?_
  refine rd_step h fun x' H1 ρ σa A x hs hh hx q => ?_
  cases hx
  exact q ρ H1 _ (Ext.refl _ _) hh rfl
def dAndT (fa fb : Den Bool) : Den Bool := fun σ A => (fa σ A).bind fun b A1 => if b = true then fb σ A1 else .ok false A1
def dOrT (fa fb : Den Bool) : Den Bool := fun σ A => (fa σ A).bind fun b A1 => if b = true then .ok true A1 else fb σ A1
theorem sw_and1 {a : Expr} {f : Den Bool} {pos : Pos} (h : STt E X W a f) : SW E X W (.BoolOp .And [a] pos) f := pw_and1 h
theorem sw_or1 {a : Expr} {f : Den Bool} {pos : Pos} (h : STt E X W a f) : SW E X W (.BoolOp .Or [a] pos) f := pw_or1 h
theorem sw_and {a b : Expr} {rest : List Expr} {fa fb : Den Bool} {pos : Pos} (ha : STt E X W a fa) (hb : SW E X W (.BoolOp .And (b :: rest) pos) fb) : SW E X W (.BoolOp .And (a :: b :: rest) pos) (dAndT fa fb) := by
  refine PW.imp (pw_and ha hb) fun σ H Q h => ?_
  refine rd_step h fun x' H1 ρ σa A x hs hh hx q => ?_
  cases hx
  cases x' with
  | true => exact ⟨ρ, σa, A, hs, hh, q⟩
  | false => exact q ρ H1 _ (Ext.refl _ _) hh rfl
theorem sw_or {a b : Expr} {rest : List Expr} {fa fb : Den Bool} {pos : Pos} (ha : STt E X W a fa) (hb : SW E X W (.BoolOp .Or (b :: rest) pos) fb) : SW E X W (.BoolOp .Or (a :: b :: rest) pos) (dOrT fa fb) := by
  refine PW.imp (pw_or ha hb) fun σ H Q h => ?_
  refine rd_step h fun x' H1 ρ σa A x hs hh hx q => ?_
  cases hx
  cases x' with
  | false => exact ⟨ρ, σa, A, hs, hh, q⟩
  | true => exact q ρ H1 _ (Ext.refl _ _) hh rfl
theorem st_w {e : Expr} {f : Den Bool} (h : SW E X W e f) : STt E X W e f := h.pt
/-- and, or, not as values, by truth -/
def dAndV (fa fb : Den AV) : Den AV := fun σ A => (fa σ A).bind fun x A1 => match truA x A1 with
  | some true => fb σ A1
  | some false => .ok x A1
  | none => .bad
def dOrV (fa fb : Den AV) : Den AV := fun σ A => (fa σ A).bind fun x A1 => match truA x A1 with
  | some true => .ok x A1
  | some false => fb σ A1
  | none => .bad
def dNotV (fa : Den AV) : Den AV := fun σ A => (fa σ A).bind fun x A1 => match truA x A1 with
  | some b => .ok (.bl (!b)) A1
  | none => .bad
theorem se_one {op : BoolOp} {a : Expr} {fa : Den AV} {pos : Pos} (ha : SE E X W a fa) : SE E X W (.BoolOp op [a] pos) fa := pe_one ha
theorem se_and {a b : Expr} {rest : List Expr} {fa fb : Den AV} {pos : Pos} (c : Ctx E k X W) (ha : SE E X W a fa) (hb : SE E X W (.BoolOp .And (b :: rest) pos) fb) : SE E X W (.BoolOp .And (a :: b :: rest) pos) (dAndV fa fb) := by
  refine PE.imp (pe_andT ha hb) fun σ H Q h => ?_
  refine rd_step h fun x' H1 ρ σa A x hs hh hx q => ?_
  cases e : truA x A with
  | none => rw [e] at q; exact q.elim
  | some b =>
    rw [e] at q
    refine ⟨b, tru_okA c.hK hh hx e, ?_⟩
    cases b with
    | true => exact ⟨ρ, σa, A, hs, hh, q⟩
    | false => exact q ρ H1 _ (Ext.refl _ _) hh hx
theorem se_or {a b : Expr} {rest : List Expr} {fa fb : Den AV} {pos : Pos} (c : Ctx E k X W) (ha : SE E X W a fa) (hb : SE E X W (.BoolOp .Or (b :: rest) pos) fb) : SE E X W (.BoolOp .Or (a :: b :: rest) pos) (dOrV fa fb) := by
  refine PE.imp (pe_orT ha hb) fun σ H Q h => ?_
  refine rd_step h fun x' H1 ρ σa A x hs hh hx q => ?_
  cases e : truA x A with
  | none => rw [e] at q; exact q.elim
  | some b =>
    rw [e] at q
    refine ⟨b, tru_okA c.hK hh hx e, ?_⟩
    cases b with
    | false => exact ⟨ρ, σa, A, hs, hh, q⟩
    | true => exact q ρ H1 _ (Ext.refl _ _) hh hx
theorem se_not {a : Expr} {fa : Den AV} {pos : Pos} (c : Ctx E k X W) (ha : SE E X W a fa) : SE E X W (.UnaryOp .Not a pos) (dNotV fa) := by
  refine PE.imp (pe_notT ha) fun σ H Q h => ?_
  refine rd_step h fun x' H1 ρ σa A x hs hh hx q => ?_
  cases e : truA x A with
  | none => rw [e] at q; exact q.elim
  | some b =>
    rw [e] at q
    exact ⟨b, tru_okA c.hK hh hx e, q ρ H1 _ (Ext.refl _ _) hh rfl⟩
def dIf (ft : Den Bool) (fa fb : Den AV) : Den AV := fun σ A => (ft σ A).bind fun b A1 => if b = true then fa σ A1 else fb σ A1
theorem se_if {t a b : Expr} {ft : Den Bool} {fa fb : Den AV} {pos : Pos} (ht : STt E X W t ft) (ha : SE E X W a fa) (hb : SE E X W b fb) : SE E X W (.IfExp t a b pos) (dIf ft fa fb) := by
  refine PE.imp (pe_ifExp ht ha hb) fun σ H Q h => ?_
  refine rd_step h fun x' H1 ρ σa A x hs hh hx q => ?_
  cases hx
  cases x' with
  | false => exact ⟨ρ, σa, A, hs, hh, q⟩
  | true => exact ⟨ρ, σa, A, hs, hh, q⟩
/-- a < b < c -/
def dChain (p p' : Op2) (fa fb fc : Den AV) : Den AV := fun σ A => (fa σ A).bind fun x A1 => (fb σ A1).bind fun y A2 => (ofO (p x y A2)).bind fun z A3 => match z with
  | .bl true => (fc σ A3).bind fun w A4 => ofO (p' y w A4)
  | .bl false => .ok (.bl false) A3
  | _ => .bad
theorem chain_rd {p p' : Op2} {fa fb fc : Den AV} {σ : St} {H : Hp} {Q : VK} (h : rd E (RV E) (dChain p p' fa fb fc) W σ H Q) :
    tChain (r2 E p) (r2 E p') (rd E (RV E) fa W) (rd E (RV E) fb W) (rd E (RV E) fc W) σ H Q := by
  refine rd_step h fun x' H1 ρ σa A x hs hh hx q => ?_
  refine ⟨ρ, σa, A, hs, hh, ?_⟩
  cases e : fb σa A with
  | err c i A2 => rw [e] at q; exact q
  | bad => rw [e] at q; exact q
  | ok y A2 =>
    rw [e] at q
    intro ρ2 H2 y' xt rh ry
    have q : Post E (RV E) ((ofO (p x y A2)).bind fun z A3 => match z with
      | .bl true => (fc σa A3).bind fun w A4 => ofO (p' y w A4)
      | .bl false => .ok (.bl false) A3
      | _ => .bad) ρ H1 Q fun c d H' => W c d σ H' := q
    refine ⟨ρ2, A2, x, y, rh, hx.ext xt, ry, ?_⟩
    cases e2 : p x y A2 with
    | none => rw [e2] at q; exact q
    | some zz =>
      obtain ⟨z, A3⟩ := zz
      rw [e2] at q
      have q := q.ext xt
      intro ρ3 H3 z' xt3 rh3 rz
      cases z with
      | bl b =>
        cases rz
        refine ⟨b, rfl, ?_⟩
        cases b with
        | false => exact q _ _ _ xt3 rh3 rfl
        | true =>
          refine ⟨ρ3, σa, A3, (hs.ext xt).ext xt3, rh3, ?_⟩
          have q : Post E (RV E) ((fc σa A3).bind fun w A4 => ofO (p' y w A4)) ρ2 H2 Q fun c d H' => W c d σ H' := q
          cases e3 : fc σa A3 with
          | err c i A4 => rw [e3] at q; exact q.ext xt3
          | bad => rw [e3] at q; exact q
          | ok w A4 =>
            rw [e3] at q
            intro ρ4 H4 w' xt4 rh4 rw'
            exact ⟨ρ4, A4, y, w, rh4, (ry.ext xt3).ext xt4, rw', PostO.of_post (q.ext (xt3.trans xt4))⟩
      | _ => exact q.elim
theorem se_chain {op op' : CmpOp} {p p' : Op2} {a b c : Expr} {fa fb fc : Den AV} {pos : Pos} (ho : OpS E X (compareOp op) p) (ho' : OpS E X (compareOp op') p') (ha : SE E X W a fa) (hb : SE E X W b fb) (hc : SE E X W c fc)
    (hm : lastMarks [op, op'] [b, c] = false) : SE E X W (.Compare a [op, op'] [b, c] pos) (dChain p p' fa fb fc) :=
  PE.imp (pe_chain ho ho' ha hb hc hm) fun _ _ _ h => chain_rd h
theorem st_chain {op op' : CmpOp} {p p' : Op2} {a b c : Expr} {fa fb fc : Den AV} {pos : Pos} (ho : OpS E X (compareOp op) p) (ho' : OpS E X (compareOp op') p') (ha : SE E X W a fa) (hb : SE E X W b fb) (hc : SE E X W c fc)
    (hm : lastMarks [op, op'] [b, c] = false) : STt E X W (.Compare a [op, op'] [b, c] pos) (dTB (dChain p p' fa fb fc)) :=
  PT.imp (pt_chain ho ho' ha hb hc hm) fun _ _ _ h => chain_rd (tb_rd h)
/-! ### argument lists, displays -/
def dNil : Den (List AV) := fun _ A => .ok [] A
def dCons (f : Den AV) (g : Den (List AV)) : Den (List AV) := fun σ A => (f σ A).bind fun x A1 => (g σ A1).bind fun xs A2 => .ok (x :: xs) A2
theorem sa_nil : SA E X W [] dNil := PA.imp pa_nil fun σ H Q ⟨ρ, σa, A, hs, hh, q⟩ => q ρ H [] (Ext.refl _ _) hh rfl
theorem sa_cons {e : Expr} {es : List Expr} {f : Den AV} {g : Den (List AV)} (he : SE E X W e f) (hr : SA E X W es g) (hs : starEach (e :: es) X.env = (false, eval e X.env) :: starEach es X.env) : SA E X W (e :: es) (dCons f g) := by
  refine PA.imp (pa_cons he hr hs) fun σ H Q h => ?_
  refine rd_step h fun x' H1 ρ σa A x hs hh hx q => ?_
  refine ⟨ρ, σa, A, hs, hh, ?_⟩
  cases e : g σa A with
  | err c i A2 => rw [e] at q; exact q
  | bad => rw [e] at q; exact q
  | ok xs A2 =>
    rw [e] at q
    intro ρ2 H2 xs' xt rh r
    exact q ρ2 H2 (x' :: xs') xt rh ⟨x', xs', rfl, hx.ext xt, r⟩
def dTup (g : Den (List AV)) : Den AV := fun σ A => (g σ A).bind fun xs A1 => if xs.length ≤ sizeLine then .ok (.tup xs) A1 else .bad
def dLst (g : Den (List AV)) : Den AV := fun σ A => (g σ A).bind fun xs A1 => if xs.length ≤ sizeLine then .ok (.ref A1.length) (A1 ++ [.lst xs false]) else .bad
theorem se_tup {es : List Expr} {x1 : Nat} {g : Den (List AV)} {pos : Pos} (h : SA E X W es g) : SE E X W (.Tuple es x1 pos) (dTup g) := by
  refine PE.imp (pe_tup h) fun σ H Q h => ?_
  refine rd_step h fun x' H1 ρ σa A x hs hh hx q => ?_
  split at q
  · rename_i hz
    refine ⟨by rw [RVs.length hx]; exact hz, fun p hp => ?_⟩
    obtain ⟨z1, z2, z3⟩ := newTup hh hp hx
    exact q _ _ _ z2 z1 z3
  · exact q.elim
theorem se_lst {es : List Expr} {g : Den (List AV)} {pos : Pos} (h : SA E X W es g) : SE E X W (.List es pos) (dLst g) := by
  refine PE.imp (pe_lst h) fun σ H Q h => ?_
  refine rd_step h fun x' H1 ρ σa A x hs hh hx q => ?_
  split at q
  · rename_i hz
    refine ⟨by rw [RVs.length hx]; exact hz, fun p hp => ?_⟩
    obtain ⟨z1, z2, z3⟩ := newLst hh hp hx
    exact q _ _ _ z2 z1 z3
  · exact q.elim
/-! ### calls -/
abbrev OpN := List AV → AHp → Option (AV × AHp)
def rN (E : En) (p : OpN) : List V → Hp → VK → Prop := fun xs H Q => ∃ ρ A as, RH E ρ H A ∧ RVs E ρ H as xs ∧ PostO E (p as A) ρ H Q
def CallS (E : En) (X : Cx) (f : Value) (p : OpN) : Prop := CallR X f (rN E p)
def dCB (p : OpN) (g : Den (List AV)) : Den AV := fun σ A => (g σ A).bind fun xs A1 => ofO (p xs A1)
theorem cb_rd {p : OpN} {g : Den (List AV)} {σ : St} {H : Hp} {Q : VK} (h : rd E (RV E) (dCB p g) W σ H Q) : rd E (RVs E) g W σ H fun vs H1 => rN E p vs H1 Q :=
  rd_step h fun x' H1 ρ σa A x hs hh hx q => ⟨ρ, A, x, hh, hx, PostO.of_post q⟩
theorem se_callB {id : String} {p : OpN} {x : Str} {pp pos : Pos} {e : Expr} {es : List Expr} {g : Den (List AV)} (hc : CallS E X (.builtin id) p) (hg : Gl X x) (hm : X.mg x = none) (hv : bootBuiltins x = some (.builtin id)) (ha : SA E X W (e :: es) g)
    (hn : x ≠ "__name__") (hdb : (x == ("__debug__" : Str)) = false) (he : starEach (e :: es) X.env = (false, eval e X.env) :: starEach es X.env) (hpl : (backTo pos (starEach es X.env)).any (·.1) = false) : SE E X W (.Call (.Name x pp) (e :: es) [] pos) (dCB p g) :=
  PE.imp (pe_callB hc hg hm hv ha hn hdb he hpl) fun _ _ _ h => cb_rd h
theorem se_callT {T : String} {p : OpN} {x : Str} {pp pos : Pos} {e : Expr} {es : List Expr} {g : Den (List AV)} (hc : CallS E X (.type T) p) (hg : Gl X x) (hm : X.mg x = none) (hv : bootBuiltins x = some (.type T)) (ha : SA E X W (e :: es) g)
    (hn : x ≠ "__name__") (hdb : (x == ("__debug__" : Str)) = false) (he : starEach (e :: es) X.env = (false, eval e X.env) :: starEach es X.env) (hpl : (backTo pos (starEach es X.env)).any (·.1) = false) : SE E X W (.Call (.Name x pp) (e :: es) [] pos) (dCB p g) :=
  PE.imp (pe_callTy hc hg hm hv ha hn hdb he hpl) fun _ _ _ h => cb_rd h
/-- a def's promise -/
def spOf (E : En) (n : Nat) (g : List AV → M AV) : Sp := fun vs H Q Ex => ∃ ρ A as, RH E ρ H A ∧ RVs E ρ H as vs ∧ as.length = n ∧ Post E (RV E) (g as A) ρ H Q Ex
/-- a def that keeps it -/
structure Cal (E : En) (P : Program) (w : World) (K : PySem.W.Frag) (mg : Str → Option Value) (base : Heap) (k : Nat) (f : Addr) (n : Nat) (g : List AV → M AV) : Prop where
  kp : PySem.W.keepIn K (.ref f) = true
  ok : ∃ fd ps, FnOk P w K mg base (L2N.CX P w) k f fd ps (spOf E n g) ∧ Binds K fd ps []
def dCall (n : Nat) (g : List AV → M AV) (fa : Den (List AV)) : Den AV := fun σ A => (fa σ A).bind fun vs A1 => if vs.length = n then g vs A1 else .bad
theorem se_call {n : Nat} {g : List AV → M AV} {f : Addr} {x : Str} {p pos : Pos} {e : Expr} {es : List Expr} {fa : Den (List AV)} (c : Ctx E k X W) (F : Cal E X.prog X.w X.K X.mg X.base k f n g) (hg : Gl X x) (hm : X.mg x = some (.ref f)) (ha : SA E X W (e :: es) fa)
    (hdb : (x == ("__debug__" : Str)) = false) (he : starEach (e :: es) X.env = (false, eval e X.env) :: starEach es X.env) (hpl : (backTo pos (starEach es X.env)).any (·.1) = false) : SE E X W (.Call (.Name x p) (e :: es) [] pos) (dCall n g fa) := by
  obtain ⟨fd, ps, F1, b⟩ := F.ok
  refine PE.imp (pe_callS F1 c.room hg hm F.kp b (E := WE W) (fun σ => L2N.passAt c.tk σ) ha hdb he hpl) fun σ H Q h => ?_
  refine rd_step h fun x' H1 ρ σa A x hs hh hx q => ?_
  split at q
  · exact ⟨ρ, A, x, hh, hx, by assumption, q⟩
  · exact q.elim
theorem se_call0 {g : List AV → M AV} {f : Addr} {x : Str} {p pos : Pos} (c : Ctx E k X W) (F : Cal E X.prog X.w X.K X.mg X.base k f 0 g) (hg : Gl X x) (hm : X.mg x = some (.ref f))
    (hdb : (x == ("__debug__" : Str)) = false) : SE E X W (.Call (.Name x p) [] [] pos) (dCall 0 g dNil) := by
  obtain ⟨fd, ps, F1, b⟩ := F.ok
  refine ⟨fun pins s σ H Q I h => ?_⟩
  refine wpAny_Call_Name_kw (ld_glob I hg hm ?_ hdb)
  refine PySem.W.callWith_K0 I.kIn F.kp (run_fnS (us := []) (vs := []) (E := WE W) F1 c.room b (L2N.passAt c.tk σ) I .nil ?_)
  obtain ⟨ρ, σa, A, hs, hh, q⟩ := h
  exact ⟨ρ, A, [], hh, rfl, rfl, q⟩
theorem se_gint {x : Str} {i : Int} {pos : Pos} (hg : Gl X x) (hm : ∃ t, X.mg x = some (.int i t)) (hd : (x == ("__debug__" : Str)) = false) : SE E X W (.Name x pos) (dC (.int i)) := by
  obtain ⟨t, hm⟩ := hm
  exact se_glob (v' := V.int i) hg hm ⟨t, rfl⟩ (fun _ _ => rfl) hd
theorem se_gstr {x z : Str} {pos : Pos} (hg : Gl X x) (hm : ∃ t, X.mg x = some (.str z t)) (hd : (x == ("__debug__" : Str)) = false) : SE E X W (.Name x pos) (dC (.str z)) := by
  obtain ⟨t, hm⟩ := hm
  exact se_glob (v' := V.str z) hg hm ⟨t, rfl⟩ (fun _ _ => rfl) hd
/-! ### - -/
def dNeg (f : Den AV) : Den AV := fun σ A => (f σ A).bind fun v A1 => match v with
  | .int i => .ok (.int (-i)) A1
  | _ => .bad
theorem se_neg {a : Expr} {f : Den AV} {pos : Pos} (ha : SE E X W a f) : SE E X W (.UnaryOp .USub a pos) (dNeg f) := by
  refine PE.imp (pe_un un_neg ha) fun σ H Q h => ?_
  refine rd_step h fun x' H1 ρ σa A x hs hh hx q => ?_
  cases x with
  | int i =>
    cases hx
    exact ⟨i, rfl, q ρ H1 _ (Ext.refl _ _) hh rfl⟩
  | _ => exact q.elim
/-- names by a computed look -/
def visB (sc : Scope) (x : Str) : Bool := match sc.names.lookup x with
  | some .local => true
  | some .cell => true
  | some .free => true
  | _ => false
theorem vis_of {sc : Scope} {x : Str} (h : visB sc x = true) : Vis sc x := by
  unfold visB at h
  split at h
  · exact .inl (by assumption)
  · exact .inr (.inl (by assumption))
  · exact .inr (.inr (by assumption))
  · cases h
def locB (sc : Scope) (x : Str) : Bool := match sc.names.lookup x with
  | some .local => true
  | some .cell => true
  | _ => false
theorem loc_of {sc : Scope} {x : Str} (h : locB sc x = true) : Loc sc x := by
  unfold locB at h
  split at h
  · exact .inl (by assumption)
  · exact .inr (by assumption)
  · cases h
end
end Ev
end
section
/-! Ev, fifth part: subscripts, slices, dicts by values. -/
namespace Ev
open PySem PySem.Spec L2
set_option autoImplicit false
/-! ### keys -/
def keyOf1 : AV → Option Key
  | .int i => some (.inl i)
  | .str x => some (.inr x)
  | _ => none
def keysOf : List AV → Option (List Key)
  | [] => some []
  | v :: vs => match keyOf1 v, keysOf vs with
    | some k, some ks => some (k :: ks)
    | _, _ => none
def keyOf : AV → Option AK
  | .tup xs => (keysOf xs).map .t
  | .int i => some (.k (.inl i))
  | .str x => some (.k (.inr x))
  | _ => none
def key1V : Key → AV
  | .inl i => .int i
  | .inr x => .str x
def keyV : AK → AV
  | .k x => key1V x
  | .t xs => .tup (xs.map key1V)
def getK (kvs : List (AK × AV)) (k : AK) : Option AV := (kvs.find? fun p => decide (p.1 = k)).map (·.2)
def putA (kvs : List (AK × AV)) (k : AK) (v : AV) : List (AK × AV) := if (kvs.any fun p => decide (p.1 = k)) = true then kvs.map (fun p => if p.1 = k then (p.1, v) else p) else kvs ++ [(k, v)]
def dropA (kvs : List (AK × AV)) (k : AK) : List (AK × AV) := kvs.filter fun p => decide (p.1 ≠ k)
section
variable {E : En} {X : Cx} {W : WX} {k : Nat} {ρ : List Addr} {H : Hp}
theorem key1_ok {v : AV} {x : V} {k : Key} (e : keyOf1 v = some k) (r : RV E ρ H v x) : x = kV k := by
  cases v with
  | int i => cases r; cases e; rfl
  | str z => cases r; cases e; rfl
  | _ => cases e
theorem keys_ok : ∀ {vs : List AV} {xs : List V} {ks : List Key}, keysOf vs = some ks → RVs E ρ H vs xs → xs = ks.map kV
  | [], _, _, e, r => by cases r; cases e; rfl
  | v :: vs, _, _, e, r => by
    obtain ⟨y, ys, rfl, a, b⟩ := r
    unfold keysOf at e
    cases e1 : keyOf1 v with
    | none => rw [e1] at e; cases e
    | some k1 => cases e2 : keysOf vs with
      | none => rw [e1, e2] at e; cases e
      | some ks =>
        rw [e1, e2] at e
        cases e
        rw [key1_ok e1 a, keys_ok e2 b, List.map_cons]
theorem key1V_rv (k : Key) : RV E ρ H (key1V k) (kV k) := by cases k <;> rfl
theorem keyOf_k {v : AV} {x : V} {y : Key} (e : keyOf v = some (.k y)) (r : RV E ρ H v x) : x = kV y := by
  cases v with
  | int i => cases r; cases e; rfl
  | str z => cases r; cases e; rfl
  | tup xs => unfold keyOf at e; obtain ⟨_, _, e⟩ := Option.map_eq_some_iff.mp e; cases e
  | _ => cases e
theorem keyOf_t {v : AV} {x : V} {ks : List Key} (e : keyOf v = some (.t ks)) (r : RV E ρ H v x) : ∃ b, x = .ref b ∧ H b = some (.tup (ks.map kV)) := by
  cases v with
  | tup xs =>
    unfold keyOf at e
    obtain ⟨l, e1, e2⟩ := Option.map_eq_some_iff.mp e
    cases e2
    obtain ⟨a, ys, rfl, s, q⟩ := r
    rw [keys_ok e1 q] at s
    exact ⟨a, rfl, s⟩
  | _ => cases e
theorem rk_get : ∀ {l : List (AK × AV)} {m : List (Key × V)}, RK E ρ H l m → ∀ k : Key, (getK l (.k k) = none → valV m k = none) ∧ ∀ v, getK l (.k k) = some v → ∃ x, valV m k = some x ∧ RV E ρ H v x
  | [], _, r, k => by cases r; exact ⟨fun _ => rfl, fun v e => by cases e⟩
  | (a, v) :: l, _, r, k => by
    obtain ⟨k', v', r', rfl, rfl, h1, h2⟩ := r
    by_cases e : k' = k
    · subst e
      rw [valV_pos rfl]
      have e0 : getK ((AK.k k', v) :: l) (.k k') = some v := by simp [getK, List.find?_cons]
      rw [e0]
      exact ⟨fun z => (by cases z), fun w z => (by cases z; exact ⟨v', rfl, h1⟩)⟩
    · rw [valV_neg e]
      have e0 : getK ((AK.k k', v) :: l) (.k k) = getK l (.k k) := by simp [getK, List.find?_cons, e]
      rw [e0]
      exact rk_get h2 k
theorem rt_get : ∀ {l : List (AK × AV)} {m : List (List Key × V)}, RT E ρ H l m → ∀ k : List Key, (getK l (.t k) = none → valV m k = none) ∧ ∀ v, getK l (.t k) = some v → ∃ x, valV m k = some x ∧ RV E ρ H v x
  | [], _, r, k => by cases r; exact ⟨fun _ => rfl, fun v e => by cases e⟩
  | (a, v) :: l, _, r, k => by
    obtain ⟨k', v', r', rfl, rfl, h1, h2⟩ := r
    by_cases e : k' = k
    · subst e
      rw [valV_pos rfl]
      have e0 : getK ((AK.t k', v) :: l) (.t k') = some v := by simp [getK, List.find?_cons]
      rw [e0]
      exact ⟨fun z => (by cases z), fun w z => (by cases z; exact ⟨v', rfl, h1⟩)⟩
    · rw [valV_neg e]
      have e0 : getK ((AK.t k', v) :: l) (.t k) = getK l (.t k) := by simp [getK, List.find?_cons, e]
      rw [e0]
      exact rt_get h2 k
theorem rk_none : ∀ {l : List (AK × AV)} {m : List (Key × V)}, RK E ρ H l m → ∀ k : List Key, getK l (.t k) = none
  | [], _, r, k => rfl
  | (a, v) :: l, _, r, k => by
    obtain ⟨k', v', r', rfl, rfl, h1, h2⟩ := r
    have e0 : getK ((AK.k k', v) :: l) (.t k) = getK l (.t k) := by simp [getK, List.find?_cons]
    rw [e0]
    exact rk_none h2 k
theorem rt_none : ∀ {l : List (AK × AV)} {m : List (List Key × V)}, RT E ρ H l m → ∀ k : Key, getK l (.k k) = none
  | [], _, r, k => rfl
  | (a, v) :: l, _, r, k => by
    obtain ⟨k', v', r', rfl, rfl, h1, h2⟩ := r
    have e0 : getK ((AK.t k', v) :: l) (.k k) = getK l (.k k) := by simp [getK, List.find?_cons]
    rw [e0]
    exact rt_none h2 k
/-- a dict of either kind -/
def kindA (kvs : List (AK × AV)) (k : AK) : Bool := kvs.all fun p => match p.1, k with
  | .k _, .k _ => true
  | .t _, .t _ => true
  | _, _ => false
theorem AtD.rd {a : Addr} {lk : Bool} {u : HO} (h : AtD H a lk u) : Rd H a u := by
  cases lk with
  | true => exact let ⟨o, q, _⟩ := (show ∃ od, H a = some (.frz od u) ∧ u ≠ .dT [] from h); .inr ⟨o, q⟩
  | false => exact .inl h
/-- an empty dict is a dict of the other kind as well -/
theorem Inv.dk_dt {pins : List (Addr × Obj)} {σ : St} {s : Shared} {a : Addr} (I : Inv X pins σ H s) (e : H a = some (.dK [])) : Inv X pins σ (upd H a (.dT [])) s := by
  obtain ⟨z, hd, vs, rel, ob, es, ep, h1, h2, h3, h4, h5⟩ := I.hok a _ e
  have hv : vs = [] := by cases rel; rfl
  subst hv
  refine I.write (x := a) (e := a) (t' := s.toks) (h' := s.heap) (by rw [e]; exact True.intro) (.inl rfl) (fun b u _ q => q) ⟨_, h1⟩ ?_
  have hz : es.toList = [] := by
    obtain ⟨hp, _⟩ := h5
    cases q : es.toList with
    | nil => rfl
    | cons u us => rw [q] at hp; exact False.elim (by first | exact hp | cases hp)
  exact ⟨Nat.zero_le _, hd, [], .nil, ob, es, ep, h1, h2, h3, hz, List.nodup_nil⟩
theorem Inv.dt_dk {pins : List (Addr × Obj)} {σ : St} {s : Shared} {a : Addr} (I : Inv X pins σ H s) (e : H a = some (.dT [])) : Inv X pins σ (upd H a (.dK [])) s := by
  obtain ⟨z, hd, xs, rel, ob, es, ep, h1, h2, h3, h4, h5⟩ := I.hok a _ e
  have hv : xs = [] := by cases rel; rfl
  subst hv
  refine I.write (x := a) (e := a) (t' := s.toks) (h' := s.heap) (by rw [e]; exact True.intro) (.inl rfl) (fun b u _ q => q) ⟨_, h1⟩ ?_
  have hz : es = #[] := by
    apply Array.ext'
    simpa using h4
  subst hz
  refine ⟨Nat.zero_le _, hd, [], .nil, ob, #[], ep, h1, h2, h3, ?_, ?_, List.nodup_nil⟩
  · intro e he
    simp at he
  · first | exact True.intro | exact .nil | simp [Pairs]

/-! ### subscripts -/
def IxS (E : En) (X : Cx) (p : Op2) : Prop := IxR X (r2 E p)
theorem se_ix {p : Op2} {a b : Expr} {fa fb : Den AV} {pos : Pos} (hp : IxS E X p) (ha : SE E X W a fa) (hb : SE E X W b fb) (hs : PlainIx b) : SE E X W (.Subscript a b pos) (dBin p fa fb) :=
  PE.imp (pe_ix hp ha hb hs) fun _ _ _ h => bin_rd h
/-- a list, a tuple, a text by a number; a dict by a key -/
def pIx : Op2 := fun a b A => match a with
  | .tup xs => (match b with
    | .int i => (atI xs i).map fun v => (v, A)
    | _ => none)
  | .ktup xs => (match b with
    | .int i => (atI xs i).map fun v => (v, A)
    | _ => none)
  | .kl xs => (match b with
    | .int i => (atI xs i).map fun v => (v, A)
    | _ => none)
  | .str z => (match b with
    | .int i => if z.length ≤ sizeLine then (atI z.cps.toList i).map fun c => (.str ⟨#[c]⟩, A) else none
    | _ => none)
  | .ref n => (match A[n]? with
    | some (.lst xs _) => (match b with
      | .int i => (atI xs i).map fun v => (v, A)
      | _ => none)
    | some (.dict kvs _) => (match keyOf b with
      | some y => (getK kvs y).map fun v => (v, A)
      | none => none)
    | _ => none)
  | _ => none
theorem atI_rv {xs : List AV} {ys : List V} {i : Int} {v : AV} (r : RVs E ρ H xs ys) (e : atI xs i = some v) : ∃ y, atI ys i = some y ∧ RV E ρ H v y := by
  unfold atI at e ⊢
  rw [r.length]
  obtain ⟨j, e1, e2⟩ := Option.bind_eq_some_iff.mp e
  obtain ⟨y, e3, q⟩ := r.get e2
  exact ⟨y, by rw [e1]; exact e3, q⟩
/-- what a dict holds at a key -/
theorem dget {A : AHp} (hh : RH E ρ H A) {n : Nat} {kvs : List (AK × AV)} {lk : Bool} (e : A[n]? = some (.dict kvs lk)) {b : AV} {y : V} {ky : AK} (ek : keyOf b = some ky) (r : RV E ρ H b y) {v : AV} (ev : getK kvs ky = some v) :
    ∃ a v', ρ[n]? = some a ∧ DGet H a y (some v') ∧ RV E ρ H v v' := by
  obtain ⟨a, ea, q⟩ := hh.get e
  cases ky with
  | k k1 =>
    rcases q with ⟨kv', r1, w⟩ | ⟨kv', r1, w⟩
    · obtain ⟨v', e1, q1⟩ := (rk_get r1 k1).2 v ev
      exact ⟨a, v', ea, .inl ⟨kv', k1, AtD.rd w, keyOf_k ek r, e1.symm⟩, q1⟩
    · rw [rt_none r1 k1] at ev
      cases ev
  | t ks =>
    rcases q with ⟨kv', r1, w⟩ | ⟨kv', r1, w⟩
    · rw [rk_none r1 ks] at ev
      cases ev
    · obtain ⟨v', e1, q1⟩ := (rt_get r1 ks).2 v ev
      obtain ⟨b', ey, eb⟩ := keyOf_t ek r
      exact ⟨a, v', ea, .inr ⟨kv', ks, b', AtD.rd w, ey, eb, e1.symm⟩, q1⟩
theorem ix_all (c : CtxB E X) : IxS E X pIx := by
  intro value slice pins s σ H x y v u Q I rx ry h hs
  obtain ⟨ρ, A, a, b, hh, ha, hb, q⟩ := h
  unfold pIx at q
  cases a with
  | tup xs => cases b with
    | int i =>
      cases hb
      dsimp only at q
      cases e : atI xs i with
      | none => rw [e] at q; exact q.elim
      | some z =>
        rw [e] at q
        obtain ⟨p, ys, rfl, st, r⟩ := ha
        obtain ⟨w, ew, rw'⟩ := atI_rv r e
        exact ix_tup value slice pins s σ H _ _ v u Q I rx ry ⟨p, ys, i, w, rfl, rfl, .inl (.inl st), ew, q.pure hh rw'⟩ hs
    | _ => exact q.elim
  | ktup xs => cases b with
    | int i =>
      cases hb
      dsimp only at q
      cases e : atI xs i with
      | none => rw [e] at q; exact q.elim
      | some z =>
        rw [e] at q
        obtain ⟨p, ys, rfl, st, r⟩ := ha
        obtain ⟨w, ew, rw'⟩ := atI_rv r e
        exact ix_tup value slice pins s σ H _ _ v u Q I rx ry ⟨p, ys, i, w, rfl, rfl, c.hK ▸ st, ew, q.pure hh rw'⟩ hs
    | _ => exact q.elim
  | kl xs => cases b with
    | int i =>
      cases hb
      dsimp only at q
      cases e : atI xs i with
      | none => rw [e] at q; exact q.elim
      | some z =>
        rw [e] at q
        obtain ⟨p, ys, rfl, st, r⟩ := ha
        obtain ⟨w, ew, rw'⟩ := atI_rv r e
        exact ix_list value slice pins s σ H _ _ v u Q I rx ry ⟨p, ys, i, w, rfl, rfl, c.hK ▸ st.sq, ew, q.pure hh rw'⟩ hs
    | _ => exact q.elim
  | str z => cases b with
    | int i =>
      cases hb
      cases ha
      dsimp only at q
      split at q
      · cases e : atI z.cps.toList i with
        | none => rw [e] at q; exact q.elim
        | some ch =>
          rw [e] at q
          exact ix_str value slice pins s σ H _ _ v u Q I rx ry ⟨z, i, ch, rfl, rfl, by assumption, e, q.pure hh rfl⟩ hs
      · exact q.elim
    | _ => exact q.elim
  | ref n =>
    dsimp only at q
    cases e1 : A[n]? with
    | none => rw [e1] at q; exact q.elim
    | some o => cases o with
      | lst xs ro =>
        rw [e1] at q
        cases b with
        | int i =>
          cases hb
          dsimp only at q
          cases e : atI xs i with
          | none => rw [e] at q; exact q.elim
          | some z =>
            rw [e] at q
            obtain ⟨p, ys, p1, r, w0, _⟩ := hh.lst e1
            have ex := RVref ha p1
            subst ex
            obtain ⟨w, ew, rw'⟩ := atI_rv r e
            exact ix_list value slice pins s σ H _ _ v u Q I rx ry ⟨p, ys, i, w, rfl, rfl, .inl w0, ew, q.pure hh rw'⟩ hs
        | _ => exact q.elim
      | dict kvs lk =>
        rw [e1] at q
        dsimp only at q
        cases ek : keyOf b with
        | none => rw [ek] at q; exact q.elim
        | some ky =>
          rw [ek] at q
          dsimp only at q
          cases ev : getK kvs ky with
          | none => rw [ev] at q; exact q.elim
          | some z =>
            rw [ev] at q
            obtain ⟨p, z', p1, g, rz⟩ := dget hh e1 ek hb ev
            have ex := RVref ha p1
            subst ex
            obtain rfl : v = Value.ref p := rx
            exact PyProof.Rows.tail_any (dict_typeIs I g) PySem.F.slot_dict_getitem.lookup (d_getItem c.hu1 I g ry fun w' s' I' rw' => ⟨z', H, I', rw', q.pure hh rz⟩) hs
      | ins cc fs => rw [e1] at q; exact q.elim
      | dn _ => rw [e1] at q; exact q.elim
  | _ => exact q.elim
/-! ### slices -/
abbrev OpSl := AV → Option Int → Option Int → AHp → Option (AV × AHp)
def cutA {α : Type} (xs : List α) (lo hi : Option Int) : List α := (xs.drop (HT.sIx xs.length 0 lo)).take (HT.sIx xs.length xs.length hi - HT.sIx xs.length 0 lo)
def pSl : OpSl := fun a lo hi A => match a with
  | .tup xs => some (.tup (cutA xs lo hi), A)
  | .str z => if z.length ≤ sizeLine then some (.str (cutS z lo hi), A) else none
  | .kl xs => some (.ref A.length, A ++ [.lst (cutA xs lo hi) false])
  | .ref n => (match A[n]? with
    | some (.lst xs _) => some (.ref A.length, A ++ [.lst (cutA xs lo hi) false])
    | _ => none)
  | _ => none
theorem cutA_rv {xs : List AV} {ys : List V} (r : RVs E ρ H xs ys) (lo hi : Option Int) : RVs E ρ H (cutA xs lo hi) (cutV ys lo hi) := by
  unfold cutA cutV
  rw [r.length]
  exact (r.drop _).take _
theorem cutA_all {α : Type} {xs : List α} {lo hi : Option Int} (h : HT.sIx xs.length 0 lo = 0 ∧ HT.sIx xs.length xs.length hi = xs.length) : cutA xs lo hi = xs := by
  unfold cutA
  rw [h.1, h.2]
  simp
theorem slr_all (hK : X.K = E.K) : SlR X (fun x lo hi H Q => ∃ ρ A a, RH E ρ H A ∧ RV E ρ H a x ∧ PostO E (pSl a lo hi A) ρ H Q) := by
  intro pins s σ H x v vl vu lo hi sl Q I rx hs pl pu h
  obtain ⟨ρ, A, a, hh, ha, q⟩ := h
  unfold pSl at q
  cases a with
  | tup xs =>
    obtain ⟨p, ys, rfl, st, r⟩ := ha
    refine sl_tupA pins s σ H _ v vl vu lo hi sl Q I rx hs pl pu ⟨p, ys, rfl, .inl (.inl st), fun e => ?_, fun _ t ht => ?_⟩
    · rw [r.length] at e
      have q : PostO E (some (.tup (cutA xs lo hi), A)) ρ H Q := q
      rw [cutA_all e] at q
      exact q.pure hh ⟨p, ys, rfl, st, r⟩
    · obtain ⟨z1, z2, z3⟩ := newTup hh ht (cutA_rv r lo hi)
      exact q _ _ _ z2 z1 z3
  | str z =>
    cases ha
    dsimp only at q
    split at q
    · exact sl_str pins s σ H _ v vl vu lo hi sl Q I rx hs pl pu ⟨z, rfl, by assumption, q.pure hh rfl⟩
    · exact q.elim
  | kl xs =>
    obtain ⟨p, ys, rfl, st, r⟩ := ha
    refine sl_list pins s σ H _ v vl vu lo hi sl Q I rx hs pl pu ⟨p, ys, rfl, hK ▸ st.sq, fun t ht => ?_⟩
    obtain ⟨z1, z2, z3⟩ := newLst hh ht (cutA_rv r lo hi)
    exact q _ _ _ z2 z1 z3
  | ref n =>
    dsimp only at q
    cases e1 : A[n]? with
    | none => rw [e1] at q; exact q.elim
    | some o => cases o with
      | lst xs ro =>
        rw [e1] at q
        obtain ⟨p, ys, p1, r, w0, _⟩ := hh.lst e1
        have ex := RVref ha p1
        subst ex
        refine sl_list pins s σ H _ v vl vu lo hi sl Q I rx hs pl pu ⟨p, ys, rfl, .inl w0, fun t ht => ?_⟩
        obtain ⟨z1, z2, z3⟩ := newLst hh ht (cutA_rv r lo hi)
        exact q _ _ _ z2 z1 z3
      | _ => rw [e1] at q; exact q.elim
  | _ => exact q.elim
/-- a part of a slice -/
abbrev DenO := Den (Option Int)
def relO (_ : List Addr) (_ : Hp) (a b : Option Int) : Prop := b = a
def dNoPart : DenO := fun _ A => .ok none A
def dPart (f : Den AV) : DenO := fun σ A => (f σ A).bind fun v A1 => match v with
  | .int i => .ok (some i) A1
  | _ => .bad
abbrev SO (E : En) (X : Cx) (W : WX) (e : Option Expr) (f : DenO) : Prop := PO X e (rd E relO f W)
theorem PO.imp {X : Cx} {e : Option Expr} {t t' : TO} (h : PO X e t) (k : ∀ σ H Q, t' σ H Q → t σ H Q) : PO X e t' := ⟨fun pins s σ H Q I q => h.run pins s σ H Q I (k σ H Q q)⟩
theorem so_none : SO E X W none dNoPart := PO.imp po_none fun σ H Q ⟨ρ, σa, A, hs, hh, q⟩ => q ρ H none (Ext.refl _ _) hh rfl
theorem so_some {e : Expr} {f : Den AV} (h : SE E X W e f) : SO E X W (some e) (dPart f) := by
  refine PO.imp (po_some h) fun σ H Q h => ?_
  refine rd_step h fun x' H1 ρ σa A x hs hh hx q => ?_
  cases x with
  | int i =>
    cases hx
    exact ⟨i, rfl, q ρ H1 _ (Ext.refl _ _) hh rfl⟩
  | _ => exact q.elim
def dSl (f : Den AV) (fl fh : DenO) : Den AV := fun σ A => (f σ A).bind fun v A1 => (fl σ A1).bind fun lo A2 => (fh σ A2).bind fun hi A3 => ofO (pSl v lo hi A3)
theorem se_sl {e : Expr} {lo hi : Option Expr} {f : Den AV} {fl fh : DenO} {p2 pos : Pos} (hK : X.K = E.K) (he : SE E X W e f) (hl : SO E X W lo fl) (hu : SO E X W hi fh) : SE E X W (.Subscript e (.Slice lo hi none p2) pos) (dSl f fl fh) := by
  refine PE.imp (pe_slice (slr_all (E := E) hK) he hl hu) fun σ H Q h => ?_
  refine rd_step h fun x' H1 ρ σa A x hs hh hx q => ?_
  refine ⟨ρ, σa, A, hs, hh, ?_⟩
  cases e1 : fl σa A with
  | err c i A2 => rw [e1] at q; exact q
  | bad => rw [e1] at q; exact q
  | ok lo A2 =>
    rw [e1] at q
    intro ρ2 H2 lo' xt rh rl
    cases rl
    refine ⟨ρ2, σa, A2, hs.ext xt, rh, ?_⟩
    have q : Post E (RV E) ((fh σa A2).bind fun hi A3 => ofO (pSl x lo hi A3)) ρ H1 Q fun c d H' => W c d σ H' := q
    cases e2 : fh σa A2 with
    | err c i A3 => rw [e2] at q; exact q.ext xt
    | bad => rw [e2] at q; exact q
    | ok hi A3 =>
      rw [e2] at q
      intro ρ3 H3 hi' xt3 rh3 rl3
      cases rl3
      exact ⟨ρ3, A3, x, rh3, (hx.ext xt).ext xt3, PostO.of_post (q.ext (xt.trans xt3))⟩
/-! ### in -/
def inB (a b : AV) (A : AHp) : Option Bool := match b with
  | .str z => (match a with
    | .str w => if w.cps.size = 1 then some (decide (w.cps.toList.headD 0 ∈ z.cps.toList)) else some (!(Builtin.Str.occurrences z w 0 z.length 1).isEmpty)
    | _ => none)
  | .tup ys => if flatA a && ys.all flatA then some (ys.any fun y => eqFlat y a) else none
  | .ktup ys => if flatA a && ys.all flatA then some (ys.any fun y => eqFlat y a) else none
  | .ref n => (match A[n]? with
    | some (.dict kvs lk) => (match keyOf a with
      | some y => if kindA kvs y && !(lk && kvs.isEmpty) then some (getK kvs y).isSome else none
      | none => none)
    | some (.lst ys _) => if flatA a && ys.all flatA then some (ys.any fun y => eqFlat y a) else (match toD 40 A a, toDs 40 A ys with
      | some d, some ds => if SeqAt.shaped d && SeqAt.shaped (.list ds) then some (ds.any fun z => PyData.eqv z d) else none
      | _, _ => none)
    | _ => none)
  | _ => none
where
  flatA : AV → Bool
    | .non => true
    | .bl _ => true
    | .int _ => true
    | .str _ => true
    | _ => false
  eqFlat : AV → AV → Bool
    | .non, .non => true
    | .bl a, .bl b => a == b
    | .bl a, .int b => (if a then 1 else 0) == b
    | .int a, .bl b => a == (if b then 1 else 0)
    | .int a, .int b => a == b
    | .str a, .str b => a == b
    | _, _ => false
def pIn : Op2 := fun a b A => (inB a b A).map fun r => (.bl r, A)
def pNotIn : Op2 := fun a b A => (inB a b A).map fun r => (.bl (!r), A)
theorem flat_rv {a : AV} {x : V} (h : inB.flatA a = true) (r : RV E ρ H a x) : flatV x = true := by
  cases a <;> first | (cases h; done) | (cases r; rfl)
theorem flats_rv : ∀ {as : List AV} {xs : List V}, as.all inB.flatA = true → RVs E ρ H as xs → xs.all flatV = true
  | [], _, _, r => by cases r; rfl
  | a :: as, _, h, r => by
    obtain ⟨y, ys, rfl, r1, r2⟩ := r
    rw [List.all_cons, Bool.and_eq_true] at h
    rw [List.all_cons, flat_rv h.1 r1, flats_rv h.2 r2]
    rfl
theorem eqFlat_rv {a b : AV} {x y : V} (ha : inB.flatA a = true) (hb : inB.flatA b = true) (r1 : RV E ρ H a x) (r2 : RV E ρ H b y) : eqV x y = inB.eqFlat a b := by
  cases a <;> first | (cases ha; done) | (cases b <;> first | (cases hb; done) | (cases r1; cases r2; rfl))
theorem inV_rv {a : AV} {x : V} (ha : inB.flatA a = true) (r1 : RV E ρ H a x) : ∀ {bs : List AV} {ys : List V}, bs.all inB.flatA = true → RVs E ρ H bs ys → inV x ys = bs.any fun y => inB.eqFlat y a
  | [], _, _, r => by cases r; rfl
  | b :: bs, _, h, r => by
    obtain ⟨y, ys, rfl, r2, r3⟩ := r
    rw [List.all_cons, Bool.and_eq_true] at h
    have ih := inV_rv ha r1 h.2 r3
    unfold inV at ih ⊢
    rw [List.any_cons, List.any_cons, ih, eqFlat_rv h.1 ha r2 r1]
theorem kind_none {kvs : List (AK × AV)} {kv' : List (Key × V)} (r : RK E ρ H kvs kv') {ks : List Key} (h : kindA kvs (.t ks) = true) : kvs = [] := by
  cases kvs with
  | nil => rfl
  | cons p l =>
    obtain ⟨k', v', r', rfl, e2, _⟩ := r
    unfold kindA at h
    rw [List.all_cons] at h
    obtain ⟨p1, p2⟩ := p
    cases e2
    cases h
theorem kind_noneT {kvs : List (AK × AV)} {kv' : List (List Key × V)} (r : RT E ρ H kvs kv') {k1 : Key} (h : kindA kvs (.k k1) = true) : kvs = [] := by
  cases kvs with
  | nil => rfl
  | cons p l =>
    obtain ⟨k', v', r', rfl, e2, _⟩ := r
    unfold kindA at h
    rw [List.all_cons] at h
    obtain ⟨p1, p2⟩ := p
    cases e2
    cases h
/-- a dict seen as of the key's kind (an empty one may be turned) -/
def AsK (E : En) (ρ : List Addr) (H : Hp) (kvs : List (AK × AV)) (ky : AK) (a : Addr) (lk : Bool) : Prop := match ky with
  | .k _ => ∃ kv', RK E ρ H kvs kv' ∧ AtD H a lk (.dK kv')
  | .t _ => ∃ kv', RT E ρ H kvs kv' ∧ AtD H a lk (.dT kv')
theorem RO_nil_k {a : Addr} (h : H a = some (.dK [])) : RO E ρ H (.dict [] false) a := .inl ⟨[], rfl, h⟩
theorem RO_nil_t {a : Addr} (h : H a = some (.dT [])) : RO E ρ H (.dict [] false) a := .inr ⟨[], rfl, h⟩
theorem set_same {α : Type} {A : List α} {n : Nat} {o : α} (e : A[n]? = some o) : A.set n o = A := by
  apply List.ext_getElem?
  intro i
  by_cases h : i = n
  · subst h
    rw [List.getElem?_set_self (List.getElem?_eq_some_iff.mp e).1, e]
  · rw [List.getElem?_set_ne (Ne.symm h)]
theorem toKind {A : AHp} {pins : List (Addr × Obj)} {σ : St} {s : Shared} (I : Inv X pins σ H s) (hh : RH E ρ H A) {n : Nat} {kvs : List (AK × AV)} {lk : Bool} (e : A[n]? = some (.dict kvs lk)) (ky : AK) (hk : kindA kvs ky = true) (hl : lk = true → kvs ≠ []) :
    ∃ H' a, ρ[n]? = some a ∧ Inv X pins σ H' s ∧ RH E ρ H' A ∧ Ext ρ H ρ H' ∧ AsK E ρ H' kvs ky a lk := by
  obtain ⟨a, ea, q⟩ := hh.get e
  cases ky with
  | k k1 =>
    rcases q with ⟨kv', r1, w⟩ | ⟨kv', r1, w⟩
    · exact ⟨H, a, ea, I, hh, Ext.refl _ _, kv', r1, w⟩
    · have e0 := kind_noneT r1 hk
      subst e0
      cases r1
      cases lk with
      | true => exact absurd rfl (hl rfl)
      | false =>
        have w : H a = some (.dT []) := w
        obtain ⟨z1, z2⟩ := hh.write (H' := upd H a (.dK [])) (o' := .dict [] false) e ea (fun b hb => upd_ne hb) (fun _ => RO_nil_k upd_same)
        have ez : A.set n (.dict [] false) = A := by
          exact set_same e
        rw [ez] at z1
        exact ⟨_, a, ea, Inv.dt_dk I w, z1, z2, [], rfl, upd_same⟩
  | t ks =>
    rcases q with ⟨kv', r1, w⟩ | ⟨kv', r1, w⟩
    · have e0 := kind_none r1 hk
      subst e0
      cases r1
      cases lk with
      | true => exact absurd rfl (hl rfl)
      | false =>
        have w : H a = some (.dK []) := w
        obtain ⟨z1, z2⟩ := hh.write (H' := upd H a (.dT [])) (o' := .dict [] false) e ea (fun b hb => upd_ne hb) (fun _ => RO_nil_t upd_same)
        have ez : A.set n (.dict [] false) = A := by
          exact set_same e
        rw [ez] at z1
        exact ⟨_, a, ea, Inv.dk_dt I w, z1, z2, [], rfl, upd_same⟩
    · exact ⟨H, a, ea, I, hh, Ext.refl _ _, kv', r1, w⟩
/-- what it holds at a key, there or not -/
theorem AsK.get {kvs : List (AK × AV)} {ky : AK} {a : Addr} {lk : Bool} (h : AsK E ρ H kvs ky a lk) {b : AV} {y : V} (ek : keyOf b = some ky) (r : RV E ρ H b y) :
    ∃ o, DGet H a y o ∧ (getK kvs ky = none → o = none) ∧ ∀ v, getK kvs ky = some v → ∃ x, o = some x ∧ RV E ρ H v x := by
  cases ky with
  | k k1 =>
    obtain ⟨kv', r1, w⟩ := h
    exact ⟨_, .inl ⟨kv', k1, AtD.rd w, keyOf_k ek r, rfl⟩, (rk_get r1 k1).1, (rk_get r1 k1).2⟩
  | t ks =>
    obtain ⟨kv', r1, w⟩ := h
    obtain ⟨b', ey, eb⟩ := keyOf_t ek r
    exact ⟨_, .inr ⟨kv', ks, b', AtD.rd w, ey, eb, rfl⟩, (rt_get r1 ks).1, (rt_get r1 ks).2⟩
theorem some_of_get {o : Option V} {r : Option AV} (h1 : r = none → o = none) (h2 : ∀ v, r = some v → ∃ x, o = some x ∧ RV E ρ H v x) : o.isSome = r.isSome := by
  cases r with
  | none => rw [h1 rfl]; rfl
  | some v =>
    obtain ⟨x, e, _⟩ := h2 v rfl
    rw [e]; rfl
theorem os_inG (hK : X.K = E.K) (hu1 : X.A.units + 1 < cLine) (hu : X.A.units + 65 < cLine) {f : Value → Value → Sem Value} {p : Op2} (neg : Bool) (hp : ∀ a b A, p a b A = (inB a b A).map fun r => (.bl (neg ^^ r), A))
    (h1 : OpR X f (fun x y H Q => ∃ (c : Nat) (z : Str), x = .str ⟨#[c]⟩ ∧ y = .str z ∧ Q (.bl (neg ^^ decide (c ∈ z.cps.toList))) H))
    (h2 : OpR X f (fun x y H Q => ∃ i j, x = .str i ∧ y = .str j ∧ Q (.bl (neg ^^ !(Builtin.Str.occurrences j i 0 j.length 1).isEmpty)) H))
    (h3 : OpR X f (fun x y H Q => ∃ p xs, y = .ref p ∧ (SqL X.K H p xs ∨ SqT X.K H p xs) ∧ flatV x = true ∧ xs.all flatV = true ∧ Q (.bl (neg ^^ inV x xs)) H))
    (h4 : OpR X f (fun x y H Q => ∃ d ds, Dp X.K H x d ∧ Dp X.K H y (.list ds) ∧ SeqAt.shaped d = true ∧ SeqAt.shaped (.list ds) = true ∧ Q (.bl (neg ^^ ds.any fun z => PyData.eqv z d)) H))
    (h5 : ∀ (pins : List (Addr × Obj)) (s : Shared) (σ : St) (H : Hp) (a : Addr) (y : V) (u : Value) (o : Option V) (Q : VK), Inv X pins σ H s → RelV y u → DGet H a y o → Q (.bl (neg ^^ o.isSome)) H → wpAny (model X.prog X.w) X.A (f u (.ref a)) (EP X pins σ Q) X.xe s) : OpS E X f p := by
  intro pins s σ H x y v u Q I rx ry h
  obtain ⟨ρ, A, a, b, hh, ha, hb, q⟩ := h
  rw [hp] at q
  unfold inB at q
  cases b with
  | str z => cases a with
    | str w =>
      cases ha; cases hb
      dsimp only at q
      split at q
      · rename_i hw
        obtain ⟨c, ec⟩ : ∃ c, w = ⟨#[c]⟩ := by
          obtain ⟨arr⟩ := w
          obtain ⟨l⟩ := arr
          match l, hw with
          | [c], _ => exact ⟨c, rfl⟩
        subst ec
        exact h1 pins s σ H _ _ v u Q I rx ry ⟨c, z, rfl, rfl, q.pure hh rfl⟩
      · exact h2 pins s σ H _ _ v u Q I rx ry ⟨w, z, rfl, rfl, q.pure hh rfl⟩
    | _ => exact q.elim
  | tup ys =>
    dsimp only at q
    split at q
    · rename_i hf
      rw [Bool.and_eq_true] at hf
      obtain ⟨p1, zs, rfl, st, r⟩ := hb
      refine h3 pins s σ H _ _ v u Q I rx ry ⟨p1, zs, rfl, .inr (.inl (.inl st)), flat_rv hf.1 ha, flats_rv hf.2 r, ?_⟩
      rw [inV_rv hf.1 ha hf.2 r]
      exact q.pure hh rfl
    · exact q.elim
  | ktup ys =>
    dsimp only at q
    split at q
    · rename_i hf
      rw [Bool.and_eq_true] at hf
      obtain ⟨p1, zs, rfl, st, r⟩ := hb
      refine h3 pins s σ H _ _ v u Q I rx ry ⟨p1, zs, rfl, .inr (hK ▸ st), flat_rv hf.1 ha, flats_rv hf.2 r, ?_⟩
      rw [inV_rv hf.1 ha hf.2 r]
      exact q.pure hh rfl
    · exact q.elim
  | ref n =>
    dsimp only at q
    cases e1 : A[n]? with
    | none => rw [e1] at q; exact q.elim
    | some o => cases o with
      | lst ys ro =>
        rw [e1] at q
        dsimp only at q
        obtain ⟨p1, zs, ep, r, w0, _⟩ := hh.lst e1
        have ex := RVref hb ep
        split at q
        · rename_i hf
          rw [Bool.and_eq_true] at hf
          subst ex
          refine h3 pins s σ H _ _ v u Q I rx ry ⟨p1, zs, rfl, .inl (.inl w0), flat_rv hf.1 ha, flats_rv hf.2 r, ?_⟩
          rw [inV_rv hf.1 ha hf.2 r]
          exact q.pure hh rfl
        · cases e2 : toD 40 A a with
          | none => rw [e2] at q; exact q.elim
          | some d => cases e3 : toDs 40 A ys with
            | none => rw [e2, e3] at q; exact q.elim
            | some ds =>
              rw [e2, e3] at q
              dsimp only at q
              split at q
              · rename_i hz
                rw [Bool.and_eq_true] at hz
                subst ex
                exact h4 pins s σ H _ _ v u Q I rx ry ⟨d, ds, (toD_ok hK hh 40).1 a x d e2 ha, .lst (.inl w0) ((toD_ok hK hh 40).2 ys zs ds e3 r), hz.1, hz.2, q.pure hh rfl⟩
              · exact q.elim
      | dict kvs lk =>
        rw [e1] at q
        dsimp only at q
        cases ek : keyOf a with
        | none => rw [ek] at q; exact q.elim
        | some ky =>
          rw [ek] at q
          dsimp only at q
          split at q
          · rename_i hk
            rw [Bool.and_eq_true] at hk
            obtain ⟨H1, a1, ea, I1, hh1, xt, as⟩ := toKind I hh e1 ky hk.1 (fun hl => by
              have z := hk.2
              rw [hl] at z
              intro e0
              subst e0
              cases z)
            have ex := RVref hb ea
            subst ex
            obtain rfl : u = Value.ref a1 := ry
            obtain ⟨o, g, g1, g2⟩ := as.get ek (ha.ext xt)
            refine h5 pins s σ H1 a1 x v o Q I1 rx g ?_
            rw [some_of_get g1 g2]
            have q2 : PostO E (some (.bl (neg ^^ (getK kvs ky).isSome), A)) ρ H Q := q
            exact q2 ρ H1 _ xt hh1 rfl
          · exact q.elim
      | ins cc fs => rw [e1] at q; exact q.elim
      | dn _ => rw [e1] at q; exact q.elim
  | _ => exact q.elim
theorem os_in (c : Ctx E k X W) : OpS E X (compareOp .In) pIn := by
  have hu : X.A.units + 65 < cLine := by have := c.room.un; omega
  refine os_inG c.hK c.hu1 hu false (fun a b A => by unfold pIn; simp) ?_ ?_ ?_ ?_ ?_
  · exact fun pins s σ H x y v u Q I rx ry h => op_in_sign pins s σ H x y v u Q I rx ry (by simpa using h)
  · exact fun pins s σ H x y v u Q I rx ry h => op_in_str pins s σ H x y v u Q I rx ry (by simpa using h)
  · exact fun pins s σ H x y v u Q I rx ry h => op_in_seq pins s σ H x y v u Q I rx ry (by simpa [rIn] using h)
  · exact fun pins s σ H x y v u Q I rx ry h => op_inD hu pins s σ H x y v u Q I rx ry (by simpa [rInD] using h)
  · intro pins s σ H a y u o Q I ry g q
    exact d_in c.hu1 I g ry fun s' I' => ⟨.bl o.isSome, H, I', rfl, by simpa using q⟩
theorem os_notin (c : Ctx E k X W) : OpS E X (compareOp .NotIn) pNotIn := by
  have hu : X.A.units + 65 < cLine := by have := c.room.un; omega
  refine os_inG c.hK c.hu1 hu true (fun a b A => by unfold pNotIn; simp) ?_ ?_ ?_ ?_ ?_
  · exact fun pins s σ H x y v u Q I rx ry h => op_notIn_sign pins s σ H x y v u Q I rx ry (by simpa using h)
  · exact fun pins s σ H x y v u Q I rx ry h => op_notIn_str pins s σ H x y v u Q I rx ry (by simpa using h)
  · exact fun pins s σ H x y v u Q I rx ry h => op_notIn_seq pins s σ H x y v u Q I rx ry (by simpa [rIn] using h)
  · exact fun pins s σ H x y v u Q I rx ry h => op_notInD hu pins s σ H x y v u Q I rx ry (by simpa [rNotInD] using h)
  · intro pins s σ H a y u o Q I ry g q
    exact d_notIn c.hu1 I g ry fun s' I' => ⟨.bl (!o.isSome), H, I', rfl, by simpa using q⟩
end
end Ev
end
section
/-! Ev, sixth part: built-in functions, methods of built-in types, dicts made and stored. -/
namespace Ev
open PySem PySem.Spec L2
set_option autoImplicit false
section
variable {E : En} {X : Cx} {W : WX} {k : Nat} {ρ : List Addr} {H : Hp}
theorem rvs1 {a : AV} {xs : List V} (r : RVs E ρ H [a] xs) : ∃ x, xs = [x] ∧ RV E ρ H a x := by
  obtain ⟨y, ys, rfl, r1, r2⟩ := r
  cases r2
  exact ⟨y, rfl, r1⟩
theorem rvs2 {a b : AV} {xs : List V} (r : RVs E ρ H [a, b] xs) : ∃ x y, xs = [x, y] ∧ RV E ρ H a x ∧ RV E ρ H b y := by
  obtain ⟨y, ys, rfl, r1, r2⟩ := r
  obtain ⟨x, rfl, r3⟩ := rvs1 r2
  exact ⟨y, x, rfl, r1, r3⟩
theorem rvs3 {a b c : AV} {xs : List V} (r : RVs E ρ H [a, b, c] xs) : ∃ x y z, xs = [x, y, z] ∧ RV E ρ H a x ∧ RV E ρ H b y ∧ RV E ρ H c z := by
  obtain ⟨y, ys, rfl, r1, r2⟩ := r
  obtain ⟨x, z, rfl, r3, r4⟩ := rvs2 r2
  exact ⟨y, x, z, rfl, r1, r3, r4⟩
/-! ### len -/
def fLen : OpN := fun as A => match as with
  | [.str z] => if z.length ≤ sizeLine then some (.int z.length, A) else none
  | [.tup xs] => some (.int xs.length, A)
  | [.kl xs] => some (.int xs.length, A)
  | [.ref n] => (match A[n]? with
    | some (.lst xs _) => some (.int xs.length, A)
    | some (.dict kvs false) => some (.int kvs.length, A)
    | _ => none)
  | _ => none
theorem rk_len : ∀ {l : List (AK × AV)} {m : List (Key × V)}, RK E ρ H l m → m.length = l.length
  | [], _, r => by cases r; rfl
  | (a, v) :: l, _, r => by
    obtain ⟨k', v', r', rfl, _, _, h2⟩ := r
    rw [List.length_cons, List.length_cons, rk_len h2]
theorem rt_len : ∀ {l : List (AK × AV)} {m : List (List Key × V)}, RT E ρ H l m → m.length = l.length
  | [], _, r => by cases r; rfl
  | (a, v) :: l, _, r => by
    obtain ⟨k', v', r', rfl, _, _, h2⟩ := r
    rw [List.length_cons, List.length_cons, rt_len h2]
theorem cs_len (c : Ctx E k X W) : CallS E X (.builtin "len") fLen := by
  intro pins s σ H xs us Q I rv h
  obtain ⟨ρ, A, as, hh, r, q⟩ := h
  unfold fLen at q
  split at q
  · obtain ⟨x, rfl, r1⟩ := rvs1 r
    cases r1
    split at q
    · exact call_len_str pins s σ H _ us Q I rv ⟨_, rfl, by assumption, q.pure hh rfl⟩
    · exact q.elim
  · obtain ⟨x, rfl, a, ys, rfl, st, r1⟩ := rvs1 r
    refine call_len_seq pins s σ H _ us Q I rv ⟨a, ys, rfl, .inr (.inl (.inl st)), ?_⟩
    rw [r1.length]
    exact q.pure hh rfl
  · obtain ⟨x, rfl, a, ys, rfl, st, r1⟩ := rvs1 r
    refine call_len_seq pins s σ H _ us Q I rv ⟨a, ys, rfl, .inl (c.hK ▸ st.sq), ?_⟩
    rw [r1.length]
    exact q.pure hh rfl
  · obtain ⟨x, rfl, r1⟩ := rvs1 r
    rename_i n
    cases e1 : A[n]? with
    | none => rw [e1] at q; exact q.elim
    | some o => cases o with
      | lst xs ro =>
        rw [e1] at q
        obtain ⟨p, ys, p1, r2, w0, _⟩ := hh.lst e1
        have ex := RVref r1 p1
        subst ex
        refine call_len_seq pins s σ H _ us Q I rv ⟨p, ys, rfl, .inl (.inl w0), ?_⟩
        rw [r2.length]
        exact q.pure hh rfl
      | dict kvs lk =>
        cases lk with
        | true => rw [e1] at q; exact q.elim
        | false =>
          rw [e1] at q
          obtain ⟨a, ea, w⟩ := hh.get e1
          have ex := RVref r1 ea
          subst ex
          rcases w with ⟨kv', r2, w⟩ | ⟨kv', r2, w⟩
          · refine call_lenD pins s σ H _ us Q I rv ⟨a, kv', rfl, w, ?_⟩
            rw [rk_len r2]
            exact q.pure hh rfl
          · refine call_len_dT pins s σ H _ us Q I rv ⟨a, kv', rfl, w, ?_⟩
            rw [rt_len r2]
            exact q.pure hh rfl
      | ins cc fs => rw [e1] at q; exact q.elim
      | dn _ => rw [e1] at q; exact q.elim
  · exact q.elim
/-! ### int, abs, max, min, str -/
def fInt : OpN := fun as A => match as with
  | [.int i] => some (.int i, A)
  | [.bl b] => some (.int (if b = true then 1 else 0), A)
  | _ => none
theorem cs_int : CallS E X (.type "int") fInt := by
  intro pins s σ H xs us Q I rv h
  obtain ⟨ρ, A, as, hh, r, q⟩ := h
  unfold fInt at q
  split at q
  · obtain ⟨x, rfl, r1⟩ := rvs1 r
    cases r1
    exact call_int1 pins s σ H _ us Q I rv (.inl ⟨_, rfl, q.pure hh rfl⟩)
  · obtain ⟨x, rfl, r1⟩ := rvs1 r
    cases r1
    exact call_int1 pins s σ H _ us Q I rv (.inr ⟨_, rfl, q.pure hh rfl⟩)
  · exact q.elim
def fAbs : OpN := fun as A => match as with
  | [.int i] => some (.int (if i < 0 then -i else i), A)
  | _ => none
theorem cs_abs : CallS E X (.builtin "abs") fAbs := by
  intro pins s σ H xs us Q I rv h
  obtain ⟨ρ, A, as, hh, r, q⟩ := h
  unfold fAbs at q
  split at q
  · obtain ⟨x, rfl, r1⟩ := rvs1 r
    cases r1
    exact call_abs pins s σ H _ us Q I rv ⟨_, rfl, q.pure hh rfl⟩
  · exact q.elim
def fMax2 : OpN := fun as A => match as with
  | [.int i, .int j] => some (.int (if j > i then j else i), A)
  | _ => none
def fMin2 : OpN := fun as A => match as with
  | [.int i, .int j] => some (.int (if j < i then j else i), A)
  | _ => none
theorem cs_max2 (c : Ctx E k X W) : CallS E X (.builtin "max") fMax2 := by
  intro pins s σ H xs us Q I rv h
  obtain ⟨ρ, A, as, hh, r, q⟩ := h
  unfold fMax2 at q
  split at q
  · obtain ⟨x, y, rfl, r1, r2⟩ := rvs2 r
    cases r1; cases r2
    exact call_max2 c.calm pins s σ H _ us Q I rv ⟨_, _, rfl, q.pure hh rfl⟩
  · exact q.elim
theorem cs_min2 (c : Ctx E k X W) : CallS E X (.builtin "min") fMin2 := by
  intro pins s σ H xs us Q I rv h
  obtain ⟨ρ, A, as, hh, r, q⟩ := h
  unfold fMin2 at q
  split at q
  · obtain ⟨x, y, rfl, r1, r2⟩ := rvs2 r
    cases r1; cases r2
    exact call_min2 c.calm pins s σ H _ us Q I rv ⟨_, _, rfl, q.pure hh rfl⟩
  · exact q.elim
def fStr : OpN := fun as A => match as with
  | [.int i] => if i.natAbs.log2 < 1920 then some (.str (toString i : String), A) else none
  | _ => none
theorem cs_str : CallS E X (.type "str") fStr := by
  intro pins s σ H xs us Q I rv h
  obtain ⟨ρ, A, as, hh, r, q⟩ := h
  unfold fStr at q
  split at q
  · obtain ⟨x, rfl, r1⟩ := rvs1 r
    cases r1
    split at q
    · exact call_str_int pins s σ H _ us Q I rv ⟨_, rfl, by assumption, q.pure hh rfl⟩
    · exact q.elim
  · exact q.elim
/-! ### list(..), tuple(..) of lists and tuples -/
def fList : OpN := fun as A => match as with
  | [.tup xs] => some (.ref A.length, A ++ [.lst xs false])
  | [.kl xs] => some (.ref A.length, A ++ [.lst xs false])
  | [.ref n] => (match A[n]? with
    | some (.lst xs _) => some (.ref A.length, A ++ [.lst xs false])
    | some (.dict kvs lk) => if kvs.all (fun p => match p.1 with
        | .k _ => true
        | .t _ => false) then some (.ref A.length, A ++ [.lst (kvs.map fun p => keyV p.1) false]) else none
    | _ => none)
  | _ => none
theorem rk_keys : ∀ {l : List (AK × AV)} {m : List (Key × V)}, RK E ρ H l m → RVs E ρ H (l.map fun p => keyV p.1) (m.map fun p => kV p.1)
  | [], _, r => by cases r; rfl
  | (a, v) :: l, _, r => by
    obtain ⟨k', v', r', rfl, e, _, h2⟩ := r
    cases e
    exact ⟨_, _, rfl, key1V_rv k', rk_keys h2⟩
theorem cs_list (c : Ctx E k X W) : CallS E X (.type "list") fList := by
  intro pins s σ H xs us Q I rv h
  obtain ⟨ρ, A, as, hh, r, q⟩ := h
  unfold fList at q
  split at q
  · obtain ⟨x, rfl, a, ys, rfl, st, r1⟩ := rvs1 r
    refine call_list_of pins s σ H _ us Q I rv ⟨a, ys, rfl, .inr (.inl (.inl st)), fun p hp => ?_⟩
    obtain ⟨z1, z2, z3⟩ := newLst hh hp r1
    exact q _ _ _ z2 z1 z3
  · obtain ⟨x, rfl, a, ys, rfl, st, r1⟩ := rvs1 r
    refine call_list_of pins s σ H _ us Q I rv ⟨a, ys, rfl, .inl (c.hK ▸ st.sq), fun p hp => ?_⟩
    obtain ⟨z1, z2, z3⟩ := newLst hh hp r1
    exact q _ _ _ z2 z1 z3
  · obtain ⟨x, rfl, r1⟩ := rvs1 r
    rename_i n
    cases e1 : A[n]? with
    | none => rw [e1] at q; exact q.elim
    | some o => cases o with
      | lst xs ro =>
        rw [e1] at q
        obtain ⟨p0, ys, p1, r2, w0, _⟩ := hh.lst e1
        have ex := RVref r1 p1
        subst ex
        refine call_list_of pins s σ H _ us Q I rv ⟨p0, ys, rfl, .inl (.inl w0), fun p hp => ?_⟩
        obtain ⟨z1, z2, z3⟩ := newLst hh hp r2
        exact q _ _ _ z2 z1 z3
      | dict kvs lk =>
        rw [e1] at q
        dsimp only at q
        split at q
        · rename_i hk
          obtain ⟨a, ea, w⟩ := hh.get e1
          have ex := RVref r1 ea
          subst ex
          rcases w with ⟨kv', r2, w⟩ | ⟨kv', r2, w⟩
          · refine call_listD c.calm pins s σ H _ us Q I rv ⟨a, kv', rfl, AtD.rd w, fun p hp => ?_⟩
            obtain ⟨z1, z2, z3⟩ := newLst hh hp (rk_keys r2)
            exact q _ _ _ z2 z1 z3
          · have e0 : kvs = [] := by
              cases kvs with
              | nil => rfl
              | cons p l =>
                obtain ⟨k', v', r', _, e, _⟩ := r2
                obtain ⟨p1, p2⟩ := p
                cases e
                rw [List.all_cons] at hk
                cases hk
            subst e0
            cases r2
            refine call_list_dT c.calm pins s σ H _ us Q I rv ⟨a, [], rfl, AtD.rd w, fun p bs hp hb => ?_⟩
            obtain rfl : bs = [] := by cases hb; rfl
            obtain ⟨z1, z2, z3⟩ := newLst hh hp (show RVs E ρ H [] [] from rfl)
            exact q _ _ _ z2 z1 z3
        · exact q.elim
      | ins cc fs => rw [e1] at q; exact q.elim
      | dn _ => rw [e1] at q; exact q.elim
  · exact q.elim
def fTuple : OpN := fun as A => match as with
  | [.tup xs] => some (.tup xs, A)
  | [.ref n] => (match A[n]? with
    | some (.lst xs _) => some (.tup xs, A)
    | _ => none)
  | _ => none
theorem cs_tuple : CallS E X (.type "tuple") fTuple := by
  intro pins s σ H xs us Q I rv h
  obtain ⟨ρ, A, as, hh, r, q⟩ := h
  unfold fTuple at q
  split at q
  · obtain ⟨x, rfl, a, ys, rfl, st, r1⟩ := rvs1 r
    exact call_tuple_of pins s σ H _ us Q I rv ⟨a, ys, rfl, .inr ⟨.inl (.inl st), q.pure hh ⟨a, ys, rfl, st, r1⟩⟩⟩
  · obtain ⟨x, rfl, r1⟩ := rvs1 r
    rename_i n
    cases e1 : A[n]? with
    | none => rw [e1] at q; exact q.elim
    | some o => cases o with
      | lst xs ro =>
        rw [e1] at q
        obtain ⟨p0, ys, p1, r2, w0, _⟩ := hh.lst e1
        have ex := RVref r1 p1
        subst ex
        refine call_tuple_of pins s σ H _ us Q I rv ⟨p0, ys, rfl, .inl ⟨.inl w0, fun p hp => ?_⟩⟩
        obtain ⟨z1, z2, z3⟩ := newTup hh hp r2
        exact q _ _ _ z2 z1 z3
      | _ => rw [e1] at q; exact q.elim
  · exact q.elim
/-! ### all, any, sum of a list -/
def blsOf : List AV → Option (List Bool)
  | [] => some []
  | v :: vs => match v, blsOf vs with
    | .bl b, some bs => some (b :: bs)
    | _, _ => none
theorem bls_ok : ∀ {as : List AV} {xs : List V} {bs : List Bool}, blsOf as = some bs → RVs E ρ H as xs → xs = bs.map V.bl
  | [], _, _, e, r => by cases r; cases e; rfl
  | v :: vs, _, _, e, r => by
    obtain ⟨y, ys, rfl, r1, r2⟩ := r
    unfold blsOf at e
    cases v with
    | bl b =>
      cases e2 : blsOf vs with
      | none => rw [e2] at e; cases e
      | some l =>
        rw [e2] at e
        cases e
        cases r1
        rw [bls_ok e2 r2, List.map_cons]
    | _ => cases e
def fAll : OpN := fun as A => match as with
  | [.ref n] => (match lstAt A n with
    | some xs => (blsOf xs).map fun bs => (.bl (bs.all id), A)
    | none => none)
  | _ => none
def fAny : OpN := fun as A => match as with
  | [.ref n] => (match lstAt A n with
    | some xs => (blsOf xs).map fun bs => (.bl (bs.any id), A)
    | none => none)
  | _ => none
theorem lstAt_ok {A : AHp} (hh : RH E ρ H A) {n : Nat} {xs : List AV} (e : lstAt A n = some xs) {x : V} (r : RV E ρ H (.ref n) x) : ∃ a ys, x = .ref a ∧ RVs E ρ H xs ys ∧ Rd H a (.lst ys) := by
  unfold lstAt at e
  split at e
  · rename_i e1
    cases e
    obtain ⟨p0, ys, p1, r2, w0, _⟩ := hh.lst e1
    exact ⟨p0, ys, RVref r p1, r2, w0⟩
  · cases e
theorem cs_all (c : Ctx E k X W) : CallS E X (.builtin "all") fAll := by
  intro pins s σ H xs us Q I rv h
  obtain ⟨ρ, A, as, hh, r, q⟩ := h
  unfold fAll at q
  split at q
  · obtain ⟨x, rfl, r1⟩ := rvs1 r
    split at q
    · rename_i e1
      obtain ⟨a, ys, rfl, r2, w⟩ := lstAt_ok hh e1 r1
      cases e2 : blsOf _ with
      | none => rw [e2] at q; exact q.elim
      | some bs =>
        rw [e2] at q
        have e3 := bls_ok e2 r2
        subst e3
        exact cr_all c.calm pins s σ H _ us Q I rv ⟨a, bs, rfl, .inl w, q.pure hh rfl⟩
    · exact q.elim
  · exact q.elim
theorem cs_any (c : Ctx E k X W) : CallS E X (.builtin "any") fAny := by
  intro pins s σ H xs us Q I rv h
  obtain ⟨ρ, A, as, hh, r, q⟩ := h
  unfold fAny at q
  split at q
  · obtain ⟨x, rfl, r1⟩ := rvs1 r
    split at q
    · rename_i e1
      obtain ⟨a, ys, rfl, r2, w⟩ := lstAt_ok hh e1 r1
      cases e2 : blsOf _ with
      | none => rw [e2] at q; exact q.elim
      | some bs =>
        rw [e2] at q
        have e3 := bls_ok e2 r2
        subst e3
        exact cr_any c.calm pins s σ H _ us Q I rv ⟨a, bs, rfl, .inl w, q.pure hh rfl⟩
    · exact q.elim
  · exact q.elim
/-! ### isinstance -/
def tyA (v : AV) (A : AHp) : Option (Nat ⊕ String) := match v with
  | .non => some (.inr "NoneType")
  | .bl _ => some (.inr "bool")
  | .int _ => some (.inr "int")
  | .str _ => some (.inr "str")
  | .tup _ => some (.inr "tuple")
  | .ref n => (match A[n]? with
    | some (.lst _ _) => some (.inr "list")
    | some (.dict _ false) => some (.inr "dict")
    | some (.ins c _) => some (.inl c)
    | _ => none)
  | _ => none
def tyT (E : En) : Nat ⊕ String → Value
  | .inl c => .ref (E.cad c)
  | .inr n => .type n
theorem tyA_ok (hK : X.K = E.K) {A : AHp} (hh : RH E ρ H A) {v : AV} {x : V} (r : RV E ρ H v x) {t : Nat ⊕ String} (e : tyA v A = some t) : TyX X.K H x (tyT E t) ∧ ∀ c, t = .inl c → E.isC c = true := by
  cases v with
  | non => cases r; cases e; exact ⟨.base .non, fun _ z => nomatch z⟩
  | bl b => cases r; cases e; exact ⟨.base (.bl b), fun _ z => nomatch z⟩
  | int b => cases r; cases e; exact ⟨.base (.int b), fun _ z => nomatch z⟩
  | str b => cases r; cases e; exact ⟨.base (.str b), fun _ z => nomatch z⟩
  | tup xs =>
    obtain ⟨a, ys, rfl, st, _⟩ := r
    cases e
    exact ⟨.base (.tup st), fun _ z => nomatch z⟩
  | ref n =>
    unfold tyA at e
    dsimp only at e
    cases e1 : A[n]? with
    | none => rw [e1] at e; cases e
    | some o => cases o with
      | lst xs ro =>
        rw [e1] at e
        cases e
        obtain ⟨p0, ys, p1, r2, w0, _⟩ := hh.lst e1
        have ex := RVref r p1
        subst ex
        rcases w0 with w | ⟨ob, w⟩
        · exact ⟨.base (.lst w), fun _ z => nomatch z⟩
        · exact ⟨.base (.frz w), fun _ z => nomatch z⟩
      | dict kvs lk => cases lk with
        | true => rw [e1] at e; cases e
        | false =>
          rw [e1] at e
          cases e
          obtain ⟨a, ea, w⟩ := hh.get e1
          have ex := RVref r ea
          subst ex
          rcases w with ⟨kv', r2, w⟩ | ⟨kv', r2, w⟩
          · exact ⟨.base (.dK w), fun _ z => nomatch z⟩
          · exact ⟨.base (.dT w), fun _ z => nomatch z⟩
      | ins c fs =>
        rw [e1] at e
        cases e
        obtain ⟨a, ea, dx, fs', w, rf, hc, _⟩ := hh.get e1
        have ex := RVref r ea
        subst ex
        obtain ⟨i1, i2, i3, i4⟩ := E.insF c hc
        refine ⟨?_, fun c' z => by cases z; exact hc⟩
        rw [hK]
        exact .base (.ins w (E.clsOk c hc) i1 i2 i3 i4)
      | dn _ => rw [e1] at e; cases e
  | _ => cases e
/-- built-in types: the answer that the library computes -/
def bTys : List String := ["NoneType", "bool", "int", "str", "tuple", "list", "dict"]
def kitBi (t n : String) : Option Bool := if bTys.contains t && bTys.contains n then some (t == n || (t == "bool" && n == "int")) else none
theorem kitBi_all : bTys.all (fun t => bTys.all fun n => decide (L2.kitB t n = some (t == n || (t == "bool" && n == "int")))) = true := by decide +kernel
theorem kitBi_ok {t n : String} {b : Bool} (K : PySem.W.Frag) (e : kitBi t n = some b) : PySem.W.kitOne K (.type t) (.type n) = some b := by
  unfold kitBi at e
  split at e
  · rename_i h
    rw [Bool.and_eq_true, List.contains_iff_mem, List.contains_iff_mem] at h
    cases e
    have z := List.all_eq_true.mp kitBi_all t h.1
    have z2 := of_decide_eq_true (List.all_eq_true.mp z n h.2)
    exact kit_ty z2
  · cases e
def kitA (sub : Nat → Nat → Option Bool) (subB : Nat → String → Option Bool) (bsub : String → Nat → Option Bool) (t : Nat ⊕ String) (c : AV) : Option Bool := match t, c with
  | .inl a, .cls b => sub a b
  | .inl a, .ty n => subB a n
  | .inr m, .ty n => kitBi m n
  | .inr m, .cls b => bsub m b
  | _, _ => none
def kitAs (sub : Nat → Nat → Option Bool) (subB : Nat → String → Option Bool) (bsub : String → Nat → Option Bool) (t : Nat ⊕ String) : List AV → Option Bool
  | [] => some false
  | c :: r => match kitA sub subB bsub t c with
    | some true => some true
    | some false => kitAs sub subB bsub t r
    | none => none
theorem clsv_of {c : AV} {y : V} (hc : (∃ n, c = .ty n) ∨ ∃ n, c = .cls n) (r : RV E ρ H c y) : ∃ u, ClsV y u ∧ ((∃ n, c = .ty n ∧ u = .type n) ∨ ∃ n, c = .cls n ∧ u = .ref (E.cad n)) := by
  rcases hc with ⟨n, rfl⟩ | ⟨n, rfl⟩
  · cases r
    exact ⟨_, .ty n, .inl ⟨n, rfl, rfl⟩⟩
  · cases r
    exact ⟨_, .own _, .inr ⟨n, rfl, rfl⟩⟩
theorem kitA_ok {t : Nat ⊕ String} {c : AV} {b : Bool} {y : V} (e : kitA E.sub E.subB E.bsub t c = some b) (r : RV E ρ H c y) : ∃ u, ClsV y u ∧ PySem.W.kitOne E.K (tyT E t) u = some b := by
  cases t with
  | inl a => cases c with
    | cls n => cases r; exact ⟨_, .own _, E.subOk a n b e⟩
    | ty n => cases r; exact ⟨_, .ty n, E.subBOk a n b e⟩
    | _ => cases e
  | inr m => cases c with
    | cls n => cases r; exact ⟨_, .own _, E.bsubOk m n b e⟩
    | ty n => cases r; exact ⟨_, .ty n, kitBi_ok _ e⟩
    | _ => cases e
theorem kitAs_ok {t : Nat ⊕ String} : ∀ {cs : List AV} {b : Bool} {ys : List V}, kitAs E.sub E.subB E.bsub t cs = some b → RVs E ρ H cs ys → ∀ {us0 : List AV}, cs = us0 → (∀ c ∈ cs, (∃ n, c = .ty n) ∨ ∃ n, c = .cls n) → ∃ us, Paired ClsV ys us ∧ PySem.W.kitAny E.K (tyT E t) us = some b
  | [], _, _, e, r, _, _, _ => by cases r; cases e; exact ⟨[], .nil, rfl⟩
  | c :: cs, b, _, e, r, _, _, hc => by
    obtain ⟨y, ys, rfl, r1, r2⟩ := r
    unfold kitAs at e
    cases e1 : kitA E.sub E.subB E.bsub t c with
    | none => rw [e1] at e; cases e
    | some b1 =>
      rw [e1] at e
      obtain ⟨u, k1, k2⟩ := kitA_ok e1 r1
      cases b1 with
      | true =>
        cases e
        -- the rest need only be classes
        have rest : ∀ {l : List AV} {zs : List V}, RVs E ρ H l zs → (∀ c ∈ l, (∃ n, c = .ty n) ∨ ∃ n, c = .cls n) → ∃ us, Paired ClsV zs us := by
          intro l
          induction l with
          | nil => intro zs r _; cases r; exact ⟨[], .nil⟩
          | cons d l ih =>
            intro zs r hd
            obtain ⟨z, zs', rfl, s1, s2⟩ := r
            obtain ⟨u', k', _⟩ := clsv_of (hd d List.mem_cons_self) s1
            obtain ⟨us', p'⟩ := ih s2 fun c hc => hd c (List.mem_cons_of_mem _ hc)
            exact ⟨u' :: us', .cons k' p'⟩
        obtain ⟨us, p⟩ := rest r2 fun c hc' => hc c (List.mem_cons_of_mem _ hc')
        refine ⟨u :: us, .cons k1 p, ?_⟩
        unfold PySem.W.kitAny
        rw [k2]
      | false =>
        obtain ⟨us, p, z⟩ := kitAs_ok e r2 rfl fun c hc' => hc c (List.mem_cons_of_mem _ hc')
        refine ⟨u :: us, .cons k1 p, ?_⟩
        unfold PySem.W.kitAny
        rw [k2]
        exact z
def isTyA : AV → Bool
  | .ty _ => true
  | .cls _ => true
  | _ => false
theorem isTyA_ok {c : AV} (h : isTyA c = true) : (∃ n, c = .ty n) ∨ ∃ n, c = .cls n := by
  cases c with
  | ty n => exact .inl ⟨n, rfl⟩
  | cls n => exact .inr ⟨n, rfl⟩
  | _ => cases h
/-- isinstance(v, c), isinstance(v, (c, ..)) -/
def fIsi (sub : Nat → Nat → Option Bool) (subB : Nat → String → Option Bool) (bsub : String → Nat → Option Bool) : OpN := fun as A => match as with
  | [v, c] => (match tyA v A with
    | some t => (match c with
      | .tup cs => if cs.all isTyA then (kitAs sub subB bsub t cs).map fun b => (.bl b, A) else none
      | c => (kitA sub subB bsub t c).map fun b => (.bl b, A))
    | none => none)
  | _ => none
theorem cs_isi (hK : X.K = E.K) : CallS E X (.builtin "isinstance") (fIsi E.sub E.subB E.bsub) := by
  intro pins s σ H xs us Q I rv h
  obtain ⟨ρ, A, as, hh, r, q⟩ := h
  unfold fIsi at q
  split at q
  · obtain ⟨x, y, rfl, r1, r2⟩ := rvs2 r
    split at q
    · rename_i t e1
      obtain ⟨ty, hc⟩ := tyA_ok hK hh r1 e1
      split at q
      · obtain ⟨a, ys, rfl, st, r3⟩ := r2
        split at q
        · rename_i hall
          cases e2 : kitAs E.sub E.subB E.bsub t _ with
          | none => rw [e2] at q; exact q.elim
          | some b =>
            rw [e2] at q
            obtain ⟨us2, p, z⟩ := kitAs_ok e2 r3 rfl fun c hc' => isTyA_ok (List.all_eq_true.mp hall c hc')
            exact call_isiT pins s σ H _ us Q I rv ⟨x, a, ys, _, us2, b, rfl, st, p, ty, hK ▸ z, q.pure hh rfl⟩
        · exact q.elim
      · cases e2 : kitA E.sub E.subB E.bsub t _ with
        | none => rw [e2] at q; exact q.elim
        | some b =>
          rw [e2] at q
          obtain ⟨u, k1, z⟩ := kitA_ok e2 r2
          exact call_isi pins s σ H _ us Q I rv ⟨x, y, _, u, b, rfl, k1, ty, hK ▸ z, q.pure hh rfl⟩
    · exact q.elim
  · exact q.elim
/-- a class as a value -/
theorem se_ty {x : Str} {n : String} {pos : Pos} (hg : Gl X x) (hm : X.mg x = none) (hv : bootBuiltins x = some (.type n)) (hn : x ≠ "__name__") (hd : (x == ("__debug__" : Str)) = false) : SE E X W (.Name x pos) (dC (.ty n)) :=
  PE.imp (pe_bltn (v := V.ty n) hg hm hv rfl hn hd) fun _ _ _ h => c_rd h fun _ => rfl
theorem se_cls {x : Str} {c : Nat} {pos : Pos} (hg : Gl X x) (hm : X.mg x = some (.ref (E.cad c))) (hd : (x == ("__debug__" : Str)) = false) : SE E X W (.Name x pos) (dC (.cls c)) :=
  PE.imp (pe_glob (v := V.ref (E.cad c)) hg hm rfl hd) fun _ _ _ h => c_rd h fun _ => rfl
end
end Ev
end
section
/-! Ev, seventh part: methods of built-in types, dicts made and stored, fields, own methods, instances. -/
namespace Ev
open PySem PySem.Spec L2
set_option autoImplicit false
section
variable {E : En} {X : Cx} {W : WX} {k : Nat} {ρ : List Addr} {H : Hp}
abbrev OpM := AV → List AV → AHp → Option (AV × AHp)
def MtS (E : En) (X : Cx) (id : String) (p : OpM) : Prop := MtR X id (fun x xs H Q => ∃ ρ A a as, RH E ρ H A ∧ RV E ρ H a x ∧ RVs E ρ H as xs ∧ PostO E (p a as A) ρ H Q)
def tagA (T : String) (v : AV) (A : AHp) : Bool := match v with
  | .str _ => decide (T = "str")
  | .ref n => (match A[n]? with
    | some (.lst _ _) => decide (T = "list")
    | some (.dict _ _) => decide (T = "dict")
    | _ => false)
  | _ => false
theorem tagA_is {pins : List (Addr × Obj)} {σ : St} {s : Shared} {T : String} {x : V} {v : Value} {A : AHp} {a : AV} (I : Inv X pins σ H s) (hh : RH E ρ H A) (ra : RV E ρ H a x) (r : RelV x v) (ty : tagA T a A = true) :
    s.TypeIs v T ∧ ∀ a, v = .ref a → ∃ ob, s.heap.get? a = some ob ∧ ob.dict = none := by
  cases a with
  | str z =>
    cases ra
    have et : T = "str" := by unfold tagA at ty; exact of_decide_eq_true ty
    exact tyV_is I r et
  | ref n =>
    unfold tagA at ty
    dsimp only at ty
    cases e1 : A[n]? with
    | none => rw [e1] at ty; cases ty
    | some o => cases o with
      | lst xs ro =>
        rw [e1] at ty
        obtain ⟨p0, ys, p1, r2, w0, _⟩ := hh.lst e1
        have ex := RVref ra p1
        subst ex
        exact tyV_is I r (.inl ⟨of_decide_eq_true ty, ys, .inl w0⟩)
      | dict kvs lk =>
        rw [e1] at ty
        obtain ⟨p0, ea, w⟩ := hh.get e1
        have ex := RVref ra ea
        subst ex
        have et := of_decide_eq_true ty
        subst et
        obtain rfl : v = Value.ref p0 := r
        rcases w with ⟨kv', _, w⟩ | ⟨kv', _, w⟩
        · obtain ⟨t1, t2, _⟩ := isD_at I (.inl ⟨kv', AtD.rd w⟩)
          exact ⟨t1, t2⟩
        · obtain ⟨t1, t2, _⟩ := isD_at I (.inr ⟨kv', AtD.rd w⟩)
          exact ⟨t1, t2⟩
      | ins c fs => rw [e1] at ty; cases ty
      | dn _ => rw [e1] at ty; cases ty
  | _ => cases ty
def dBM (T : String) (p : OpM) (fo : Den AV) (fa : Den (List AV)) : Den AV := fun σ A => (fo σ A).bind fun o A1 => if tagA T o A1 = true then (fa σ A1).bind fun as A2 => ofO (p o as A2) else .bad
theorem se_bm {T id : String} {p : OpM} {o e : Expr} {es : List Expr} {name : Str} {apos cpos : Pos} {fo : Den AV} {fa : Den (List AV)} (pa : PlainAttrs T) (slot : Slot T name id) (hty : typeOf (.builtin id) = pure (.type "method_descriptor")) (hm : MtS E X id p) (ho : SE E X W o fo) (ha : SA E X W (e :: es) fa)
    (hbase : attributeBase o name X.env (eval o X.env) = eval o X.env)
    (hfew : ((backTo cpos (starEach (e :: es) X.env)).all (fun x => !x.1) && (backToKw cpos (keywordEach [] X.env)).all (fun x => x.1.isSome)
      && decide ((e :: es).length + ([] : List Keyword).length + (if ([] : List Keyword).isEmpty then 0 else 1) < 30)) = true)
    (hline : (apos.endLine == cpos.line) = true) (hs : starEach (e :: es) X.env = (false, eval e X.env) :: starEach es X.env) (hplain : (backTo cpos (starEach es X.env)).any (·.1) = false) :
    SE E X W (.Call (.Attribute o name apos) (e :: es) [] cpos) (dBM T p fo fa) := by
  refine ⟨fun pins s σ H Q I h => ?_⟩
  have h2 := rd_step (E := E) (W := W) (rel := RV E) (f := fo) (Q1 := fun x H1 => ∃ ρ σa A o, RS E ρ H1 σa σ ∧ RH E ρ H1 A ∧ RV E ρ H1 o x ∧ Post E (RV E) (if tagA T o A = true then (fa σa A).bind fun as A2 => ofO (p o as A2) else .bad) ρ H1 Q fun c d H' => W c d σ H') h
    fun x H1 ρ σa A o hs hh hx q => ⟨ρ, σa, A, o, hs, hh, hx, q⟩
  refine wpAny_Call_method_late hbase hfew hline rfl (thn (ho.run pins s σ H _ I h2) fun v s1 ⟨x, H1, I1, r1, ρ, σa, A, o', hs', hh, hx, q⟩ => ?_)
  split at q
  · rename_i ty
    obtain ⟨h1, h2⟩ := tagA_is I1 hh hx r1 ty
    refine ⟨T, id, pa, slot, hty, h1, h2, ?_⟩
    have q2 : rd E (RVs E) fa W σ H1 fun vs H2 => ∃ ρ A a as, RH E ρ H2 A ∧ RV E ρ H2 a x ∧ RVs E ρ H2 as vs ∧ PostO E (p a as A) ρ H2 Q := by
      refine ⟨ρ, σa, A, hs', hh, ?_⟩
      cases e1 : fa σa A with
      | err c i A2 => rw [e1] at q; exact q
      | bad => rw [e1] at q; exact q
      | ok as A2 =>
        rw [e1] at q
        intro ρ2 H2 vs xt rh r
        exact ⟨ρ2, A2, o', as, rh, hx.ext xt, r, PostO.of_post (q.ext xt)⟩
    have hA := ha.run cpos pins s1 σ H1 _ I1 q2
    rw [hs] at hA ⊢
    refine Calls.callWith_builtin (by show (false || (backTo cpos (starEach es X.env)).any (·.1)) = false; rw [hplain] <;> rfl) (Calls.evalArgs_plain ?_)
    exact thn hA fun us s2 ⟨vs, H2, I2, r2, q2⟩ => hm pins s2 σ H2 x vs v us Q I2 r1 r2 q2
  · exact q.elim
theorem se_bm0 {T id : String} {p : OpM} {o : Expr} {name : Str} {apos cpos : Pos} {fo : Den AV} (pa : PlainAttrs T) (slot : Slot T name id) (hty : typeOf (.builtin id) = pure (.type "method_descriptor")) (hm : MtS E X id p) (ho : SE E X W o fo)
    (hbase : attributeBase o name X.env (eval o X.env) = eval o X.env) (hline : (apos.endLine == cpos.line) = true) : SE E X W (.Call (.Attribute o name apos) [] [] cpos) (dBM T p fo dNil) := by
  refine ⟨fun pins s σ H Q I h => ?_⟩
  have h2 := rd_step (E := E) (W := W) (rel := RV E) (f := fo) (Q1 := fun x H1 => ∃ ρ σa A o, RS E ρ H1 σa σ ∧ RH E ρ H1 A ∧ RV E ρ H1 o x ∧ Post E (RV E) (if tagA T o A = true then (dNil σa A).bind fun as A2 => ofO (p o as A2) else .bad) ρ H1 Q fun c d H' => W c d σ H') h
    fun x H1 ρ σa A o hs hh hx q => ⟨ρ, σa, A, o, hs, hh, hx, q⟩
  refine wpAny_Call_method0_late hbase hline (thn (ho.run pins s σ H _ I h2) fun v s1 ⟨x, H1, I1, r1, ρ, σa, A, o', hs', hh, hx, q⟩ => ?_)
  split at q
  · rename_i ty
    obtain ⟨h1, h2⟩ := tagA_is I1 hh hx r1 ty
    exact ⟨T, id, pa, slot, hty, h1, h2, Calls.callWith_builtin rfl (PySem.evalArgs_none (hm pins s1 σ H1 x [] v [] Q I1 r1 .nil ⟨ρ, A, o', [], hh, hx, rfl, PostO.of_post q⟩))⟩
  · exact q.elim
/-! ### methods of texts -/
def mStr1 (g : Str → Str → AV) : OpM := fun o as A => match o, as with
  | .str a, [.str b] => some (g a b, A)
  | _, _ => none
theorem ms_str1 {id : String} {g : Str → Str → AV} {gv : Str → Str → V} (h : MtR X id (fun x xs H Q => ∃ a b, x = .str a ∧ xs = [.str b] ∧ Q (gv a b) H)) (hg : ∀ a b ρ H, RV E ρ H (g a b) (gv a b)) : MtS E X id (mStr1 g) := by
  intro pins s σ H x xs v us Q I rx rs hq
  obtain ⟨ρ, A, a, as, hh, ra, r, q⟩ := hq
  unfold mStr1 at q
  split at q
  · cases ra
    obtain ⟨y, rfl, r1⟩ := rvs1 r
    cases r1
    exact h pins s σ H _ _ v us Q I rx rs ⟨_, _, rfl, rfl, q.pure hh (hg _ _ _ _)⟩
  · exact q.elim
theorem ms_startswith : MtS E X "str.startswith" (mStr1 fun a b => .bl (Txt.startswith a b)) := ms_str1 (gv := fun a b => .bl (Txt.startswith a b)) mt_startswith fun _ _ _ _ => rfl
theorem ms_endswith : MtS E X "str.endswith" (mStr1 fun a b => .bl (Txt.endswith a b)) := ms_str1 (gv := fun a b => .bl (Txt.endswith a b)) mt_endswith fun _ _ _ _ => rfl
theorem ms_find : MtS E X "str.find" (mStr1 fun a b => .int (Txt.find a b)) := ms_str1 (gv := fun a b => .int (Txt.find a b)) mt_find fun _ _ _ _ => rfl
def strsOf : List AV → Option (List Str)
  | [] => some []
  | v :: vs => match v, strsOf vs with
    | .str b, some bs => some (b :: bs)
    | _, _ => none
theorem strs_ok : ∀ {as : List AV} {xs : List V} {bs : List Str}, strsOf as = some bs → RVs E ρ H as xs → xs = bs.map V.str
  | [], _, _, e, r => by cases r; cases e; rfl
  | v :: vs, _, _, e, r => by
    obtain ⟨y, ys, rfl, r1, r2⟩ := r
    unfold strsOf at e
    cases v with
    | str b =>
      cases e2 : strsOf vs with
      | none => rw [e2] at e; cases e
      | some l =>
        rw [e2] at e
        cases e
        cases r1
        rw [strs_ok e2 r2, List.map_cons]
    | _ => cases e
theorem strs_rv : ∀ (bs : List Str), RVs E ρ H (bs.map AV.str) (bs.map V.str)
  | [] => rfl
  | b :: bs => ⟨_, _, rfl, rfl, strs_rv bs⟩
def seqAt (v : AV) (A : AHp) : Option (List AV) := match v with
  | .tup xs => some xs
  | .ref n => lstAt A n
  | _ => none
def mJoin : OpM := fun o as A => match o, as with
  | .str a, [v] => (match seqAt v A with
    | some xs => (match strsOf xs with
      | some ys => if (ys.map (·.length)).sum + ys.length * a.length ≤ 16777216 then some (.str (Txt.join a ys), A) else none
      | none => none)
    | none => none)
  | _, _ => none
theorem ms_join (hK : X.K = E.K) : MtS E X "str.join" mJoin := by
  intro pins s σ H x xs v us Q I rx rs hq
  obtain ⟨ρ, A, a, as, hh, ra, r, q⟩ := hq
  unfold mJoin at q
  split at q
  · cases ra
    obtain ⟨y, rfl, r1⟩ := rvs1 r
    rename_i a0 v0
    cases e1 : seqAt v0 A with
    | none => rw [e1] at q; exact q.elim
    | some xs =>
      rw [e1] at q
      dsimp only at q
      cases e2 : strsOf xs with
      | none => rw [e2] at q; exact q.elim
      | some ys =>
        rw [e2] at q
        dsimp only at q
        split at q
        · rename_i hz
          cases v0 with
          | tup zs =>
            cases e1
            obtain ⟨p, us', rfl, st, r2⟩ := r1
            have e3 := strs_ok e2 r2
            subst e3
            exact mt_join pins s σ H _ _ v us Q I rx rs ⟨_, p, ys, rfl, rfl, .inr (.inl (.inl st)), hz, q.pure hh rfl⟩
          | ref n =>
            obtain ⟨p, us', rfl, r2, w⟩ := lstAt_ok hh e1 r1
            have e3 := strs_ok e2 r2
            subst e3
            exact mt_join pins s σ H _ _ v us Q I rx rs ⟨_, p, ys, rfl, rfl, .inl (.inl w), hz, q.pure hh rfl⟩
          | _ => cases e1
        · exact q.elim
  · exact q.elim
def mSplit : OpM := fun o as A => match o, as with
  | .str a, [.str b] => if (b.length == 0) = false ∧ a.length + 2 ≤ sizeLine then some (.ref A.length, A ++ [.lst ((Txt.split a b).map .str) false]) else none
  | _, _ => none
theorem ms_split : MtS E X "str.split" mSplit := by
  intro pins s σ H x xs v us Q I rx rs hq
  obtain ⟨ρ, A, a, as, hh, ra, r, q⟩ := hq
  unfold mSplit at q
  split at q
  · cases ra
    obtain ⟨y, rfl, r1⟩ := rvs1 r
    cases r1
    split at q
    · rename_i hz
      refine mt_split pins s σ H _ _ v us Q I rx rs ⟨_, _, rfl, rfl, hz.1, hz.2, fun p hp => ?_⟩
      obtain ⟨z1, z2, z3⟩ := newLst hh hp (strs_rv _)
      exact q _ _ _ z2 z1 z3
    · exact q.elim
  · exact q.elim
/-! ### methods of lists -/
theorem setLst {A : AHp} (hh : RH E ρ H A) {n : Nat} {xs ys : List AV} {a : Addr} (e : A[n]? = some (.lst xs false)) (ea : ρ[n]? = some a) {us : List V} (r : RVs E ρ H ys us) : RH E ρ (upd H a (.lst us)) (A.set n (.lst ys false)) ∧ Ext ρ H ρ (upd H a (.lst us)) :=
  hh.write e ea (fun b hb => upd_ne hb) fun x => ⟨us, r.ext x, upd_same⟩
def mAppend : OpM := fun o as A => match o, as with
  | .ref n, [v] => (match A[n]? with
    | some (.lst xs false) => if xs.length < sizeLine then some (.non, A.set n (.lst (xs ++ [v]) false)) else none
    | _ => none)
  | _, _ => none
theorem ms_append : MtS E X "list.append" mAppend := by
  intro pins s σ H x xs v us Q I rx rs hq
  obtain ⟨ρ, A, a, as, hh, ra, r, q⟩ := hq
  unfold mAppend at q
  split at q
  · obtain ⟨y, rfl, r1⟩ := rvs1 r
    rename_i n v0
    cases e1 : A[n]? with
    | none => rw [e1] at q; exact q.elim
    | some o => cases o with
      | lst xs ro => cases ro with
        | true => rw [e1] at q; exact q.elim
        | false =>
          rw [e1] at q
          dsimp only at q
          split at q
          · rename_i hz
            obtain ⟨p0, ys, p1, r2, _, w0⟩ := hh.lst e1
            have ex := RVref ra p1
            subst ex
            refine mt_append pins s σ H _ _ v us Q I rx rs ⟨p0, ys, y, rfl, rfl, w0 rfl, by rw [r2.length]; exact hz, ?_⟩
            obtain ⟨z1, z2⟩ := setLst hh e1 p1 (r2.append (show RVs E ρ H [v0] [y] from ⟨y, [], rfl, r1, rfl⟩))
            exact q _ _ _ z2 z1 rfl
          · exact q.elim
      | _ => rw [e1] at q; exact q.elim
  · exact q.elim
def mExtend : OpM := fun o as A => match o, as with
  | .ref n, [.ref m] => (match A[n]?, A[m]? with
    | some (.lst xs false), some (.lst ys false) => if xs.length + ys.length ≤ sizeLine then some (.non, A.set n (.lst (xs ++ ys) false)) else none
    | _, _ => none)
  | _, _ => none
theorem ms_extend : MtS E X "list.extend" mExtend := by
  intro pins s σ H x xs v us Q I rx rs hq
  obtain ⟨ρ, A, a, as, hh, ra, r, q⟩ := hq
  unfold mExtend at q
  split at q
  · obtain ⟨y, rfl, r1⟩ := rvs1 r
    split at q
    · rename_i e1 e2
      split at q
      · rename_i hz
        obtain ⟨p0, ys, p1, r2, _, w0⟩ := hh.lst e1
        obtain ⟨p0', ys', p1', r2', _, w0'⟩ := hh.lst e2
        have ex := RVref ra p1
        have ey := RVref r1 p1'
        subst ex ey
        refine mt_extend pins s σ H _ _ v us Q I rx rs ⟨p0, p0', ys, ys', rfl, rfl, w0 rfl, w0' rfl, by rw [r2.length, r2'.length]; exact hz, ?_⟩
        obtain ⟨z1, z2⟩ := setLst hh e1 p1 (r2.append r2')
        exact q _ _ _ z2 z1 rfl
      · exact q.elim
    · exact q.elim
  · exact q.elim
theorem RVs.dropLast {xs : List AV} {ys : List V} (h : RVs E ρ H xs ys) : RVs E ρ H xs.dropLast ys.dropLast := by
  rw [List.dropLast_eq_take, List.dropLast_eq_take, h.length]
  exact h.take _
def mPop0 : OpM := fun o as A => match o, as with
  | .ref n, [] => (match A[n]? with
    | some (.lst xs false) => (match xs[xs.length - 1]? with
      | some v => some (v, A.set n (.lst xs.dropLast false))
      | none => none)
    | _ => none)
  | _, _ => none
theorem ms_pop0 : MtS E X "list.pop" mPop0 := by
  intro pins s σ H x xs v us Q I rx rs hq
  obtain ⟨ρ, A, a, as, hh, ra, r, q⟩ := hq
  unfold mPop0 at q
  split at q
  · cases r
    split at q
    · rename_i e1
      split at q
      · rename_i e2
        obtain ⟨p0, ys, p1, r2, _, w0⟩ := hh.lst e1
        have ex := RVref ra p1
        subst ex
        obtain ⟨y, ey, ry⟩ := r2.get e2
        refine mt_pop pins s σ H _ _ v us Q I rx rs ⟨p0, ys, y, rfl, rfl, w0 rfl, by rw [r2.length]; exact ey, ?_⟩
        obtain ⟨z1, z2⟩ := setLst hh e1 p1 r2.dropLast
        exact q _ _ _ z2 z1 (ry.ext z2)
      · exact q.elim
    · exact q.elim
  · exact q.elim
/-! ### dicts stored -/
theorem rk_put : ∀ {l : List (AK × AV)} {m : List (Key × V)} (_ : RK E ρ H l m) (k : Key) {v : AV} {x : V} (_ : RV E ρ H v x),
    ((l.any fun p => decide (p.1 = AK.k k)) = m.any fun p => decide (p.1 = k)) ∧ RK E ρ H (l.map fun p => if p.1 = AK.k k then (p.1, v) else p) (m.map fun p => if p.1 = k then (p.1, x) else p) ∧ RK E ρ H (l ++ [(AK.k k, v)]) (m ++ [(k, x)])
  | [], _, r, k, v, x, rv => by
    cases r
    exact ⟨rfl, rfl, k, x, [], rfl, rfl, rv, rfl⟩
  | (a, w) :: l, _, r, k, v, x, rv => by
    obtain ⟨k', v', r', rfl, rfl, h1, h2⟩ := r
    obtain ⟨i1, i2, i3⟩ := rk_put h2 k rv
    refine ⟨?_, ?_, k', v', r' ++ [(k, x)], rfl, rfl, h1, i3⟩
    · rw [List.any_cons, List.any_cons, i1]
      congr 1
      exact decide_eq_decide.mpr ⟨fun z => AK.k.inj z, fun z => congrArg AK.k z⟩
    · rw [List.map_cons, List.map_cons]
      by_cases e : k' = k
      · subst e
        rw [if_pos rfl, if_pos rfl]
        exact ⟨k', x, _, rfl, rfl, rv, i2⟩
      · rw [if_neg e, if_neg (fun z => e (AK.k.inj z))]
        exact ⟨k', v', _, rfl, rfl, h1, i2⟩
theorem rt_put : ∀ {l : List (AK × AV)} {m : List (List Key × V)} (_ : RT E ρ H l m) (k : List Key) {v : AV} {x : V} (_ : RV E ρ H v x),
    ((l.any fun p => decide (p.1 = AK.t k)) = m.any fun p => decide (p.1 = k)) ∧ RT E ρ H (l.map fun p => if p.1 = AK.t k then (p.1, v) else p) (m.map fun p => if p.1 = k then (p.1, x) else p) ∧ RT E ρ H (l ++ [(AK.t k, v)]) (m ++ [(k, x)])
  | [], _, r, k, v, x, rv => by
    cases r
    exact ⟨rfl, rfl, k, x, [], rfl, rfl, rv, rfl⟩
  | (a, w) :: l, _, r, k, v, x, rv => by
    obtain ⟨k', v', r', rfl, rfl, h1, h2⟩ := r
    obtain ⟨i1, i2, i3⟩ := rt_put h2 k rv
    refine ⟨?_, ?_, k', v', r' ++ [(k, x)], rfl, rfl, h1, i3⟩
    · rw [List.any_cons, List.any_cons, i1]
      congr 1
      exact decide_eq_decide.mpr ⟨fun z => AK.t.inj z, fun z => congrArg AK.t z⟩
    · rw [List.map_cons, List.map_cons]
      by_cases e : k' = k
      · subst e
        rw [if_pos rfl, if_pos rfl]
        exact ⟨k', x, _, rfl, rfl, rv, i2⟩
      · rw [if_neg e, if_neg (fun z => e (AK.t.inj z))]
        exact ⟨k', v', _, rfl, rfl, h1, i2⟩
theorem rk_putA {l : List (AK × AV)} {m : List (Key × V)} (r : RK E ρ H l m) (k : Key) {v : AV} {x : V} (rv : RV E ρ H v x) : RK E ρ H (putA l (.k k) v) (putK m k x) := by
  obtain ⟨i1, i2, i3⟩ := rk_put r k rv
  unfold putA putK
  rw [i1]
  split
  · exact i2
  · exact i3
theorem rt_putA {l : List (AK × AV)} {m : List (List Key × V)} (r : RT E ρ H l m) (k : List Key) {v : AV} {x : V} (rv : RV E ρ H v x) : RT E ρ H (putA l (.t k) v) (putK m k x) := by
  obtain ⟨i1, i2, i3⟩ := rt_put r k rv
  unfold putA putK
  rw [i1]
  split
  · exact i2
  · exact i3
/-- a store by values: the object, the place, the value -/
abbrev OpP := AV → AV → AV → AHp → Option AHp
def SetS (E : En) (X : Cx) (p : OpP) : Prop :=
  PSet X (fun o i v H Q => ∃ ρ A a b z, RH E ρ H A ∧ RV E ρ H a o ∧ RV E ρ H b i ∧ RV E ρ H z v ∧ match p a b z A with
    | some A' => ∀ ρ' H', Ext ρ H ρ' H' → RH E ρ' H' A' → Q H'
    | none => False)
def pPut : OpP := fun a b z A => match a with
  | .ref n => (match A[n]? with
    | some (.dict kvs false) => (match keyOf b with
      | some ky => if kindA kvs ky = true ∧ kvs.length < sizeLine then some (A.set n (.dict (putA kvs ky z) false)) else none
      | none => none)
    | some (.lst xs false) => (match b with
      | .int i => (ixN xs.length i).map fun j => A.set n (.lst (xs.set j z) false)
      | _ => none)
    | _ => none)
  | _ => none
theorem ss_put (c : Ctx E k X W) : SetS E X pPut := by
  intro pins s σ H o i v ov iv u Q I ro ri rv h
  obtain ⟨ρ, A, a, b, z, hh, ra, rb, rz, q⟩ := h
  unfold pPut at q
  cases a with
  | ref n =>
    dsimp only at q
    cases e1 : A[n]? with
    | none => rw [e1] at q; exact q.elim
    | some oo => cases oo with
      | dict kvs lk => cases lk with
        | true => rw [e1] at q; exact q.elim
        | false =>
          rw [e1] at q
          dsimp only at q
          cases ek : keyOf b with
          | none => rw [ek] at q; exact q.elim
          | some ky =>
            rw [ek] at q
            dsimp only at q
            by_cases hz : kindA kvs ky = true ∧ kvs.length < sizeLine
            · rw [if_pos hz] at q
              obtain ⟨H1, a1, ea, I1, hh1, xt, as⟩ := toKind I hh e1 ky hz.1 (fun hl => by cases hl)
              have ex := RVref ra ea
              subst ex
              obtain rfl : ov = Value.ref a1 := ro
              have rb1 := rb.ext xt
              have rz1 := rz.ext xt
              cases ky with
              | k k1 =>
                obtain ⟨kv', r1, w⟩ := as
                have w : H1 a1 = some (.dK kv') := w
                obtain ⟨z1, z2⟩ := hh1.write (H' := upd H1 a1 (.dK (putK kv' k1 v))) (o' := .dict (putA kvs (.k k1) z) false) e1 ea (fun b hb => upd_ne hb) fun x => .inl ⟨_, rk_putA (r1.ext x) k1 (rz1.ext x), upd_same⟩
                exact d_setItem c.hu1 I1 (.inl ⟨kv', k1, w, keyOf_k ek rb1, by rw [rk_len r1]; exact hz.2, rfl⟩) ri rv fun s' I' => ⟨_, I', q ρ _ (xt.trans z2) z1⟩
              | t ks =>
                obtain ⟨kv', r1, w⟩ := as
                have w : H1 a1 = some (.dT kv') := w
                obtain ⟨b', ey, eb⟩ := keyOf_t ek rb1
                obtain ⟨z1, z2⟩ := hh1.write (H' := upd H1 a1 (.dT (putK kv' ks v))) (o' := .dict (putA kvs (.t ks) z) false) e1 ea (fun b hb => upd_ne hb) fun x => .inr ⟨_, rt_putA (r1.ext x) ks (rz1.ext x), upd_same⟩
                exact d_setItem c.hu1 I1 (.inr ⟨kv', ks, b', w, ey, eb, by rw [rt_len r1]; exact hz.2, rfl⟩) ri rv fun s' I' => ⟨_, I', q ρ _ (xt.trans z2) z1⟩
            · rw [if_neg hz] at q; exact q.elim
      | lst xs ro2 => cases ro2 with
        | true => rw [e1] at q; exact q.elim
        | false =>
          rw [e1] at q
          dsimp only at q
          cases b with
          | int i1 =>
            cases rb
            dsimp only at q
            cases ej : ixN xs.length i1 with
            | none => rw [ej] at q; exact q.elim
            | some j =>
              rw [ej] at q
              obtain ⟨p0, ys, p1, r2, _, w0⟩ := hh.lst e1
              have ex := RVref ra p1
              subst ex
              obtain ⟨z1, z2⟩ := setLst hh e1 p1 (RVs.set rz j r2)
              exact set_list pins s σ H _ _ v ov iv u Q I ro ri rv ⟨p0, ys, i1, j, rfl, rfl, w0 rfl, by rw [r2.length]; exact ej, q ρ _ z2 z1⟩
          | _ => exact q.elim
      | ins cc fs => rw [e1] at q; exact q.elim
      | dn _ => rw [e1] at q; exact q.elim
  | _ => exact q.elim
end
end Ev
end
section
/-! Ev, eighth part: statements, loops, comprehensions. -/
namespace Ev
open PySem PySem.Spec L2
set_option autoImplicit false
section
variable {E : En} {X : Cx} {W : WX} {k : Nat} {ρ : List Addr} {H : Hp}
/-! ### blocks and small statements -/
def sNil : SDen := fun σ A => .nx σ A
def SR.bind (r : SR) (g : SDen) : SR := match r with
  | .nx σ A => g σ A
  | r => r
@[simp] theorem SR.bind_nx (σ : ASt) (A : AHp) (g : SDen) : (SR.nx σ A).bind g = g σ A := (rfl)
@[simp] theorem SR.bind_rt (v : AV) (A : AHp) (g : SDen) : (SR.rt v A).bind g = .rt v A := (rfl)
@[simp] theorem SR.bind_bk (σ : ASt) (A : AHp) (g : SDen) : (SR.bk σ A).bind g = .bk σ A := (rfl)
@[simp] theorem SR.bind_ct (σ : ASt) (A : AHp) (g : SDen) : (SR.ct σ A).bind g = .ct σ A := (rfl)
@[simp] theorem SR.bind_er (σ : ASt) (c : Nat) (r : Option Int) (A : AHp) (g : SDen) : (SR.er σ c r A).bind g = .er σ c r A := (rfl)
@[simp] theorem SR.bind_bad (g : SDen) : SR.bad.bind g = .bad := (rfl)
def sSeq (f g : SDen) : SDen := fun σ A => (f σ A).bind g
theorem rdS_bindS {f g : SDen} {D : Ends} {σ : St} (h : rdS E (sSeq f g) W D σ H) : rdS E f W { D with nx := fun σ' H' => rdS E g W D σ' H' } σ H := by
  obtain ⟨ρ, σa, A, hs, hh, q⟩ := h
  have q : PostS E ((f σa A).bind g) ρ H D W := q
  refine ⟨ρ, σa, A, hs, hh, ?_⟩
  cases e : f σa A with
  | nx σ1 A1 =>
    rw [e] at q
    exact fun ρ' H' σ' x rh rs => ⟨ρ', σ1, A1, rs, rh, PostS.ext q x⟩
  | rt v A1 => rw [e] at q; exact q
  | bk σ1 A1 => rw [e] at q; exact q
  | ct σ1 A1 => rw [e] at q; exact q
  | er σ1 c r A1 => rw [e] at q; exact q
  | bad => rw [e] at q; exact q
theorem sss_nil : SSs E X W [] sNil := PSs.imp pss_nil fun D σ H ⟨ρ, σa, A, hs, hh, q⟩ => q ρ H σ (Ext.refl _ _) hh hs
theorem sss_cons {st : Stmt} {rest : List Stmt} {f g : SDen} (h1 : SS E X W st f) (h2 : SSs E X W rest g) : SSs E X W (st :: rest) (sSeq f g) :=
  PSs.imp (pss_cons h1 h2) fun D σ H h => rdS_bindS h
theorem sss_one {st : Stmt} {f : SDen} (h1 : SS E X W st f) : SSs E X W [st] f := pss_one h1
theorem ss_pass {pos : Pos} : SS E X W (.Pass pos) sNil := PS.imp ps_pass fun D σ H ⟨ρ, σa, A, hs, hh, q⟩ => q ρ H σ (Ext.refl _ _) hh hs
def sCont : SDen := fun σ A => .ct σ A
def sBrk : SDen := fun σ A => .bk σ A
theorem ss_cont {pos : Pos} : SS E X W (.Continue pos) sCont := PS.imp ps_continue fun D σ H ⟨ρ, σa, A, hs, hh, q⟩ => q ρ H σ (Ext.refl _ _) hh hs
theorem ss_brk {pos : Pos} : SS E X W (.Break pos) sBrk := PS.imp ps_break fun D σ H ⟨ρ, σa, A, hs, hh, q⟩ => q ρ H σ (Ext.refl _ _) hh hs
def sExpr (f : Den AV) : SDen := fun σ A => (f σ A).toS σ fun _ A1 => .nx σ A1
theorem ss_expr {e : Expr} {f : Den AV} {pos : Pos} (h : SE E X W e f) (hs : swapsWith e none pos.line X.env = pure false) : SS E X W (.Expr e pos) (sExpr f) := by
  refine PS.imp (ps_expr h hs) fun D σ H h => ?_
  exact rdS_step h fun x' H1 ρ σa A x hs hh hx q => q ρ H1 σ (Ext.refl _ _) hh hs
def sRet (f : Den AV) : SDen := fun σ A => (f σ A).toS σ fun v A1 => .rt v A1
theorem ss_ret {e : Expr} {f : Den AV} {pos : Pos} (h : SE E X W e f) : SS E X W (.Return (some e) pos) (sRet f) := by
  refine PS.imp (ps_ret h) fun D σ H h => ?_
  exact rdS_step h fun x' H1 ρ σa A x hs hh hx q => q ρ H1 x' (Ext.refl _ _) hh hx
def sRetN : SDen := fun _ A => .rt .non A
theorem ss_retN {pos : Pos} : SS E X W (.Return none pos) sRetN := PS.imp ps_retN fun D σ H ⟨ρ, σa, A, hs, hh, q⟩ => q ρ H _ (Ext.refl _ _) hh rfl
def sIf (t : Den Bool) (f g : SDen) : SDen := fun σ A => (t σ A).toS σ fun b A1 => if b = true then f σ A1 else g σ A1
theorem ss_if {c : Expr} {a b : List Stmt} {t : Den Bool} {f g : SDen} {pos : Pos} (hc : STt E X W c t) (ha : SSs E X W a f) (hb : SSs E X W b g) : SS E X W (.If c a b pos) (sIf t f g) := by
  refine PS.imp (ps_if hc ha hb) fun D σ H h => ?_
  refine rdS_step h fun x' H1 ρ σa A x hs hh hx q => ?_
  cases hx
  cases x' with
  | true => exact ⟨ρ, σa, A, hs, hh, q⟩
  | false => exact ⟨ρ, σa, A, hs, hh, q⟩
/-! ### targets -/
abbrev GDen := AV → ASt → AHp → Option ASt
def rdG (E : En) (g : GDen) : TG := fun v σ H Q => ∃ ρ σa A x, RS E ρ H σa σ ∧ RH E ρ H A ∧ RV E ρ H x v ∧ match g x σa A with
  | some σa' => ∀ ρ' H' σ', Ext ρ H ρ' H' → RH E ρ' H' A → RS E ρ' H' σa' σ' → Q σ' H'
  | none => False
abbrev SG (E : En) (X : Cx) (tg : Expr) (g : GDen) : Prop := PG X tg (rdG E g)
theorem PG.imp {X : Cx} {e : Expr} {t t' : TG} (h : PG X e t) (k : ∀ v σ H Q, t' v σ H Q → t v σ H Q) : PG X e t' := ⟨fun pins s σ H v u Q I r q => h.run pins s σ H v u Q I r (k v σ H Q q)⟩
def gNm (i : Nat) : GDen := fun v σ _ => some (σ.set i (some v))
theorem sg_name {i : Nat} {x : Str} {pos : Pos} (hN : X.N.Nodup) (hi : X.N[i]? = some x) (hx : Loc X.env.scope x) (hf : X.fn x = true ∨ X.env.scope.names.lookup x = some .local) : SG E X (.Name x pos) (gNm i) := by
  refine PG.imp (pg_name hN hi hx hf) fun v σ H Q ⟨ρ, σa, A, z, hs, hh, hz, q⟩ => ?_
  exact q ρ H _ (Ext.refl _ _) hh (hs.set i hz)
/-- several targets -/
abbrev GsDen := List AV → ASt → AHp → Option ASt
def gsNil : GsDen := fun vs σ _ => match vs with
  | [] => some σ
  | _ => none
def gsCons (g : GDen) (gs : GsDen) : GsDen := fun vs σ A => match vs with
  | v :: r => (g v σ A).bind fun σ1 => gs r σ1 A
  | [] => none
def rdGs (E : En) (g : GsDen) : TGs := fun vs σ H Q => ∃ ρ σa A xs, RS E ρ H σa σ ∧ RH E ρ H A ∧ RVs E ρ H xs vs ∧ match g xs σa A with
  | some σa' => ∀ ρ' H' σ', Ext ρ H ρ' H' → RH E ρ' H' A → RS E ρ' H' σa' σ' → Q σ' H'
  | none => False
theorem PGs.imp {X : Cx} {e : List Expr} {t t' : TGs} (h : PGs X e t) (k : ∀ v σ H Q, t' v σ H Q → t v σ H Q) : PGs X e t' := ⟨fun pins s σ H v u Q I r q => h.run pins s σ H v u Q I r (k v σ H Q q)⟩
abbrev SGs (E : En) (X : Cx) (tg : List Expr) (g : GsDen) : Prop := PGs X tg (rdGs E g)
theorem sgs_nil : SGs E X [] gsNil := by
  refine PGs.imp pgs_nil fun v σ H Q ⟨ρ, σa, A, z, hs, hh, hz, q⟩ => ?_
  cases z with
  | nil => cases hz; exact ⟨rfl, q ρ H _ (Ext.refl _ _) hh hs⟩
  | cons a b => exact q.elim
theorem sgs_cons {e : Expr} {es : List Expr} {g : GDen} {gs : GsDen} (h1 : SG E X e g) (h2 : SGs E X es gs) (hs : (assignEach (e :: es) X.env).map (·.2) = assign e X.env :: (assignEach es X.env).map (·.2)) : SGs E X (e :: es) (gsCons g gs) := by
  refine PGs.imp (pgs_cons h1 h2 hs) fun v σ H Q ⟨ρ, σa, A, z, hs, hh, hz, q⟩ => ?_
  cases z with
  | nil => exact q.elim
  | cons a b =>
    obtain ⟨y, ys, rfl, r1, r2⟩ := hz
    refine ⟨y, ys, rfl, ρ, σa, A, a, hs, hh, r1, ?_⟩
    unfold gsCons at q
    dsimp only at q
    cases e1 : g a σa A with
    | none => rw [e1] at q; exact q.elim
    | some σ1 =>
      rw [e1] at q
      dsimp only [Option.bind] at q
      intro ρ' H' σ' x rh rs
      refine ⟨ρ', σ1, A, b, rs, rh, r2.ext x, ?_⟩
      cases e2 : gs b σ1 A with
      | none => rw [e2] at q; exact q.elim
      | some σ2 =>
        rw [e2] at q
        exact fun ρ2 H2 σ2' x2 rh2 rs2 => q ρ2 H2 σ2' (x.trans x2) rh2 rs2
def gTp (n : Nat) (gs : GsDen) : GDen := fun v σ A => match v with
  | .tup xs => if xs.length = n then gs xs σ A else none
  | _ => none
theorem sg_tup {es : List Expr} {k2 : Nat} {gs : GsDen} {n : Nat} {pos : Pos} (hc : X.calm = true) (h : SGs E X es gs)
    (hn : (assignEach es X.env).length = n) (hst : (assignEach es X.env).findIdx? (·.1) = none) : SG E X (.Tuple es k2 pos) (gTp n gs) := by
  refine PG.imp (pg_tup hc h hn hst) fun v σ H Q ⟨ρ, σa, A, z, hs, hh, hz, q⟩ => ?_
  unfold gTp at q
  cases z with
  | tup xs =>
    obtain ⟨a, ys, rfl, st, r⟩ := hz
    dsimp only at q
    by_cases hl : xs.length = n
    · rw [if_pos hl] at q
      exact ⟨a, ys, rfl, .inl (.inl st), by rw [r.length]; exact hl, ρ, σa, A, xs, hs, hh, r, q⟩
    · rw [if_neg hl] at q
      exact q.elim
  | _ => exact q.elim
def sAsg (f : Den AV) (g : GDen) : SDen := fun σ A => (f σ A).toS σ fun v A1 => match g v σ A1 with
  | some σ' => .nx σ' A1
  | none => .bad
theorem asg_rd {f : Den AV} {g : GDen} {D : Ends} {σ : St} (h : rdS E (sAsg f g) W D σ H) : tAsg (rd E (RV E) f W) (rdG E g) D σ H := by
  refine rdS_step h fun x' H1 ρ σa A x hs hh hx q => ?_
  refine ⟨ρ, σa, A, x, hs, hh, hx, ?_⟩
  cases e : g x σa A with
  | none => rw [e] at q; exact q
  | some σ' => rw [e] at q; exact q
theorem ss_asg {tg e : Expr} {f : Den AV} {g : GDen} {pos : Pos} (he : SE E X W e f) (hg : SG E X tg g) (hs : swapsWithSole [tg] e pos.line X.env = pure false) (hw : swappedStores [tg] e X.env = pure none)
    (h1 : (assignEach [tg] X.env).map (·.2) = [assign tg X.env]) : SS E X W (.Assign [tg] e pos) (sAsg f g) := PS.imp (ps_asg he hg hs hw h1) fun D σ H h => asg_rd h
theorem ss_set {i : Nat} {x : Str} {e : Expr} {f : Den AV} {pos pos' : Pos} (hN : X.N.Nodup) (hi : X.N[i]? = some x) (hx : Loc X.env.scope x) (he : SE E X W e f) (hs : swapsWith e (some (.Name x pos')) pos.line X.env = pure false) (hf : X.fn x = true ∨ X.env.scope.names.lookup x = some .local) :
    SS E X W (.Assign [.Name x pos'] e pos) (sAsg f (gNm i)) := by
  refine PS.imp (ps_set hN hi hx he hs hf) fun D σ H h => ?_
  refine rdS_step h fun x' H1 ρ σa A x hs hh hx q => ?_
  exact q ρ H1 _ (Ext.refl _ _) hh (hs.set i hx)
/-- o[i] = e -/
def sPut (p : OpP) (fe fo fi : Den AV) : SDen := fun σ A => (fe σ A).toS σ fun v A1 => (fo σ A1).toS σ fun o A2 => (fi σ A2).toS σ fun i A3 => match p o i v A3 with
  | some A' => .nx σ A'
  | none => .bad
theorem ss_sput {p : OpP} {e o i : Expr} {fe fo fi : Den AV} {pos pos' : Pos} (hp : SetS E X p) (he : SE E X W e fe) (ho : SE E X W o fo) (hi : SE E X W i fi)
    (ha : ∀ v, assign (.Subscript o i pos') X.env v = (do
      let ov ← holding [v] (eval o X.env)
      let iv ← holding [v, ov] (eval i X.env)
      standAt pos'
      holding [v, ov, iv] (setItem ov iv v)
      release [v, ov, iv] []))
    (hs : swapsWithSole [.Subscript o i pos'] e pos.line X.env = pure false) (hw : swappedStores [.Subscript o i pos'] e X.env = pure none) (h1 : (assignEach [.Subscript o i pos'] X.env).map (·.2) = [assign (.Subscript o i pos') X.env]) :
    SS E X W (.Assign [.Subscript o i pos'] e pos) (sPut p fe fo fi) := by
  refine PS.imp (ps_asg he (pg_sub ho hi hp ha) hs hw h1) fun D σ H h => ?_
  refine rdS_step h fun v' H1 ρ σa A v hs hh hv q => ?_
  refine ⟨ρ, σa, A, hs, hh, ?_⟩
  cases e1 : fo σa A with
  | err c i A2 => rw [e1] at q; exact fun ρ' H' d x rh rx => q ρ' H' σ d x rh (hs.ext x) rx
  | bad => rw [e1] at q; exact q
  | ok ov A2 =>
    rw [e1] at q
    intro ρ2 H2 o' xt rh ro
    refine ⟨ρ2, σa, A2, hs.ext xt, rh, ?_⟩
    have q : PostS E ((fi σa A2).toS σa fun i A3 => match p ov i v A3 with
      | some A' => .nx σa A'
      | none => .bad) ρ H1 D W := q
    cases e2 : fi σa A2 with
    | err c i A3 => rw [e2] at q; exact fun ρ' H' d x rh rx => q ρ' H' σ d (xt.trans x) rh ((hs.ext xt).ext x) rx
    | bad => rw [e2] at q; exact q
    | ok iv A3 =>
      rw [e2] at q
      intro ρ3 H3 i' xt3 rh3 ri
      refine ⟨ρ3, A3, ov, iv, v, rh3, ro.ext xt3, ri, (hv.ext xt).ext xt3, ?_⟩
      dsimp only [Res.toS] at q
      cases e3 : p ov iv v A3 with
      | none => rw [e3] at q; exact q
      | some A' =>
        rw [e3] at q
        exact fun ρ4 H4 x4 rh4 => q ρ4 H4 σ ((xt.trans xt3).trans x4) rh4 (((hs.ext xt).ext xt3).ext x4)
/-- name op= e -/
def IpS (E : En) (X : Cx) (op : Operator) (p : Op2) : Prop := PIp X op (r2 E p)
def sAug (i : Nat) (p : Op2) (f : Den AV) : SDen := fun σ A => match σ[i]? with
  | some (some x) => (f σ A).toS σ fun y A1 => match p x y A1 with
    | some (z, A2) => .nx (σ.set i (some z)) A2
    | none => .bad
  | _ => .bad
theorem ss_aug {i : Nat} {x : Str} {e : Expr} {f : Den AV} {op : Operator} {p : Op2} {pos pos' : Pos} (hN : X.N.Nodup) (hi : X.N[i]? = some x) (hx : Loc X.env.scope x) (he : SE E X W e f) (ho : IpS E X op p) (hf : X.fn x = true ∨ X.env.scope.names.lookup x = some .local) :
    SS E X W (.AugAssign (.Name x pos') op e pos) (sAug i p f) := by
  refine PS.imp (ps_aug hN hi hx he ho hf) fun D σ H h => ?_
  obtain ⟨ρ, σa, A, hs, hh, q⟩ := h
  unfold sAug at q
  cases e0 : σa[i]? with
  | none => rw [e0] at q; exact q.elim
  | some o => cases o with
    | none => rw [e0] at q; exact q.elim
    | some xv =>
      rw [e0] at q
      obtain ⟨xv', e', rx⟩ := hs.at_ i xv e0
      refine ⟨xv', e', ρ, σa, A, hs, hh, ?_⟩
      dsimp only at q
      cases e1 : f σa A with
      | err c i A2 => rw [e1] at q; exact fun ρ' H' d x rh rx => q ρ' H' σ d x rh (hs.ext x) rx
      | bad => rw [e1] at q; exact q
      | ok y A1 =>
        rw [e1] at q
        intro ρ1 H1 y' xt rh ry
        refine ⟨ρ1, A1, xv, y, rh, rx.ext xt, ry, ?_⟩
        dsimp only [Res.toS] at q
        cases e2 : p xv y A1 with
        | none => rw [e2] at q; exact q
        | some zz =>
          obtain ⟨z, A2⟩ := zz
          rw [e2] at q
          exact fun ρ2 H2 z' x2 rh2 rz => q ρ2 H2 _ (xt.trans x2) rh2 (((hs.ext xt).ext x2).set i rz)
/-! ### what is walked -/
abbrev Src := Nat → AHp → Option (Option AV)
/-- a walked thing answers as its source says -/
def JOk (E : En) (J : It) (src : Src) (ρ0 : List Addr) (H0 : Hp) : Prop := ∀ ρ A H i, Ext ρ0 H0 ρ H → RH E ρ H A → (src i A = some none → J.stop i H) ∧ ∀ x, src i A = some (some x) → J.go i H ∧ ∀ x' H', J.yld i H x' H' → RH E ρ H' A ∧ Ext ρ H ρ H' ∧ RV E ρ H' x x'
abbrev IDen := ASt → AHp → Res (Src × Nat)
def rdI (E : En) (f : IDen) (W : WX) : TI := fun σ H R => ∃ ρ σa A, RS E ρ H σa σ ∧ RH E ρ H A ∧ match f σa A with
  | .ok (src, _) A1 => ∀ ρ' H' J, Ext ρ H ρ' H' → RH E ρ' H' A1 → JOk E J src ρ' H' → R J H'
  | .err c x A1 => ∀ ρ' H' d, Ext ρ H ρ' H' → RH E ρ' H' A1 → RX E H' c x d → W (.ref (E.cad c)) d σ H'
  | .bad => False
abbrev SI (E : En) (X : Cx) (W : WX) (tg e : Expr) (f : IDen) : Prop := PI X tg e (rdI E f W)
def srcL (n : Nat) : Src := fun i A => match A[n]? with
  | some (.lst xs _) => some xs[i]?
  | _ => none
def srcC (xs : List AV) : Src := fun i _ => some xs[i]?
def strs1 (z : Str) : List AV := z.cps.toList.map fun c => .str ⟨#[c]⟩
/-- lists, tuples, texts -/
def iterOf (v : AV) (A : AHp) : Res (Src × Nat) := match v with
  | .tup xs => .ok (srcC xs, xs.length + 1) A
  | .ktup xs => .ok (srcC xs, xs.length + 1) A
  | .str z => .ok (srcC (strs1 z), z.cps.size + 1) A
  | .ref n => (match A[n]? with
    | some (.lst xs _) => .ok (srcL n, xs.length + 1) A
    | _ => .bad)
  | _ => .bad
def iAny (f : Den AV) : IDen := fun σ A => (f σ A).bind fun v A1 => iterOf v A1
theorem jok_list {n : Nat} {a : Addr} {ρ0 : List Addr} {H0 : Hp} (K : PySem.W.Frag) (ea : ρ0[n]? = some a) : JOk E (Itl K a) (srcL n) ρ0 H0 := by
  intro ρ A H i x hh
  have ea' := x.pre n a ea
  unfold srcL
  cases e1 : A[n]? with
  | none => exact ⟨fun z => (nomatch z), fun _ z => (nomatch z)⟩
  | some o => cases o with
    | lst xs ro =>
      obtain ⟨p0, ys, p1, r2, w0, _⟩ := hh.lst e1
      rw [ea'] at p1
      cases p1
      dsimp only
      refine ⟨fun z => ⟨ys, .inl w0, ?_⟩, fun v z => ?_⟩
      · have z2 := List.getElem?_eq_none_iff.mp (Option.some.inj z)
        rw [r2.length]
        exact z2
      · obtain ⟨y, ey, ry⟩ := r2.get (Option.some.inj z)
        refine ⟨⟨ys, y, .inl w0, ey⟩, fun x' H' ⟨eH, hy⟩ => ?_⟩
        subst eH
        have e3 := hy ys (.inl w0)
        rw [ey] at e3
        cases e3
        exact ⟨hh, Ext.refl _ _, ry⟩
    | dict _ _ => exact ⟨fun z => (nomatch z), fun _ z => (nomatch z)⟩
    | ins _ _ => exact ⟨fun z => (nomatch z), fun _ z => (nomatch z)⟩
    | dn _ => exact ⟨fun z => (nomatch z), fun _ z => (nomatch z)⟩
theorem jok_tup {xs : List AV} {ys : List V} {a : Addr} {ρ0 : List Addr} {H0 : Hp} (K : PySem.W.Frag) (st : H0 a = some (.tup ys)) (r : RVs E ρ0 H0 xs ys) : JOk E (Itt K a) (srcC xs) ρ0 H0 := by
  intro ρ A H i x hh
  have st' := x.fx a _ st rfl
  have r' := r.ext x
  refine ⟨fun z => ⟨ys, .inl (.inl st'), ?_⟩, fun v z => ?_⟩
  · have z2 := List.getElem?_eq_none_iff.mp (Option.some.inj z)
    rw [r.length]
    exact z2
  · obtain ⟨y, ey, ry⟩ := r'.get (Option.some.inj z)
    refine ⟨⟨ys, y, .inl (.inl st'), ey⟩, fun x' H' ⟨eH, hy⟩ => ?_⟩
    subst eH
    have e3 := hy ys (.inl (.inl st'))
    rw [ey] at e3
    cases e3
    exact ⟨hh, Ext.refl _ _, ry⟩
theorem jok_ktup (hK : X.K = E.K) {xs : List AV} {ys : List V} {a : Addr} {ρ0 : List Addr} {H0 : Hp} (st : SqT E.K H0 a ys) (r : RVs E ρ0 H0 xs ys) : JOk E (Itt X.K a) (srcC xs) ρ0 H0 := by
  intro ρ A H i x hh
  have st' : SqT X.K H a ys := hK ▸ SqT.ext x.v.fx st
  have r' := r.ext x
  refine ⟨fun z => ⟨ys, st', ?_⟩, fun v z => ?_⟩
  · have z2 := List.getElem?_eq_none_iff.mp (Option.some.inj z)
    rw [r.length]
    exact z2
  · obtain ⟨y, ey, ry⟩ := r'.get (Option.some.inj z)
    refine ⟨⟨ys, y, st', ey⟩, fun x' H' ⟨eH, hy⟩ => ?_⟩
    subst eH
    have e3 := hy ys st'
    rw [ey] at e3
    cases e3
    exact ⟨hh, Ext.refl _ _, ry⟩
theorem jok_str {z : Str} {ρ0 : List Addr} {H0 : Hp} : JOk E (Its z) (srcC (strs1 z)) ρ0 H0 := by
  intro ρ A H i x hh
  refine ⟨fun e => ?_, fun v e => ?_⟩
  · have e2 := List.getElem?_eq_none_iff.mp (Option.some.inj e)
    unfold strs1 at e2
    rw [List.length_map] at e2
    show z.cps.size ≤ i
    simpa using e2
  · have e2 := Option.some.inj e
    unfold strs1 at e2
    rw [List.getElem?_map] at e2
    obtain ⟨c, e3, rfl⟩ := Option.map_eq_some_iff.mp e2
    have e4 : z.cps[i]? = some c := by simpa using e3
    have hlt : i < z.cps.size := by
      obtain ⟨h, _⟩ := Array.getElem?_eq_some_iff.mp e4
      exact h
    refine ⟨hlt, fun x' H' ⟨eH, c', hc, hv⟩ => ?_⟩
    subst eH
    rw [e4] at hc
    cases hc
    subst hv
    exact ⟨hh, Ext.refl _ _, rfl⟩
theorem si_any (hK : X.K = E.K) {tg e : Expr} {f : Den AV} (he : SE E X W e f) : SI E X W tg e (iAny f) := by
  refine ⟨fun pins s σ H R I h => ?_⟩
  obtain ⟨ρ, σa, A, hs, hh, q⟩ := h
  unfold iAny at q
  cases e1 : f σa A with
  | err c i A2 =>
    rw [e1] at q
    exact (pi_list (X := X) (tg := tg) he).run pins s σ H R I ⟨ρ, σa, A, hs, hh, by rw [e1]; exact q⟩
  | bad => rw [e1] at q; exact q.elim
  | ok v A1 =>
    rw [e1] at q
    dsimp only [Res.bind] at q
    unfold iterOf at q
    cases v with
    | tup xs =>
      refine (pi_tup (X := X) (tg := tg) he).run pins s σ H R I ⟨ρ, σa, A, hs, hh, ?_⟩
      rw [e1]
      rintro ρ1 H1 b x rh ⟨a, ys, rfl, st, r⟩
      exact ⟨a, rfl, ⟨ys, .inl (.inl st)⟩, q ρ1 H1 _ x rh (jok_tup _ st r)⟩
    | ktup xs =>
      refine (pi_tup (X := X) (tg := tg) he).run pins s σ H R I ⟨ρ, σa, A, hs, hh, ?_⟩
      rw [e1]
      rintro ρ1 H1 b x rh ⟨a, ys, rfl, st, r⟩
      exact ⟨a, rfl, ⟨ys, hK ▸ st⟩, q ρ1 H1 _ x rh (jok_ktup hK st r)⟩
    | str z =>
      refine (pi_str (X := X) (tg := tg) he).run pins s σ H R I ⟨ρ, σa, A, hs, hh, ?_⟩
      rw [e1]
      intro ρ1 H1 b x rh rb
      cases rb
      exact ⟨z, rfl, q ρ1 H1 _ x rh jok_str⟩
    | ref n =>
      dsimp only at q
      cases e2 : A1[n]? with
      | none => rw [e2] at q; exact q.elim
      | some o => cases o with
        | lst xs ro =>
          rw [e2] at q
          refine (pi_list (X := X) (tg := tg) he).run pins s σ H R I ⟨ρ, σa, A, hs, hh, ?_⟩
          rw [e1]
          intro ρ1 H1 b x rh rb
          obtain ⟨p0, ys, p1, r2, w0, _⟩ := rh.lst e2
          have ex := RVref rb p1
          subst ex
          exact ⟨p0, rfl, ⟨ys, .inl w0⟩, q ρ1 H1 _ x rh (jok_list _ p1)⟩
        | dict _ _ => rw [e2] at q; exact q.elim
        | ins _ _ => rw [e2] at q; exact q.elim
        | dn _ => rw [e2] at q; exact q.elim
    | _ => exact q.elim
/-! ### ranges -/
def srcR (lo : Int) (n : Nat) : Src := fun i _ => some (if i < n then some (.int (lo + i)) else none)
def rngOk (i : Int) : Bool := decide (-(2 ^ 62) ≤ i) && decide (i < 2 ^ 62)
def rng1 : List AV → Option (Int × Nat)
  | [.int j] => if rngOk j = true then some (0, j.toNat) else none
  | _ => none
def rng2 : List AV → Option (Int × Nat)
  | [.int i, .int j] => if rngOk i = true ∧ rngOk j = true then some (i, (j - i).toNat) else none
  | _ => none
def srcOf (r : Option (Int × Nat)) (A : AHp) : Res (Src × Nat) := match r with
  | some (lo, n) => .ok (srcR lo n, n + 1) A
  | none => .bad
def iR1 (f : Den (List AV)) : IDen := fun σ A => (f σ A).bind fun vs A1 => srcOf (rng1 vs) A1
def iR2 (f : Den (List AV)) : IDen := fun σ A => (f σ A).bind fun vs A1 => srcOf (rng2 vs) A1
theorem rngOk_iff {i : Int} : rngOk i = true ↔ -(2 ^ 62) ≤ i ∧ i < 2 ^ 62 := by
  unfold rngOk
  rw [Bool.and_eq_true, decide_eq_true_eq, decide_eq_true_eq]
theorem jok_rng {lo : Int} {n : Nat} {ρ0 : List Addr} {H0 : Hp} : JOk E (Itr lo n) (srcR lo n) ρ0 H0 := by
  intro ρ A H i x hh
  unfold srcR
  by_cases h : i < n
  · simp only [if_pos h]
    refine ⟨fun e => (nomatch e), fun v e => ?_⟩
    cases e
    refine ⟨h, fun x' H' ⟨eH, hv⟩ => ?_⟩
    subst eH hv
    exact ⟨hh, Ext.refl _ _, rfl⟩
  · simp only [if_neg h]
    exact ⟨fun _ => Nat.le_of_not_lt h, fun v e => (nomatch e)⟩
theorem si_r1 {tg a : Expr} {f : Den (List AV)} {p pos : Pos} (hg : Gl X "range") (hm : X.mg "range" = none) (ha : SA E X W [a] f) (hs : starEach [a] X.env = [(false, eval a X.env)]) : SI E X W tg (.Call (.Name "range" p) [a] [] pos) (iR1 f) := by
  refine ⟨fun pins s σ H R I h => ?_⟩
  obtain ⟨ρ, σa, A, hs', hh, q⟩ := h
  refine (pi_range1 (X := X) (tg := tg) (p := p) (pos := pos) hg hm ha hs).run pins s σ H R I ⟨ρ, σa, A, hs', hh, ?_⟩
  unfold iR1 at q
  cases e1 : f σa A with
  | err c i A2 => rw [e1] at q; exact q
  | bad => rw [e1] at q; exact q
  | ok vs A1 =>
    rw [e1] at q
    dsimp only [Res.bind] at q
    intro ρ1 H1 b x rh rb
    cases e2 : rng1 vs with
    | none => rw [e2] at q; exact q.elim
    | some lo =>
      rw [e2] at q
      unfold rng1 at e2
      split at e2
      · rename_i j
        obtain ⟨y, rfl, r1⟩ := rvs1 rb
        cases r1
        split at e2
        · rename_i hz
          cases e2
          obtain ⟨h1, h2⟩ := rngOk_iff.mp hz
          exact ⟨j, rfl, h1, h2, q ρ1 H1 _ x rh jok_rng⟩
        · cases e2
      · cases e2
theorem si_r2 {tg a b : Expr} {f : Den (List AV)} {p pos : Pos} (hg : Gl X "range") (hm : X.mg "range" = none) (ha : SA E X W [a, b] f) (hs : starEach [a, b] X.env = [(false, eval a X.env), (false, eval b X.env)]) (hs2 : starEach [b] X.env = [(false, eval b X.env)]) :
    SI E X W tg (.Call (.Name "range" p) [a, b] [] pos) (iR2 f) := by
  refine ⟨fun pins s σ H R I h => ?_⟩
  obtain ⟨ρ, σa, A, hs', hh, q⟩ := h
  refine (pi_range2 (X := X) (tg := tg) (p := p) (pos := pos) hg hm ha hs hs2).run pins s σ H R I ⟨ρ, σa, A, hs', hh, ?_⟩
  unfold iR2 at q
  cases e1 : f σa A with
  | err c i A2 => rw [e1] at q; exact q
  | bad => rw [e1] at q; exact q
  | ok vs A1 =>
    rw [e1] at q
    dsimp only [Res.bind] at q
    intro ρ1 H1 b x rh rb
    cases e2 : rng2 vs with
    | none => rw [e2] at q; exact q.elim
    | some lo =>
      rw [e2] at q
      unfold rng2 at e2
      split at e2
      · rename_i i j
        obtain ⟨y, z, rfl, r1, r2⟩ := rvs2 rb
        cases r1; cases r2
        split at e2
        · rename_i hz
          cases e2
          obtain ⟨h1, h2⟩ := rngOk_iff.mp hz.1
          obtain ⟨h3, h4⟩ := rngOk_iff.mp hz.2
          exact ⟨i, j, rfl, ⟨h1, h2, h3, h4⟩, q ρ1 H1 _ x rh jok_rng⟩
        · cases e2
      · cases e2
/-! ### for -/
def loopS (src : Src) (g : GDen) (body : SDen) : Nat → Nat → ASt → AHp → SR
  | 0, _, _, _ => .bad
  | n + 1, i, σ, A => match src i A with
    | none => .bad
    | some none => .nx σ A
    | some (some x) => match g x σ A with
      | none => .bad
      | some σ1 => match body σ1 A with
        | .nx σ2 A2 => loopS src g body n (i + 1) σ2 A2
        | .ct σ2 A2 => loopS src g body n (i + 1) σ2 A2
        | .bk σ2 A2 => .nx σ2 A2
        | r => r
def sFor (it : IDen) (g : GDen) (body : SDen) : SDen := fun σ A => (it σ A).toS σ fun sn A1 => loopS sn.1 g body sn.2 0 σ A1
theorem ss_for {tg iter : Expr} {body : List Stmt} {it : IDen} {g : GDen} {f : SDen} {pos : Pos} (c : Ctx E k X W) (hi : SI E X W tg iter it) (hg : SG E X tg g) (hb : SSs E X W body f)
    (hs : ∀ x, foldedSetIterable iter X.env x = pure x) : SS E X W (.For tg iter body [] pos) (sFor it g f) := by
  refine PS.imp (ps_for c.po c.calm hi hg hb hs) fun D σ H h => ?_
  obtain ⟨ρ, σa, A, hs', hh, q⟩ := h
  unfold sFor at q
  refine ⟨ρ, σa, A, hs', hh, ?_⟩
  cases e1 : it σa A with
  | err c i A2 => rw [e1] at q; exact fun ρ' H' d x rh rx => q ρ' H' σ d x rh (hs'.ext x) rx
  | bad => rw [e1] at q; exact q
  | ok sn A1 =>
    obtain ⟨src, n⟩ := sn
    rw [e1] at q
    have q : PostS E (loopS src g f n 0 σa A1) ρ H D W := q
    intro ρ1 H1 J x1 rh1 jok
    refine ⟨fun i m σ H => ∃ ρ2 σa2 A2, Ext ρ1 H1 ρ2 H ∧ RS E ρ2 H σa2 σ ∧ RH E ρ2 H A2 ∧ PostS E (loopS src g f m i σa2 A2) ρ2 H D W, ⟨n, ρ1, σa, A1, Ext.refl _ _, hs'.ext x1, rh1, PostS.ext q x1⟩, ?_⟩
    rintro i m σ2 H2 ⟨ρ2, σa2, A2, x2, hs2, rh2, q2⟩
    cases m with
    | zero => exact q2.elim
    | succ m =>
      unfold loopS at q2
      obtain ⟨j1, j2⟩ := jok ρ2 A2 H2 i x2 rh2
      cases e2 : src i A2 with
      | none => rw [e2] at q2; exact q2.elim
      | some o => cases o with
        | none =>
          rw [e2] at q2
          exact .inl ⟨j1 e2, q2 ρ2 H2 σ2 (Ext.refl _ _) rh2 hs2⟩
        | some v =>
          rw [e2] at q2
          dsimp only at q2
          obtain ⟨go, yl⟩ := j2 v e2
          refine .inr ⟨go, fun σ' H' => ∃ ρ2 σa2 A2, Ext ρ1 H1 ρ2 H' ∧ RS E ρ2 H' σa2 σ' ∧ RH E ρ2 H' A2 ∧ PostS E (loopS src g f m (i + 1) σa2 A2) ρ2 H' D W, fun σ' H' z => ⟨m, Nat.lt_succ_self m, z⟩, fun v' H3 hy => ?_⟩
          obtain ⟨rh3, x3, rv⟩ := yl v' H3 hy
          refine ⟨ρ2, σa2, A2, v, hs2.ext x3, rh3, rv, ?_⟩
          cases e3 : g v σa2 A2 with
          | none => rw [e3] at q2; exact q2.elim
          | some σ1 =>
            rw [e3] at q2
            intro ρ4 H4 σ4 x4 rh4 hs4
            refine ⟨ρ4, σ1, A2, hs4, rh4, ?_⟩
            dsimp only at q2
            have x14 := (x2.trans x3).trans x4
            cases e4 : f σ1 A2 with
            | nx σ5 A5 =>
              rw [e4] at q2
              exact fun ρ6 H6 σ6 x6 rh6 hs6 => ⟨ρ6, σ5, A5, x14.trans x6, hs6, rh6, PostS.ext q2 ((x3.trans x4).trans x6)⟩
            | ct σ5 A5 =>
              rw [e4] at q2
              exact fun ρ6 H6 σ6 x6 rh6 hs6 => ⟨ρ6, σ5, A5, x14.trans x6, hs6, rh6, PostS.ext q2 ((x3.trans x4).trans x6)⟩
            | bk σ5 A5 =>
              rw [e4] at q2
              exact fun ρ6 H6 σ6 x6 rh6 hs6 => q2 ρ6 H6 σ6 ((x3.trans x4).trans x6) rh6 hs6
            | rt v5 A5 =>
              rw [e4] at q2
              exact fun ρ6 H6 v6 x6 rh6 r6 => q2 ρ6 H6 v6 ((x3.trans x4).trans x6) rh6 r6
            | er σ5 c5 r5 A5 =>
              rw [e4] at q2
              exact fun ρ6 H6 σ6 d6 x6 rh6 hs6 r6 => q2 ρ6 H6 σ6 d6 ((x3.trans x4).trans x6) rh6 hs6 r6
            | bad => rw [e4] at q2; exact q2.elim
end
end Ev
end
section
/-! Ev, ninth part: comprehensions, dict displays, fields, instances, own methods, defs. -/
namespace Ev
open PySem PySem.Spec L2
set_option autoImplicit false
abbrev W0 : WX := fun _ _ _ _ => False
section
variable {E : En} {X : Cx} {W : WX} {k : Nat} {ρ : List Addr} {H : Hp}
theorem Ctx.blk (c : Ctx E k X W) (s : Shared) (H : Hp) (scope : Scope) (cenv : Env) (fp : List Addr) : Ctx E k (X.blk s H scope cenv fp) W0 :=
  ⟨c.hK, c.calm, c.room, fun _ _ ⟨_, _, _, _, _, _, _, _, _, _, _, _, _, _, _, _, w⟩ => w.elim, PassesOwn.never, c.h0, c.hP⟩
def wipeA : ASt → List Nat → ASt
  | σ, [] => σ
  | σ, v :: vs => (wipeA σ vs).set v none
theorem RS_wipe {σa : ASt} {σ : St} (h : RS E ρ H σa σ) : ∀ vs : List Nat, RS E ρ H (wipeA σa vs) (wipe σ vs)
  | [] => h
  | v :: vs => by
    have ih := RS_wipe h vs
    refine ⟨by show ((wipeA σa vs).set v none).length = ((wipe σ vs).set v none).length; rw [List.length_set, List.length_set]; exact ih.len, fun j y e => ?_⟩
    have e : ((wipeA σa vs).set v none)[j]? = some (some y) := e
    show ∃ u, ((wipe σ vs).set v none)[j]? = some (some u) ∧ _
    by_cases hj : j = v
    · subst hj
      by_cases hlt : j < (wipeA σa vs).length
      · rw [List.getElem?_set_self hlt] at e; cases e
      · rw [List.getElem?_eq_none (by rw [List.length_set]; omega)] at e; cases e
    · rw [List.getElem?_set_ne (Ne.symm hj)] at e
      obtain ⟨u, e2, q⟩ := ih.at_ j y e
      exact ⟨u, by rw [List.getElem?_set_ne (Ne.symm hj)]; exact e2, q⟩
/-- a target of a comprehension: it stores its own names alone -/
def rdGw (E : En) (vs : List Nat) (g : GDen) : TG := fun v σ H Q => ∃ ρ σa A x, RS E ρ H σa σ ∧ RH E ρ H A ∧ RV E ρ H x v ∧ match g x σa A with
  | some σa' => ∀ ρ' H' σ', Ext ρ H ρ' H' → RH E ρ' H' A → RS E ρ' H' σa' σ' → wipe σ' vs = wipe σ vs → Q σ' H'
  | none => False
abbrev SGw (E : En) (vs : List Nat) (X : Cx) (tg : Expr) (g : GDen) : Prop := PG X tg (rdGw E vs g)
theorem wipe_set {i : Nat} : ∀ {vs : List Nat} {σ : St} {v : V}, i ∈ vs → wipe (σ.set i (some v)) vs = wipe σ vs
  | [], _, _, h => by cases h
  | a :: vs, σ, v, h => by
    show (wipe (σ.set i (some v)) vs).set a none = (wipe σ vs).set a none
    by_cases ha : i ∈ vs
    · rw [wipe_set ha]
    · have e : i = a := by
        rcases List.mem_cons.mp h with e | e
        · exact e
        · exact absurd e ha
      subst e
      -- wiping others commutes with the store
      have key : ∀ {vs : List Nat} {σ : St}, i ∉ vs → wipe (σ.set i (some v)) vs = (wipe σ vs).set i (some v) := by
        intro vs
        induction vs with
        | nil => intro σ _; rfl
        | cons b vs ih =>
          intro σ hb
          show (wipe (σ.set i (some v)) vs).set b none = ((wipe σ vs).set b none).set i (some v)
          rw [ih fun z => hb (List.mem_cons_of_mem _ z)]
          rw [List.set_comm _ _ (fun e => hb (by rw [e]; exact List.mem_cons_self))]
      rw [key ha, List.set_set]
theorem sgw_name {i : Nat} {x : Str} {pos : Pos} {vs : List Nat} (hv : i ∈ vs) (hN : X.N.Nodup) (hi : X.N[i]? = some x) (hx : Loc X.env.scope x) (hf : X.fn x = true ∨ X.env.scope.names.lookup x = some .local) : SGw E vs X (.Name x pos) (gNm i) := by
  refine PG.imp (pg_name hN hi hx hf) fun v σ H Q ⟨ρ, σa, A, z, hs, hh, hz, q⟩ => ?_
  exact q ρ H _ (Ext.refl _ _) hh (hs.set i hz) (wipe_set hv)
def rdGsw (E : En) (vs : List Nat) (g : GsDen) : TGs := fun us σ H Q => ∃ ρ σa A xs, RS E ρ H σa σ ∧ RH E ρ H A ∧ RVs E ρ H xs us ∧ match g xs σa A with
  | some σa' => ∀ ρ' H' σ', Ext ρ H ρ' H' → RH E ρ' H' A → RS E ρ' H' σa' σ' → wipe σ' vs = wipe σ vs → Q σ' H'
  | none => False
abbrev SGsw (E : En) (vs : List Nat) (X : Cx) (tg : List Expr) (g : GsDen) : Prop := PGs X tg (rdGsw E vs g)
theorem sgsw_nil {vs : List Nat} : SGsw E vs X [] gsNil := by
  refine PGs.imp pgs_nil fun v σ H Q ⟨ρ, σa, A, z, hs, hh, hz, q⟩ => ?_
  cases z with
  | nil => cases hz; exact ⟨rfl, q ρ H _ (Ext.refl _ _) hh hs rfl⟩
  | cons a b => exact q.elim
theorem sgsw_cons {vs : List Nat} {e : Expr} {es : List Expr} {g : GDen} {gs : GsDen} (h1 : SGw E vs X e g) (h2 : SGsw E vs X es gs) (hs : (assignEach (e :: es) X.env).map (·.2) = assign e X.env :: (assignEach es X.env).map (·.2)) : SGsw E vs X (e :: es) (gsCons g gs) := by
  refine PGs.imp (pgs_cons h1 h2 hs) fun v σ H Q ⟨ρ, σa, A, z, hs, hh, hz, q⟩ => ?_
  cases z with
  | nil => exact q.elim
  | cons a b =>
    obtain ⟨y, ys, rfl, r1, r2⟩ := hz
    refine ⟨y, ys, rfl, ρ, σa, A, a, hs, hh, r1, ?_⟩
    unfold gsCons at q
    dsimp only at q
    cases e1 : g a σa A with
    | none => rw [e1] at q; exact q.elim
    | some σ1 =>
      rw [e1] at q
      dsimp only [Option.bind] at q
      intro ρ' H' σ' x rh rs w1
      refine ⟨ρ', σ1, A, b, rs, rh, r2.ext x, ?_⟩
      cases e2 : gs b σ1 A with
      | none => rw [e2] at q; exact q.elim
      | some σ2 =>
        rw [e2] at q
        exact fun ρ2 H2 σ2' x2 rh2 rs2 w2 => q ρ2 H2 σ2' (x.trans x2) rh2 rs2 (w2.trans w1)
theorem sgw_tup {vs : List Nat} {es : List Expr} {k2 : Nat} {gs : GsDen} {n : Nat} {pos : Pos} (hc : X.calm = true) (h : SGsw E vs X es gs)
    (hn : (assignEach es X.env).length = n) (hst : (assignEach es X.env).findIdx? (·.1) = none) : SGw E vs X (.Tuple es k2 pos) (gTp n gs) := by
  refine PG.imp (pg_tup hc h hn hst) fun v σ H Q ⟨ρ, σa, A, z, hs, hh, hz, q⟩ => ?_
  unfold gTp at q
  cases z with
  | tup xs =>
    obtain ⟨a, ys, rfl, st, r⟩ := hz
    dsimp only at q
    by_cases hl : xs.length = n
    · rw [if_pos hl] at q
      exact ⟨a, ys, rfl, .inl (.inl st), by rw [r.length]; exact hl, ρ, σa, A, xs, hs, hh, r, q⟩
    · rw [if_neg hl] at q
      exact q.elim
  | _ => exact q.elim
/-- tests of a clause -/
def dYes : Den Bool := fun _ A => .ok true A
abbrev STs (E : En) (X : Cx) (W : WX) (ifs : List Expr) (f : Den Bool) : Prop := PTs X ifs (rd E relB f W)
theorem PTs.imp {X : Cx} {e : List Expr} {t t' : TT} (h : PTs X e t) (k : ∀ σ H Q, t' σ H Q → t σ H Q) : PTs X e t' := ⟨fun pins s σ H Q I q => h.run pins s σ H Q I (k σ H Q q)⟩
theorem sts_nil : STs E X W [] dYes := PTs.imp pts_nil fun σ H Q ⟨ρ, σa, A, hs, hh, q⟩ => q ρ H true (Ext.refl _ _) hh rfl
theorem sts_one {c : Expr} {f : Den Bool} (h : STt E X W c f) : STs E X W [c] f := pts_one h
def compL (src : Src) (g : GDen) (t : Den Bool) (e : Den AV) (d : Nat) (σ : ASt) : Nat → Nat → AHp → Res AV
  | 0, _, _ => .bad
  | n + 1, i, A => match src i A with
    | none => .bad
    | some none => .ok (.ref d) A
    | some (some x) => match g x σ A with
      | none => .bad
      | some σ1 => match t σ1 A with
        | .ok true A1 => (match e σ1 A1 with
          | .ok v A2 => (match A2[d]? with
            | some (.lst acc false) => if acc.length < sizeLine then compL src g t e d σ n (i + 1) (A2.set d (.lst (acc ++ [v]) false)) else .bad
            | _ => .bad)
          | _ => .bad)
        | .ok false A1 => compL src g t e d σ n (i + 1) A1
        | _ => .bad
def dLc (it : IDen) (g : GDen) (t : Den Bool) (e : Den AV) (vs : List Nat) : Den AV := fun σ A => (it σ A).bind fun sn A1 => compL sn.1 g t e A1.length (wipeA σ vs) sn.2 0 (A1 ++ [.lst [] false])
theorem lc_rd {it : IDen} {g : GDen} {t : Den Bool} {e : Den AV} {vs : List Nat} {σ : St} {H : Hp} {Q : VK} (h : rd E (RV E) (dLc it g t e vs) W σ H Q) :
    tLc (rdI E it W) (rdGw E vs g) (rd E relB t W0) (rd E (RV E) e W0) vs σ H Q := by
  obtain ⟨ρ, σa, A, hs, hh, q⟩ := h
  unfold dLc at q
  refine ⟨ρ, σa, A, hs, hh, ?_⟩
  cases e1 : it σa A with
  | err c i A2 => rw [e1] at q; exact q
  | bad => rw [e1] at q; exact q
  | ok sn A1 =>
    obtain ⟨src, n⟩ := sn
    rw [e1] at q
    have q : Post E (RV E) (compL src g t e A1.length (wipeA σa vs) n 0 (A1 ++ [.lst [] false])) ρ H Q (fun c d H' => W c d σ H') := q
    intro ρ1 H1 J x1 rh1 jok D hD
    obtain ⟨z1, z2, z3⟩ := newLst rh1 hD (show RVs E ρ1 H1 [] [] from rfl)
    have hd : (ρ1 ++ [D])[A1.length]? = some D := by
      obtain ⟨a, ea, e5⟩ := z3
      cases e5
      exact ea
    refine ⟨fun i m H2 => ∃ ρ2 A2, Ext (ρ1 ++ [D]) (upd H1 D (.lst [])) ρ2 H2 ∧ RH E ρ2 H2 A2 ∧ Post E (RV E) (compL src g t e A1.length (wipeA σa vs) m i A2) ρ2 H2 Q (fun c d H' => W c d σ H'), ⟨n, _, _, Ext.refl _ _, z1, q.ext (x1.trans z2)⟩, ?_⟩
    rintro i m H2 ⟨ρ2, A2, x2, rh2, q2⟩
    have xa := z2.trans x2
    have hd2 : ρ2[A1.length]? = some D := x2.pre _ _ hd
    cases m with
    | zero => exact q2.elim
    | succ m =>
      unfold compL at q2
      obtain ⟨j1, j2⟩ := jok ρ2 A2 H2 i xa rh2
      cases e2 : src i A2 with
      | none => rw [e2] at q2; exact q2.elim
      | some o => cases o with
        | none =>
          rw [e2] at q2
          exact .inl ⟨j1 e2, q2 ρ2 H2 _ (Ext.refl _ _) rh2 ⟨D, hd2, rfl⟩⟩
        | some v =>
          rw [e2] at q2
          dsimp only at q2
          obtain ⟨go, yl⟩ := j2 v e2
          refine .inr ⟨go, fun H' => ∃ ρ3 A3, Ext (ρ1 ++ [D]) (upd H1 D (.lst [])) ρ3 H' ∧ RH E ρ3 H' A3 ∧ Post E (RV E) (compL src g t e A1.length (wipeA σa vs) m (i + 1) A3) ρ3 H' Q (fun c d H' => W c d σ H'), fun H' z => ⟨m, Nat.lt_succ_self m, z⟩, fun v' H3 hy => ?_⟩
          obtain ⟨rh3, x3, rv⟩ := yl v' H3 hy
          have xs3 : RS E ρ2 H3 (wipeA σa vs) (wipe σ vs) := (RS_wipe hs vs).ext ((x1.trans xa).trans x3)
          refine ⟨ρ2, wipeA σa vs, A2, v, xs3, rh3, rv, ?_⟩
          cases e3 : g v (wipeA σa vs) A2 with
          | none => rw [e3] at q2; exact q2.elim
          | some σ1 =>
            rw [e3] at q2
            intro ρ4 H4 σ4 x4 rh4 hs4 w4
            have ww : wipe σ4 vs = wipe σ vs := w4.trans (wipe_wipe σ vs)
            refine ⟨ww, ρ4, σ1, A2, hs4, rh4, ?_⟩
            dsimp only at q2
            have x24 := x3.trans x4
            cases e4 : t σ1 A2 with
            | err _ _ _ => rw [e4] at q2; exact q2.elim
            | bad => rw [e4] at q2; exact q2.elim
            | ok b A5 =>
              rw [e4] at q2
              intro ρ5 H5 b' x5 rh5 hb
              have hb : b' = b := hb
              subst hb
              cases b' with
              | false =>
                exact ⟨ρ5, A5, x2.trans (x24.trans x5), rh5, q2.ext (x24.trans x5)⟩
              | true =>
                dsimp only at q2
                refine ⟨ρ5, σ1, A5, hs4.ext x5, rh5, ?_⟩
                cases e6 : e σ1 A5 with
                | err _ _ _ => rw [e6] at q2; exact q2.elim
                | bad => rw [e6] at q2; exact q2.elim
                | ok w A6 =>
                  rw [e6] at q2
                  intro ρ6 H6 w' x6 rh6 rw'
                  dsimp only at q2
                  have hd6 : ρ6[A1.length]? = some D := ((x2.trans x24).trans (x5.trans x6)).pre _ _ hd
                  cases e7 : A6[A1.length]? with
                  | none => rw [e7] at q2; exact q2.elim
                  | some o => cases o with
                    | lst acc ro => cases ro with
                      | true => rw [e7] at q2; exact q2.elim
                      | false =>
                        rw [e7] at q2
                        dsimp only at q2
                        by_cases hz : acc.length < sizeLine
                        · rw [if_pos hz] at q2
                          obtain ⟨p0, ys, p1, r2, _, w0⟩ := rh6.lst e7
                          rw [hd6] at p1
                          cases p1
                          obtain ⟨y1, y2⟩ := setLst rh6 e7 hd6 (r2.append (show RVs E ρ6 H6 [w] [w'] from ⟨w', [], rfl, rw', rfl⟩))
                          exact ⟨ys, w0 rfl, by rw [r2.length]; exact hz, ρ6, _, ((x2.trans x24).trans (x5.trans x6)).trans y2, y1, q2.ext ((x24.trans (x5.trans x6)).trans y2)⟩
                        · rw [if_neg hz] at q2; exact q2.elim
                    | dict _ _ => rw [e7] at q2; exact q2.elim
                    | ins _ _ => rw [e7] at q2; exact q2.elim
                    | dn _ => rw [e7] at q2; exact q2.elim
where
  wipe_wipe (σ : St) (vs : List Nat) : wipe (wipe σ vs) vs = wipe σ vs := by
    have key : ∀ (us : List Nat) (τ : St), (∀ u ∈ us, ∀ j, j = u → j < τ.length → τ[j]? = some none) → wipe τ us = τ := by
      intro us
      induction us with
      | nil => intro τ _; rfl
      | cons b us ih =>
        intro τ h
        show (wipe τ us).set b none = τ
        rw [ih τ fun u hu => h u (List.mem_cons_of_mem _ hu)]
        apply List.ext_getElem?
        intro j
        by_cases hj : j = b
        · subst hj
          by_cases hl : j < τ.length
          · rw [List.getElem?_set_self hl, h j List.mem_cons_self j rfl hl]
          · rw [List.getElem?_eq_none (by rw [List.length_set]; omega), List.getElem?_eq_none (by omega)]
        · rw [List.getElem?_set_ne (Ne.symm hj)]
    refine key vs _ fun u hu j ej hl => ?_
    subst ej
    have gone : ∀ (us : List Nat) (τ : St), j ∈ us → j < (wipe τ us).length → (wipe τ us)[j]? = some none := by
      intro us
      induction us with
      | nil => intro τ h; cases h
      | cons b us ih =>
        intro τ h hl
        show ((wipe τ us).set b none)[j]? = some none
        have hl' : j < (wipe τ us).length := by
          have : ((wipe τ us).set b none).length = (wipe τ us).length := List.length_set ..
          have hl2 : j < ((wipe τ us).set b none).length := hl
          omega
        by_cases hj : j = b
        · subst hj
          rw [List.getElem?_set_self hl']
        · rw [List.getElem?_set_ne (Ne.symm hj)]
          rcases List.mem_cons.mp h with z | z
          · exact absurd z hj
          · exact ih τ z hl'
    exact gone vs σ hu hl
theorem se_lc {it : IDen} {g : GDen} {t : Den Bool} {f : Den AV} {elt tg iter : Expr} {ifs : List Expr} {scope : Scope} {own : List (Str × Nat)} {pos : Pos} (c : Ctx E k X W) (hN : X.N.Nodup) (hi : SI E X W tg iter it) (ok : BlkOk X.N X.env.scope scope own)
    (hg : ∀ (s : Shared) (H : Hp) (C : Addr) (cl : List (Str × Addr)) (fp : List Addr), Ctx E k (X.blk s H scope (compEnvC scope cl C X.env) fp) W0 → SGw E (own.map (·.2)) (X.blk s H scope (compEnvC scope cl C X.env) fp) tg g)
    (ht : ∀ (s : Shared) (H : Hp) (C : Addr) (cl : List (Str × Addr)) (fp : List Addr), Ctx E k (X.blk s H scope (compEnvC scope cl C X.env) fp) W0 → STs E (X.blk s H scope (compEnvC scope cl C X.env) fp) W0 ifs t)
    (he : ∀ (s : Shared) (H : Hp) (C : Addr) (cl : List (Str × Addr)) (fp : List Addr), Ctx E k (X.blk s H scope (compEnvC scope cl C X.env) fp) W0 → SE E (X.blk s H scope (compEnvC scope cl C X.env) fp) W0 elt f) (hs : ∀ x, foldedSetIterable iter X.env x = pure x) :
    SE E X W (.ListComp elt [⟨tg, iter, ifs, 0⟩] scope pos) (dLc it g t f (own.map (·.2))) :=
  PE.imp (pe_lc c.calm hN hi ok (fun s H C cl fp => hg s H C cl fp (c.blk s H _ _ fp)) (fun s H C cl fp => ht s H C cl fp (c.blk s H _ _ fp)) (fun s H C cl fp => he s H C cl fp (c.blk s H _ _ fp)) hs) fun _ _ _ h => lc_rd h
/-- name = [..] on one line -/
theorem ss_setLc {it : IDen} {g : GDen} {t : Den Bool} {f : Den AV} {i : Nat} {y : Str} {py : Pos} {elt tg iter : Expr} {ifs : List Expr} {scope : Scope} {own : List (Str × Nat)} {pos spos : Pos} (c : Ctx E k X W) (hN : X.N.Nodup) (hy : X.N[i]? = some y) (hyl : X.env.scope.names.lookup y = some .local)
    (hsw : swapsWith (.ListComp elt [⟨tg, iter, ifs, 0⟩] scope pos) (some (.Name y py)) spos.line X.env = pure true) (hi : SI E X W tg iter it) (ok : BlkOk X.N X.env.scope scope own)
    (hg : ∀ (s : Shared) (H : Hp) (C : Addr) (cl : List (Str × Addr)) (fp : List Addr), Ctx E k (X.blk s H scope (compEnvC scope cl C X.env) fp) W0 → SGw E (own.map (·.2)) (X.blk s H scope (compEnvC scope cl C X.env) fp) tg g)
    (ht : ∀ (s : Shared) (H : Hp) (C : Addr) (cl : List (Str × Addr)) (fp : List Addr), Ctx E k (X.blk s H scope (compEnvC scope cl C X.env) fp) W0 → STs E (X.blk s H scope (compEnvC scope cl C X.env) fp) W0 ifs t)
    (he : ∀ (s : Shared) (H : Hp) (C : Addr) (cl : List (Str × Addr)) (fp : List Addr), Ctx E k (X.blk s H scope (compEnvC scope cl C X.env) fp) W0 → SE E (X.blk s H scope (compEnvC scope cl C X.env) fp) W0 elt f) (hs : ∀ x, foldedSetIterable iter X.env x = pure x) :
    SS E X W (.Assign [.Name y py] (.ListComp elt [⟨tg, iter, ifs, 0⟩] scope pos) spos) (sAsg (dLc it g t f (own.map (·.2))) (gNm i)) := by
  refine PS.imp (ps_setLc c.calm hN hy hyl hsw hi ok (fun s H C cl fp => hg s H C cl fp (c.blk s H _ _ fp)) (fun s H C cl fp => ht s H C cl fp (c.blk s H _ _ fp)) (fun s H C cl fp => he s H C cl fp (c.blk s H _ _ fp)) hs) fun D σ H h => ?_
  have h2 : rd E (RV E) (dLc it g t f (own.map (·.2))) W σ H fun x H1 => gName i x σ H1 D.nx :=
    rdS_step h fun x' H1 ρ σa A x hs hh hx q => q ρ H1 _ (Ext.refl _ _) hh (hs.set i hx)
  exact lc_rd h2
/-! ### a dict written -/
def dPairs : List (Den AV × Den AV) → Den (List (AV × AV))
  | [] => fun _ A => .ok [] A
  | (a, b) :: r => fun σ A => (a σ A).bind fun x A1 => (b σ A1).bind fun y A2 => (dPairs r σ A2).bind fun ps A3 => .ok ((x, y) :: ps) A3
def RPs (E : En) (ρ : List Addr) (H : Hp) : List (AV × AV) → List (V × V) → Prop
  | [], l => l = []
  | (a, b) :: r, l => ∃ x y s, l = (x, y) :: s ∧ RV E ρ H a x ∧ RV E ρ H b y ∧ RPs E ρ H r s
/-- the pairs' rules, one behind the other -/
structure SP2 (E : En) (X : Cx) (W : WX) (pos : Pos) (keys : List (Option Expr)) (values : List Expr) (fs : List (Den AV × Den AV)) : Prop where
  pps : PPs X pos keys values (fs.map fun p => (rd E (RV E) p.1 W, rd E (RV E) p.2 W))
theorem sp_nil {pos : Pos} : SP2 E X W pos [] [] [] := ⟨pps_nil⟩
theorem sp_cons {pos : Pos} {a b : Expr} {ks : List (Option Expr)} {vs : List Expr} {fa fb : Den AV} {fs : List (Den AV × Den AV)} (ha : SE E X W a fa) (hb : SE E X W b fb) (hr : SP2 E X W pos ks vs fs) : SP2 E X W pos (some a :: ks) (b :: vs) ((fa, fb) :: fs) := ⟨pps_cons ha hb hr.pps⟩
theorem RPs.ext {ρ' : List Addr} {H' : Hp} (x : Ext ρ H ρ' H') : ∀ {l : List (AV × AV)} {m : List (V × V)}, RPs E ρ H l m → RPs E ρ' H' l m
  | [], _, h => h
  | (a, b) :: r, _, h => by
    obtain ⟨y, z, s, rfl, h1, h2, h3⟩ := h
    exact ⟨y, z, s, rfl, h1.ext x, h2.ext x, RPs.ext x h3⟩
theorem pairs_rd : ∀ {fs : List (Den AV × Den AV)} {σ : St} {H : Hp} {ρ : List Addr} {σa : ASt} {A : AHp} {Q : List (V × V) → Hp → Prop} (_ : RS E ρ H σa σ) (_ : RH E ρ H A)
    (_ : Post E (RPs E) (dPairs fs σa A) ρ H Q fun c d H' => W c d σ H'), tPairs (fs.map fun p => (rd E (RV E) p.1 W, rd E (RV E) p.2 W)) σ H Q
  | [], σ, H, ρ, σa, A, Q, hs, hh, q => q ρ H [] (Ext.refl _ _) hh rfl
  | (fa, fb) :: fs, σ, H, ρ, σa, A, Q, hs, hh, q => by
    unfold dPairs at q
    refine ⟨ρ, σa, A, hs, hh, ?_⟩
    show Post E (RV E) (fa σa A) ρ H (fun x H1 => rd E (RV E) fb W σ H1 fun y H2 => tPairs (fs.map fun p => (rd E (RV E) p.1 W, rd E (RV E) p.2 W)) σ H2 fun ps H3 => Q ((x, y) :: ps) H3) fun c d H' => W c d σ H'
    cases e1 : fa σa A with
    | err c i A2 => rw [e1] at q; exact q
    | bad => rw [e1] at q; exact q
    | ok x A1 =>
      rw [e1] at q
      intro ρ1 H1 x' x1 rh1 rx
      refine ⟨ρ1, σa, A1, hs.ext x1, rh1, ?_⟩
      show Post E (RV E) (fb σa A1) ρ1 H1 (fun y H2 => tPairs (fs.map fun p => (rd E (RV E) p.1 W, rd E (RV E) p.2 W)) σ H2 fun ps H3 => Q ((x', y) :: ps) H3) fun c d H' => W c d σ H'
      have q : Post E (RPs E) ((fb σa A1).bind fun y A2 => (dPairs fs σa A2).bind fun ps A3 => .ok ((x, y) :: ps) A3) ρ H Q (fun c d H' => W c d σ H') := q
      cases e2 : fb σa A1 with
      | err c i A2 => rw [e2] at q; exact fun ρ' H' d x => q ρ' H' d (x1.trans x)
      | bad => rw [e2] at q; exact q
      | ok y A2 =>
        rw [e2] at q
        intro ρ2 H2 y' x2 rh2 ry
        refine pairs_rd ((hs.ext x1).ext x2) rh2 ?_
        have q : Post E (RPs E) ((dPairs fs σa A2).bind fun ps A3 => .ok ((x, y) :: ps) A3) ρ H Q (fun c d H' => W c d σ H') := q
        cases e3 : dPairs fs σa A2 with
        | err c i A3 => rw [e3] at q; exact fun ρ' H' d x => q ρ' H' d ((x1.trans x2).trans x)
        | bad => rw [e3] at q; exact q
        | ok ps A3 =>
          rw [e3] at q
          exact fun ρ3 H3 l x3 rh3 r3 => q ρ3 H3 _ ((x1.trans x2).trans x3) rh3 ⟨x', y', l, rfl, (rx.ext x2).ext x3, ry.ext x3, r3⟩
def keyPairs : List (AV × AV) → Option (List (Key × AV))
  | [] => some []
  | (a, b) :: r => match keyOf1 a, keyPairs r with
    | some k, some l => some ((k, b) :: l)
    | _, _ => none
def mergeA (kvs : List (AK × AV)) (more : List (Key × AV)) : List (AK × AV) := more.foldl (fun acc p => putA acc (.k p.1) p.2) kvs
def dDict (fs : List (Den AV × Den AV)) : Den AV := fun σ A => (dPairs fs σ (A ++ [.dict [] false])).bind fun ps A1 => match keyPairs ps with
  | some l => (match A1[A.length]? with
    | some (.dict [] false) => if l.length ≤ 15 then .ok (.ref A.length) (A1.set A.length (.dict (mergeA [] l) false)) else .bad
    | _ => .bad)
  | none => .bad
theorem keyPairs_ok : ∀ {ps : List (AV × AV)} {l : List (Key × AV)} {m : List (V × V)}, keyPairs ps = some l → RPs E ρ H ps m → ∃ kvs : List (Key × V), m = kvs.map (fun kv => (kV kv.1, kv.2)) ∧ kvs.length = l.length ∧ ∀ (a : List (AK × AV)) (b : List (Key × V)), RK E ρ H a b → RK E ρ H (mergeA a l) (mergeK b kvs)
  | [], l, m, e, r => by cases r; cases e; exact ⟨[], rfl, rfl, fun a b h => h⟩
  | (a, b) :: ps, l, m, e, r => by
    obtain ⟨x, y, s, rfl, h1, h2, h3⟩ := r
    unfold keyPairs at e
    cases e1 : keyOf1 a with
    | none => rw [e1] at e; cases e
    | some k1 => cases e2 : keyPairs ps with
      | none => rw [e1, e2] at e; cases e
      | some l' =>
        rw [e1, e2] at e
        cases e
        obtain ⟨kvs, rfl, hl, hm⟩ := keyPairs_ok e2 h3
        refine ⟨(k1, y) :: kvs, by rw [key1_ok e1 h1, List.map_cons], by rw [List.length_cons, List.length_cons, hl], fun a b h => ?_⟩
        exact hm _ _ (rk_putA h k1 h2)
theorem newDict {A : AHp} (h : RH E ρ H A) {p : Addr} (hp : H p = none) : RH E (ρ ++ [p]) (upd H p (.dK [])) (A ++ [.dict [] false]) ∧ Ext ρ H (ρ ++ [p]) (upd H p (.dK [])) ∧ (ρ ++ [p])[A.length]? = some p :=
  h.alloc (H' := upd H p (.dK [])) (o := .dict [] false) (fun a u e => by rw [upd_ne (ne_of_none e hp)]; exact e) hp fun x => RO_nil_k upd_same
def tDisp2 (trs : List (TE × TE)) : TE := fun σ H Q => ∀ p, H p = none → tPairs trs σ (upd H p (.dK [])) fun ps H2 => (H2 p = some (.dK []) ∨ H2 p = some (.dT [])) ∧ ∃ kvs : List (Key × V), ps = kvs.map (fun kv => (kV kv.1, kv.2)) ∧ kvs.length ≤ 15 ∧ Q (.ref p) (upd H2 p (.dK (mergeK [] kvs)))
theorem pe_disp2 {pos : Pos} {keys : List (Option Expr)} {values : List Expr} {trs : List (TE × TE)} (h : PPs X pos keys values trs) (hall : keys.all (·.isSome) = true) (hl : keys.length = values.length) (h0 : keys ≠ [])
    (h15 : keys.length ≤ 15) : PE X (.Dict keys values pos) (tDisp2 trs) := by
  refine ⟨fun pins s σ H Q I q => ?_⟩
  have hn := I.hok.fresh (Nat.le_refl s.heap.objs.size)
  have I1 := I.laid (a := s.heap.objs.size) (o := .dK []) (h' := s.heap.push { cls := .type "dict", data := .dict #[] }) (t' := s.toks) (fun _ _ q => Heap.get?_push_of_some _ q) (Nat.le_refl _) (dk_empty s.heap I.big)
  refine wpAny_Dict_walk (knd := mixKind X.prog X.w) hall hl h0 h15 (thn (h.run pins _ σ _ _ I1 (q _ hn)) fun ws s2 ⟨ps, H2, I2, rel, e, kvs, ep, lk, q2⟩ => ?_)
  subst ep
  have conv : ∃ H3, L2.Inv X pins σ H3 s2 ∧ H3 s.heap.objs.size = some (.dK []) ∧ upd H3 s.heap.objs.size (.dK (mergeK [] kvs)) = upd H2 s.heap.objs.size (.dK (mergeK [] kvs)) := by
    rcases e with e | e
    · exact ⟨H2, I2, e, rfl⟩
    · exact ⟨_, Inv.dt_dk I2 e, upd_same, upd_upd⟩
  obtain ⟨H3, I3, e3, eu⟩ := conv
  obtain ⟨rs, c, rk⟩ := carries_of (P := X.prog) (w := X.w) rel
  obtain ⟨z, hd, vs0, r0, dd⟩ := dk_of I3.hok e3
  cases r0
  refine ⟨rs, c, dd, fun h' dd' hs => ⟨.ref s.heap.objs.size, _, ?_, rfl, q2⟩⟩
  have hz : (mergeK [] kvs).length ≤ sizeLine := by
    have h1 := length_mergeK kvs []
    rw [List.length_nil] at h1
    rw [sizeLine_eq]; omega
  have he : ∃ q, h'.get? s.heap.objs.size = some q := let ⟨q, _, _, hq, _⟩ := dd'; ⟨q, hq⟩
  rw [← eu]
  exact d_write I3 (by rw [e3]; exact True.intro) hs he (dk_new hz hd (rk.merge .nil) dd')
theorem se_dict {fs : List (Den AV × Den AV)} {keys : List (Option Expr)} {values : List Expr} {pos : Pos} (h : SP2 E X W pos keys values fs) (hall : keys.all (·.isSome) = true) (hl : keys.length = values.length) (h0 : keys ≠ []) (h15 : keys.length ≤ 15) :
    SE E X W (.Dict keys values pos) (dDict fs) := by
  refine PE.imp (pe_disp2 h.pps hall hl h0 h15) fun σ H Q ⟨ρ, σa, A, hs, hh, q⟩ p hp => ?_
  obtain ⟨z1, z2, z3⟩ := newDict hh hp
  refine pairs_rd (hs.ext z2) z1 ?_
  unfold dDict at q
  cases e1 : dPairs fs σa (A ++ [.dict [] false]) with
  | err c i A2 => rw [e1] at q; exact fun ρ' H' d x => q ρ' H' d (z2.trans x)
  | bad => rw [e1] at q; exact q
  | ok ps A1 =>
    rw [e1] at q
    intro ρ1 H1 l x1 rh1 r1
    have q : Post E (RV E) (match keyPairs ps with
      | some l => (match A1[A.length]? with
        | some (.dict [] false) => if l.length ≤ 15 then .ok (.ref A.length) (A1.set A.length (.dict (mergeA [] l) false)) else .bad
        | _ => .bad)
      | none => .bad) ρ H Q (fun c d H' => W c d σ H') := q
    cases e2 : keyPairs ps with
    | none => rw [e2] at q; exact q.elim
    | some l1 =>
      rw [e2] at q
      dsimp only at q
      obtain ⟨kvs, rfl, hl1, hm⟩ := keyPairs_ok e2 r1
      have ep := x1.pre _ _ z3
      cases e3 : A1[A.length]? with
      | none => rw [e3] at q; exact q.elim
      | some o => cases o with
        | lst _ _ => rw [e3] at q; exact q.elim
        | ins _ _ => rw [e3] at q; exact q.elim
        | dn _ => rw [e3] at q; exact q.elim
        | dict kv0 lk => cases lk with
          | true => cases kv0 <;> (rw [e3] at q; exact q.elim)
          | false => cases kv0 with
            | cons _ _ => rw [e3] at q; exact q.elim
            | nil =>
              rw [e3] at q
              dsimp only at q
              by_cases hz : l1.length ≤ 15
              · rw [if_pos hz] at q
                have ho := rh1.at_ _ _ _ e3 ep
                have hp1 : H1 p = some (.dK []) ∨ H1 p = some (.dT []) := by
                  rcases ho with ⟨kv', r2, w⟩ | ⟨kv', r2, w⟩
                  · cases r2; exact .inl w
                  · cases r2; exact .inr w
                obtain ⟨y1, y2⟩ := rh1.write (H' := upd H1 p (.dK (mergeK [] kvs))) (o' := .dict (mergeA [] l1) false) e3 ep (fun b hb => upd_ne hb) fun x => .inl ⟨_, RK.ext x (hm [] [] rfl), upd_same⟩
                exact ⟨hp1, kvs, rfl, by rw [hl1]; exact hz, q _ _ _ ((z2.trans x1).trans y2) y1 ⟨p, y2.pre _ _ ep, rfl⟩⟩
              · rw [if_neg hz] at q; exact q.elim
end
end Ev
end
section
/-! Ev, tenth part: a def keeps its promise; the table of defs. -/
namespace Ev
open PySem PySem.Spec L2
set_option autoImplicit false
/-- a body run on its arguments -/
def runBody (f : SDen) (m : Nat) (as : List AV) (A : AHp) : Res AV := match f (as.map some ++ List.replicate (m - as.length) none) A with
  | .nx _ A' => .ok .non A'
  | .rt v A' => .ok v A'
  | .er _ c r A' => .err c r A'
  | _ => .bad
section
variable {E : En} {P : Program} {w : World} {K : PySem.W.Frag} {mg : Str → Option Value} {base : Heap} {k : Nat}
theorem rs_start {ρ : List Addr} {H : Hp} {as : List AV} {vs : List V} (N : List Str) (r : RVs E ρ H as vs) : RS E ρ H (as.map some ++ List.replicate (N.length - as.length) none) (L2.start N vs) := by
  have hl := r.length
  refine ⟨by unfold L2.start; simp [hl], fun i x e => ?_⟩
  unfold L2.start
  by_cases hi : i < as.length
  · rw [List.getElem?_append_left (by simpa using hi), List.getElem?_map] at e
    cases e1 : as[i]? with
    | none => rw [e1] at e; cases e
    | some y =>
      rw [e1] at e
      cases e
      obtain ⟨v, e2, q⟩ := r.get e1
      refine ⟨v, ?_, q⟩
      rw [List.getElem?_append_left (by simp; omega), List.getElem?_map, e2]
      rfl
  · rw [List.getElem?_append_right (by simpa using hi), List.getElem?_replicate] at e
    split at e <;> cases e
/-- the context of a def -/
abbrev cxD (P : Program) (w : World) (K : PySem.W.Frag) (mg : Str → Option Value) (base : Heap) (N : List Str) (qual : Str) (scope : Scope) (f : Addr) (cdv : Value) (A : Around) (outer : List Env) (s : Shared) (H : Hp) (Ex : XK) : Cx := cxOf (L2N.CX P w) P w K mg base N qual scope f cdv A outer s H Ex
abbrev WD (Ex : XK) : WX := fun cls d _ H => Ex cls d H
theorem ctx_def (hK : (K, P, w) = (E.K, E.P, E.w)) (h0 : E.hot = none) {N : List Str} {qual : Str} {scope : Scope} {f : Addr} {cdv : Value} {A : Around} {outer : List Env} {s : Shared} {H : Hp} {Ex : XK} (hr : Room k (A.deeper (PyProof.Rows.envOfC qual scope s.heap.objs.size f cdv))) :
    Ctx E k (cxD P w K mg base N qual scope f cdv A outer s H Ex) (WD Ex) :=
  ⟨congrArg (·.1) hK, rfl, hr, L2N.takes_of rfl rfl rfl rfl, passes_of rfl, h0, congrArg (·.2.1) hK, congrArg (·.2.2) hK⟩
theorem fn_at (h0 : E.hot = none) {x qual : Str} {params : Arguments} {body : List Stmt} {scope : Scope} {f : Addr} {fd : FuncData} {N ps : List Str} {g : SDen} (hK : (K, P, w) = (E.K, E.P, E.w)) (F : FunD K x qual params body scope [] [] f fd) (S : FnScope N ps scope)
    (h : ∀ (cdv : Value) (A : Around) (outer : List Env) (s : Shared) (H : Hp) (Ex : XK), Ctx E k (cxD P w K mg base N qual scope f cdv A outer s H Ex) (WD Ex) → SSs E (cxD P w K mg base N qual scope f cdv A outer s H Ex) (WD Ex) body g) :
    FnOk P w K mg base (L2N.CX P w) (k + 1) f fd ps (spOf E ps.length (runBody g N.length)) := by
  refine F.ok S (fun vs H Q Ex h => ?_) (fun cdv A outer s H vs Q Ex hr hsp => ?_)
  · obtain ⟨ρ, A, as, _, r, e, _⟩ := h
    rw [r.length, e]
  · obtain ⟨ρ, A1, as, hh, r, e, q⟩ := hsp
    refine ⟨_, h cdv A outer s H Ex (ctx_def hK h0 hr), ρ, _, A1, rs_start N r, hh, ?_⟩
    unfold runBody at q
    cases e1 : g (as.map some ++ List.replicate (N.length - as.length) none) A1 with
    | nx σ A2 => rw [e1] at q; exact fun ρ' H' σ' x rh _ => q ρ' H' _ x rh rfl
    | rt v A2 => rw [e1] at q; exact fun ρ' H' v' x rh rv => q ρ' H' v' x rh rv
    | er σ c i A2 => rw [e1] at q; exact fun ρ' H' σ' d x rh _ rx => q ρ' H' d x rh rx
    | bk σ A2 => rw [e1] at q; exact q.elim
    | ct σ A2 => rw [e1] at q; exact q.elim
    | bad => rw [e1] at q; exact q.elim
theorem cal_of (h0 : E.hot = none) {x qual : Str} {params : Arguments} {body : List Stmt} {scope : Scope} {f : Addr} {fd : FuncData} {N ps : List Str} {g : SDen} (hK : (K, P, w) = (E.K, E.P, E.w)) (F : FunD K x qual params body scope [] [] f fd) (S : FnScope N ps scope) (b : Binds K fd ps [])
    (h : ∀ (cdv : Value) (A : Around) (outer : List Env) (s : Shared) (H : Hp) (Ex : XK), Ctx E k (cxD P w K mg base N qual scope f cdv A outer s H Ex) (WD Ex) → SSs E (cxD P w K mg base N qual scope f cdv A outer s H Ex) (WD Ex) body g) :
    Cal E P w K mg base (k + 1) f ps.length (runBody g N.length) := ⟨F.kp, fd, ps, fn_at h0 hK F S h, b⟩
/-- no exception is out: the promise without one -/
theorem fn_cx0 {f : Addr} {fd : FuncData} {ps : List Str} {sp : Sp} (F : FnOk P w K mg base (L2N.CX P w) k f fd ps sp) : FnOk P w K mg base (fun _ _ _ _ _ _ => False) k f fd ps (fun vs H Q _ => sp vs H Q fun _ _ _ => False) := by
  refine ⟨fun vs H Q _ h => F.len vs H Q _ h, fun A outer s H args us vs Q Ex hr h0 hb hv hs => ?_⟩
  refine codeAny_mono (F.run A outer s H args us vs Q _ hr h0 hb hv hs) fun r s' q => ?_
  cases r with
  | ok o => cases o with
    | ret u => exact q
    | _ => exact q.elim
  | error e =>
    obtain ⟨a, B, H', cls, d, _, _, _, _, _, _, _, z⟩ := q
    exact z
/-- at no depth nothing is promised -/
theorem cal_bad {x qual : Str} {params : Arguments} {body : List Stmt} {scope : Scope} {f : Addr} {fd : FuncData} {ps : List Str} (F : FunD K x qual params body scope [] [] f fd) (b : Binds K fd ps []) : Cal E P w K mg base 0 f ps.length (fun _ _ => .bad) := by
  refine ⟨F.kp, fd, ps, ⟨fun vs H Q Ex h => ?_, fun A outer s H args us vs Q Ex _ _ _ _ hsp => ?_⟩, b⟩
  · obtain ⟨_, _, _, _, _, _, q⟩ := h
    exact q.elim
  · obtain ⟨_, _, _, _, _, _, q⟩ := hsp
    exact q.elim
end
/-- the script, as the law's argument -/
def scriptV (ns : List Int) : AV := .kl (ns.map .int)
theorem rvs_ints {E : En} {ρ : List Addr} {H : Hp} : ∀ ns : List Int, RVs E ρ H (ns.map AV.int) (ns.map V.int)
  | [] => rfl
  | n :: ns => ⟨_, _, rfl, rfl, rvs_ints ns⟩
/-- what the law's own end asks: from the run's answer -/
theorem sp_law {E : En} {g : List AV → M AV} {K : PySem.W.Frag} {H : Hp} {a : Addr} {ns : List Int} (hK : K = E.K) (hO : Only H) (ho : SqL K H a (ns.map V.int)) (h : ∃ A', g [scriptV ns] [] = .ok (.bl true) A') :
    spOf E 1 g [.ref a] H (fun v _ => v = .bl true) fun _ _ _ => False := by
  obtain ⟨A', e⟩ := h
  refine ⟨[], [], [scriptV ns], ⟨rfl, by simp, fun n o b e1 e2 => by cases e1⟩, ⟨_, [], rfl, ⟨a, _, rfl, hK ▸ SqF.of hO ho, rvs_ints ns⟩, rfl⟩, rfl, ?_⟩
  rw [e]
  intro ρ' H' b _ _ r
  exact r
/-- an empty program's names (no classes) -/
def en0 (P : Program) (w : World) (K : PySem.W.Frag) : En where
  K := K
  P := P
  w := w
  cad := fun _ => 0
  fnm := fun i => ⟨#[i]⟩
  finj := fun i j h => by simpa using h
  efl := fun _ => ⟨#[]⟩
  hot := none
  isC := fun _ => false
  isF := fun _ => false
  isX := fun _ => false
  clsOk := fun _ h => by cases h
  noat := fun _ _ h => by cases h
  mnm := fun i => ⟨#[i]⟩
  mnf := fun _ _ h => by cases h
  sub := fun _ _ => none
  subB := fun _ _ => none
  bsub := fun _ _ => none
  subOk := fun _ _ _ h => by cases h
  subBOk := fun _ _ _ h => by cases h
  bsubOk := fun _ _ _ h => by cases h
  insF := fun _ h => by cases h
  excOk := fun _ h => by cases h
/-- what the defs' walks ask of the module -/
structure TT (E : En) (P : Program) (w : World) (K : PySem.W.Frag) (mg : Str → Option Value) (base : Heap) (k : Nat) (r : Nat → List AV → M AV) (nms : List (String × Nat)) (fids : List Nat) (fad : Nat → Addr) (frees : List String) (iL : List (String × Int)) (sL : List (String × String)) : Prop where
  fn : ∀ i, i < nms.length → Cal E P w K mg base k (fad i) ((nms.map (·.2)).getD i 0) (r (fids.getD i 0))
  gf : ∀ i (x : String), (nms.map (·.1))[i]? = some x → x ≠ "" → mg (x : Str) = some (.ref (fad i))
  fr : ∀ x : String, frees.contains x = true → mg (x : Str) = none
  ci : ∀ (x : String) (i : Int), iL.contains (x, i) = true → ∃ t, mg (x : Str) = some (.int i t)
  cs : ∀ (x z : String), sL.contains (x, z) = true → ∃ t, mg (x : Str) = some (.str (z : Str) t)
end Ev
end
section
/-! Ev, eleventh part: reckoning with denotations. -/
namespace Ev
open PySem PySem.Spec L2
set_option autoImplicit false
abbrev Rt := Nat → List AV → M AV
/-- a text by its code points -/
def S (l : List Nat) : Str := ⟨l.toArray⟩
@[simp] theorem S_inj {a b : List Nat} : S a = S b ↔ a = b := by
  unfold S
  simp
@[simp] theorem S_list (a : List Nat) : (S a).cps.toList = a := (rfl)
@[simp] theorem S_size (a : List Nat) : (S a).cps.size = a.length := (rfl)
@[simp] theorem S_length (a : List Nat) : (S a).length = a.length := (rfl)
@[simp] theorem S_append (a b : List Nat) : S a ++ S b = S (a ++ b) := by
  show Str.append (S a) (S b) = _
  unfold Str.append S
  simp
theorem S_eta (x : Str) : x = S x.cps.toList := rfl
theorem S_ext (x : Str) : ∃ l, x = S l := ⟨_, rfl⟩
@[simp] theorem S_one (c : Nat) : (⟨#[c]⟩ : Str) = S [c] := (rfl)
section
variable {E : En} {X : Cx} {W : WX}
theorem se_strL {x y : Str} {j : Nat} {pos : Pos} (h : x = y) : SE E X W (.Constant (.str x) j pos) (dC (.str y)) := h ▸ se_str
theorem se_gstrL {x z y : Str} {pos : Pos} (hg : Gl X x) (hm : ∃ t, X.mg x = some (.str z t)) (hd : (x == ("__debug__" : Str)) = false) (h : z = y) : SE E X W (.Name x pos) (dC (.str y)) := h ▸ se_gstr hg hm hd
end
/-! ### the heap -/
def gt (A : AHp) (n : Nat) : Option AO := A[n]?
theorem gt_def (A : AHp) (n : Nat) : A[n]? = gt A n := rfl
theorem gt_lt {A : AHp} {n : Nat} {o : AO} (h : gt A n = some o) : n < A.length := (List.getElem?_eq_some_iff.mp h).1
@[simp] theorem gt_set {A : AHp} {n : Nat} {o : AO} (h : n < A.length) : gt (A.set n o) n = some o := List.getElem?_set_self h
@[simp] theorem gt_set_ne {A : AHp} {n m : Nat} {o : AO} (h : n ≠ m) : gt (A.set n o) m = gt A m := List.getElem?_set_ne h
@[simp] theorem gt_app {A B : AHp} {n : Nat} (h : n < A.length) : gt (A ++ B) n = gt A n := List.getElem?_append_left h
@[simp] theorem gt_new {A : AHp} {o : AO} : gt (A ++ [o]) A.length = some o := by unfold gt; simp
@[simp] theorem gt_app0 {A B : AHp} : gt (A ++ B) A.length = gt B 0 := by unfold gt; rw [List.getElem?_append_right (Nat.le_refl _), Nat.sub_self]
@[simp] theorem gt_appk {A B : AHp} {k : Nat} : gt (A ++ B) (A.length + k) = gt B k := by unfold gt; rw [List.getElem?_append_right (Nat.le_add_right _ _), Nat.add_sub_cancel_left]
@[simp] theorem gt_c0 {o : AO} {B : AHp} : gt (o :: B) 0 = some o := (rfl)
@[simp] theorem gt_cS {o : AO} {B : AHp} {k : Nat} : gt (o :: B) (k + 1) = gt B k := (rfl)
@[simp] theorem set_app0 {A B : AHp} {o : AO} : (A ++ B).set A.length o = A ++ B.set 0 o := by rw [List.set_append_right _ _ (Nat.le_refl _), Nat.sub_self]
@[simp] theorem set_appk {A B : AHp} {k : Nat} {o : AO} : (A ++ B).set (A.length + k) o = A ++ B.set k o := by rw [List.set_append_right _ _ (Nat.le_add_right _ _), Nat.add_sub_cancel_left]
theorem set_app {A B : AHp} {n : Nat} {o : AO} (h : n < A.length) : (A ++ B).set n o = A.set n o ++ B := by
  rw [List.set_append_left _ _ h]
/-- all but what stands in l is as it was -/
def Fr (l : List Nat) (A A' : AHp) : Prop := A.length ≤ A'.length ∧ ∀ m, m < A.length → m ∉ l → gt A' m = gt A m
theorem Fr.refl (l : List Nat) (A : AHp) : Fr l A A := ⟨Nat.le_refl _, fun _ _ _ => rfl⟩
theorem Fr.trans {l : List Nat} {A B C : AHp} (h : Fr l A B) (k : Fr l B C) : Fr l A C := ⟨Nat.le_trans h.1 k.1, fun m hm hl => (k.2 m (Nat.lt_of_lt_of_le hm h.1) hl).trans (h.2 m hm hl)⟩
theorem Fr.mono {l l' : List Nat} {A B : AHp} (h : Fr l A B) (k : ∀ x ∈ l, x ∈ l') : Fr l' A B := ⟨h.1, fun m hm hl => h.2 m hm fun z => hl (k m z)⟩
theorem Fr.app (l : List Nat) (A B : AHp) : Fr l A (A ++ B) := ⟨by simp, fun m hm _ => gt_app hm⟩
theorem Fr.set {l : List Nat} {A : AHp} {n : Nat} {o : AO} (h : n ∈ l) : Fr l A (A.set n o) := ⟨by simp, fun m _ hl => gt_set_ne fun z => hl (z ▸ h)⟩
/-- what was made behind A is no concern of who knew A -/
theorem Fr.new {l : List Nat} {A B : AHp} {n : Nat} (h : Fr (n :: l) A B) (hn : A.length ≤ n) : Fr l A B := ⟨h.1, fun m hm hl => h.2 m hm fun z => by
  rcases List.mem_cons.mp z with e | e
  · omega
  · exact hl e⟩
theorem Fr.setNew {l : List Nat} {A B : AHp} {n : Nat} {o : AO} (h : Fr l A B) (hn : A.length ≤ n) : Fr l A (B.set n o) := ⟨by rw [List.length_set]; exact h.1, fun m hm hl => (gt_set_ne (by omega)).trans (h.2 m hm hl)⟩
theorem Fr.len {l : List Nat} {A B : AHp} (h : Fr l A B) : A.length ≤ B.length := h.1
theorem Fr.gt {l : List Nat} {A B : AHp} {n : Nat} {o : AO} (h : Fr l A B) (e : gt A n = some o) (hn : n ∉ l) : gt B n = some o := (h.2 n (gt_lt e) hn).trans e
/-! ### results -/
def fin (r : SR) : Res AV := match r with
  | .nx _ A' => .ok .non A'
  | .rt v A' => .ok v A'
  | .er _ c r A' => .err c r A'
  | _ => .bad
theorem runBody_eq (f : SDen) (m : Nat) (as : List AV) (A : AHp) : runBody f m as A = fin (f (as.map some ++ List.replicate (m - as.length) none) A) := by
  unfold runBody fin
  rfl
@[simp] theorem fin_nx (σ : ASt) (A : AHp) : fin (.nx σ A) = .ok .non A := (rfl)
@[simp] theorem fin_rt (v : AV) (A : AHp) : fin (.rt v A) = .ok v A := (rfl)
@[simp] theorem fin_er (σ : ASt) (c : Nat) (r : Option Int) (A : AHp) : fin (.er σ c r A) = .err c r A := (rfl)
@[simp] theorem fin_ite {c : Prop} [Decidable c] (x y : SR) : fin (if c then x else y) = if c then fin x else fin y := by split <;> rfl
@[simp] theorem bind_ite {α β : Type} {c : Prop} [Decidable c] (x y : Res α) (g : α → AHp → Res β) : (if c then x else y).bind g = if c then x.bind g else y.bind g := by split <;> rfl
@[simp] theorem sbind_ite {c : Prop} [Decidable c] (x y : SR) (g : SDen) : (if c then x else y).bind g = if c then x.bind g else y.bind g := by split <;> rfl
@[simp] theorem toS_ite {α : Type} {σ : ASt} {c : Prop} [Decidable c] (x y : Res α) (g : α → AHp → SR) : (if c then x else y).toS σ g = if c then x.toS σ g else y.toS σ g := by split <;> rfl
@[simp] theorem ofO_ite {c : Prop} [Decidable c] (x y : Option (AV × AHp)) : ofO (if c then x else y) = if c then ofO x else ofO y := by split <;> rfl
def obK {α : Type} (o : Option Bool) (y n : Res α) : Res α := match o with
  | some true => y
  | some false => n
  | none => .bad
@[simp] theorem obK_some {α : Type} (b : Bool) (y n : Res α) : obK (some b) y n = if b = true then y else n := by cases b <;> rfl
def chK (v : AV) (y n : Res AV) : Res AV := match v with
  | .bl true => y
  | .bl false => n
  | _ => .bad
@[simp] theorem chK_bl (b : Bool) (y n : Res AV) : chK (.bl b) y n = if b = true then y else n := by cases b <;> rfl
section
variable (σ : ASt) (A : AHp)
@[simp] theorem e_var0 (v : AV) : dVar 0 (some v :: σ) A = .ok v A := (rfl)
@[simp] theorem e_varS (i : Nat) (x : Option AV) : dVar (i + 1) (x :: σ) A = dVar i σ A := (rfl)
@[simp] theorem e_C (v : AV) : dC v σ A = .ok v A := (rfl)
@[simp] theorem e_bin (p : Op2) (fa fb : Den AV) : dBin p fa fb σ A = (fa σ A).bind fun x A1 => (fb σ A1).bind fun y A2 => ofO (p x y A2) := (rfl)
@[simp] theorem e_TB (f : Den AV) : dTB f σ A = (f σ A).bind asB := (rfl)
@[simp] theorem e_asB (b : Bool) : asB (.bl b) A = .ok b A := (rfl)
@[simp] theorem e_Tru (f : Den AV) : dTru f σ A = (f σ A).bind asT := (rfl)
@[simp] theorem e_asT_bl (b : Bool) : asT (.bl b) A = .ok b A := (rfl)
@[simp] theorem e_NotT (f : Den Bool) : dNotT f σ A = (f σ A).bind fun b A1 => .ok (!b) A1 := (rfl)
@[simp] theorem e_AndT (fa fb : Den Bool) : dAndT fa fb σ A = (fa σ A).bind fun b A1 => if b = true then fb σ A1 else .ok false A1 := (rfl)
@[simp] theorem e_OrT (fa fb : Den Bool) : dOrT fa fb σ A = (fa σ A).bind fun b A1 => if b = true then .ok true A1 else fb σ A1 := (rfl)
@[simp] theorem e_If (ft : Den Bool) (fa fb : Den AV) : dIf ft fa fb σ A = (ft σ A).bind fun b A1 => if b = true then fa σ A1 else fb σ A1 := (rfl)
@[simp] theorem e_nil : dNil σ A = .ok [] A := (rfl)
@[simp] theorem e_cons (f : Den AV) (g : Den (List AV)) : dCons f g σ A = (f σ A).bind fun x A1 => (g σ A1).bind fun xs A2 => .ok (x :: xs) A2 := (rfl)
@[simp] theorem e_Tup (g : Den (List AV)) : dTup g σ A = (g σ A).bind fun xs A1 => if xs.length ≤ 16777216 then .ok (.tup xs) A1 else .bad := (rfl)
@[simp] theorem e_Lst (g : Den (List AV)) : dLst g σ A = (g σ A).bind fun xs A1 => if xs.length ≤ 16777216 then .ok (.ref A1.length) (A1 ++ [.lst xs false]) else .bad := (rfl)
@[simp] theorem e_CB (p : OpN) (g : Den (List AV)) : dCB p g σ A = (g σ A).bind fun xs A1 => ofO (p xs A1) := (rfl)
@[simp] theorem e_Call (n : Nat) (g : List AV → M AV) (fa : Den (List AV)) : dCall n g fa σ A = (fa σ A).bind fun vs A1 => if vs.length = n then g vs A1 else .bad := (rfl)
@[simp] theorem e_BM (T : String) (p : OpM) (fo : Den AV) (fa : Den (List AV)) : dBM T p fo fa σ A = (fo σ A).bind fun o A1 => if tagA T o A1 = true then (fa σ A1).bind fun as A2 => ofO (p o as A2) else .bad := (rfl)
@[simp] theorem e_sNil : sNil σ A = .nx σ A := (rfl)
@[simp] theorem e_sSeq (f g : SDen) : sSeq f g σ A = (f σ A).bind g := (rfl)
@[simp] theorem e_sExpr (f : Den AV) : sExpr f σ A = (f σ A).toS σ fun _ A1 => .nx σ A1 := (rfl)
@[simp] theorem e_sRet (f : Den AV) : sRet f σ A = (f σ A).toS σ fun v A1 => .rt v A1 := (rfl)
@[simp] theorem e_sRetN : sRetN σ A = .rt .non A := (rfl)
@[simp] theorem e_sIf (t : Den Bool) (f g : SDen) : sIf t f g σ A = (t σ A).toS σ fun b A1 => if b = true then f σ A1 else g σ A1 := (rfl)
@[simp] theorem e_gNm (i : Nat) (v : AV) : gNm i v σ A = some (σ.set i (some v)) := (rfl)
@[simp] theorem e_sAsg (f : Den AV) (g : GDen) : sAsg f g σ A = (f σ A).toS σ fun v A1 => match g v σ A1 with
  | some σ' => .nx σ' A1
  | none => .bad := (rfl)
@[simp] theorem e_sFor (it : IDen) (g : GDen) (body : SDen) : sFor it g body σ A = (it σ A).toS σ fun sn A1 => loopS sn.1 g body sn.2 0 σ A1 := (rfl)
@[simp] theorem e_iAny (f : Den AV) : iAny f σ A = (f σ A).bind fun v A1 => iterOf v A1 := (rfl)
/-! ### operators -/
variable (i j : Int) (a b : List Nat)
@[simp] theorem e_addI : pAdd (.int i) (.int j) A = some (.int (i + j), A) := (rfl)
@[simp] theorem e_addS (h : a.length + b.length ≤ 16777216) : pAdd (.str (S a)) (.str (S b)) A = some (.str (S (a ++ b)), A) := by
  unfold pAdd
  simp
  exact h
@[simp] theorem e_subI : pSub (.int i) (.int j) A = some (.int (i - j), A) := (rfl)
@[simp] theorem e_mulI (h : (-18446744073709551616 < i ∧ i < 18446744073709551616) ∨ (-18446744073709551616 < j ∧ j < 18446744073709551616)) : pMul (.int i) (.int j) A = some (.int (i * j), A) := by
  show (if small64 i || small64 j then some (AV.int (i * j), A) else none) = _
  rw [if_pos]
  rw [Bool.or_eq_true, small64_iff, small64_iff]
  exact h
@[simp] theorem e_eqI : eqB (.int i) (.int j) A = some (decide (i = j)) := (rfl)
@[simp] theorem e_eqS : eqB (.str (S a)) (.str (S b)) A = some (decide (a = b)) := by
  show some (decide (S a = S b)) = _
  simp
@[simp] theorem e_eqB (x y : Bool) : eqB (.bl x) (.bl y) A = some (decide (x = y)) := (rfl)
@[simp] theorem e_pEq (x y : AV) : pEq x y A = (eqB x y A).map fun r => (.bl r, A) := (rfl)
@[simp] theorem e_pNe (x y : AV) : pNe x y A = (eqB x y A).map fun r => (.bl (!r), A) := (rfl)
@[simp] theorem e_ltI : pLt (.int i) (.int j) A = some (.bl (decide (i < j)), A) := (rfl)
@[simp] theorem e_leI : pLe (.int i) (.int j) A = some (.bl (decide (i ≤ j)), A) := (rfl)
@[simp] theorem e_gtI : pGt (.int i) (.int j) A = some (.bl (decide (j < i)), A) := (rfl)
@[simp] theorem e_geI : pGe (.int i) (.int j) A = some (.bl (decide (j ≤ i)), A) := (rfl)
variable (n : Nat) (x : Str)
@[simp] theorem e_modI (h : 0 < j) : pMod (.int i) (.int j) A = some (.int (i % j), A) := by
  rw [← Int.fmod_eq_emod_of_nonneg _ (Int.le_of_lt h)]
  exact if_neg (by omega)
@[simp] theorem e_fdivI (h : 0 < j ∧ j < 1073741824) : pFdiv (.int i) (.int j) A = some (.int (i / j), A) := by
  rw [← Int.fdiv_eq_ediv_of_nonneg _ (Int.le_of_lt h.1)]
  exact if_pos (by omega)
@[simp] theorem e_powI (h : 0 ≤ j ∧ j ≤ 1000000 ∧ i.natAbs < 2 ^ 64) : pPow (.int i) (.int j) A = some (.int (i ^ j.toNat), A) := if_pos h
@[simp] theorem e_ixTup (xs : List AV) : pIx (.tup xs) (.int i) A = (atI xs i).map fun v => (v, A) := (rfl)
@[simp] theorem e_ixKtup (xs : List AV) : pIx (.ktup xs) (.int i) A = (atI xs i).map fun v => (v, A) := (rfl)
@[simp] theorem e_ixKl (xs : List AV) : pIx (.kl xs) (.int i) A = (atI xs i).map fun v => (v, A) := (rfl)
@[simp] theorem e_ixS (h : a.length ≤ 16777216) : pIx (.str (S a)) (.int i) A = (atI a i).map fun c => (.str (S [c]), A) := if_pos h
@[simp] theorem e_ixRI : pIx (.ref n) (.int i) A = (match gt A n with
    | some (.lst xs _) => (atI xs i).map fun v => (v, A)
    | some (.dict kvs _) => (getK kvs (.k (.inl i))).map fun v => (v, A)
    | _ => none) := by
  show (match gt A n with
    | some (.lst xs _) => (atI xs i).map fun v => (v, A)
    | some (.dict kvs _) => (match (some (AK.k (.inl i)) : Option AK) with
      | some y => (getK kvs y).map fun v => (v, A)
      | none => none)
    | _ => none) = _
  cases gt A n with
  | none => rfl
  | some o => cases o <;> rfl
@[simp] theorem e_ixRS : pIx (.ref n) (.str x) A = (match gt A n with
    | some (.dict kvs _) => (getK kvs (.k (.inr x))).map fun v => (v, A)
    | _ => none) := by
  show (match gt A n with
    | some (.lst xs _) => none
    | some (.dict kvs _) => (match (some (AK.k (.inr x)) : Option AK) with
      | some y => (getK kvs y).map fun v => (v, A)
      | none => none)
    | _ => none) = _
  cases gt A n with
  | none => rfl
  | some o => cases o <;> rfl
@[simp] theorem e_lenS (h : a.length ≤ 16777216) : fLen [.str (S a)] A = some (.int a.length, A) := if_pos h
@[simp] theorem e_lenT (xs : List AV) : fLen [.tup xs] A = some (.int xs.length, A) := (rfl)
@[simp] theorem e_lenK (xs : List AV) : fLen [.kl xs] A = some (.int xs.length, A) := (rfl)
@[simp] theorem e_lenR : fLen [.ref n] A = (match gt A n with
    | some (.lst xs _) => some (.int xs.length, A)
    | some (.dict kvs false) => some (.int kvs.length, A)
    | _ => none) := (rfl)
@[simp] theorem e_intI : fInt [.int i] A = some (.int i, A) := (rfl)
@[simp] theorem e_intB (b : Bool) : fInt [.bl b] A = some (.int (if b = true then 1 else 0), A) := (rfl)
@[simp] theorem e_listK (xs : List AV) : fList [.kl xs] A = some (.ref A.length, A ++ [.lst xs false]) := (rfl)
@[simp] theorem e_listT (xs : List AV) : fList [.tup xs] A = some (.ref A.length, A ++ [.lst xs false]) := (rfl)
@[simp] theorem e_sPut (p : OpP) (fe fo fi : Den AV) : sPut p fe fo fi σ A = (fe σ A).toS σ fun v A1 => (fo σ A1).toS σ fun o A2 => (fi σ A2).toS σ fun i A3 => match p o i v A3 with
  | some A' => .nx σ A'
  | none => .bad := (rfl)
theorem getK_cons (k k' : AK) (v : AV) (l : List (AK × AV)) : getK ((k', v) :: l) k = if k' = k then some v else getK l k := by
  unfold getK
  rw [List.find?_cons]
  by_cases h : k' = k <;> simp [h]
@[simp] theorem e_putRS (z : AV) : pPut (.ref n) (.str x) z A = (match gt A n with
    | some (.dict kvs false) => if kindA kvs (.k (.inr x)) = true ∧ kvs.length < 16777216 then some (A.set n (.dict (putA kvs (.k (.inr x)) z) false)) else none
    | _ => none) := by
  show (match gt A n with
    | some (.dict kvs false) => (match (some (AK.k (.inr x)) : Option AK) with
      | some ky => if kindA kvs ky = true ∧ kvs.length < sizeLine then some (A.set n (.dict (putA kvs ky z) false)) else none
      | none => none)
    | some (.lst xs false) => none
    | _ => none) = _
  cases gt A n with
  | none => rfl
  | some o => cases o with
    | lst xs lk => cases lk <;> rfl
    | dict xs lk => cases lk <;> rfl
    | ins _ _ => rfl
    | dn _ => rfl
@[simp] theorem kindA_nil (y : AK) : kindA [] y = true := (rfl)
@[simp] theorem kindA_kk (k' : Key) (v : AV) (l : List (AK × AV)) (y : Key) : kindA ((.k k', v) :: l) (.k y) = kindA l (.k y) := by
  unfold kindA
  simp
@[simp] theorem kindA_tt (k' : List Key) (v : AV) (l : List (AK × AV)) (y : List Key) : kindA ((.t k', v) :: l) (.t y) = kindA l (.t y) := by
  unfold kindA
  simp
theorem atI_at {α : Type} {xs : List α} {i : Int} (h0 : 0 ≤ i) (h : i < xs.length) : ∃ x, atI xs i = some x ∧ x ∈ xs := by
  have hl : i.toNat < xs.length := by omega
  refine ⟨xs[i.toNat], ?_, List.getElem_mem hl⟩
  unfold atI ixN
  rw [if_pos h0, if_pos h]
  simp
theorem atI_map {α β : Type} (f : α → β) (xs : List α) (i : Int) : atI (xs.map f) i = (atI xs i).map f := by
  unfold atI
  rw [List.length_map]
  cases ixN xs.length i <;> simp
@[simp] theorem getK_nil (k : AK) : getK [] k = none := (rfl)
def catL (xs ys : List AV) (A : AHp) : Option (AV × AHp) := if xs.length + ys.length ≤ sizeLine then some (.ref A.length, A ++ [.lst (xs ++ ys) false]) else none
@[simp] theorem catL_ok {xs ys : List AV} (h : xs.length + ys.length ≤ 16777216) : catL xs ys A = some (.ref A.length, A ++ [.lst (xs ++ ys) false]) := if_pos h
@[simp] theorem e_addR (m : Nat) : pAdd (.ref n) (.ref m) A = (match gt A n, gt A m with
    | some (.lst xs false), some (.lst ys false) => catL xs ys A
    | _, _ => none) := (rfl)
def repL (xs : List AV) (i : Int) (A : AHp) : Option (AV × AHp) := if -(2 ^ 63) ≤ i ∧ i < 2 ^ 63 ∧ xs.length * i.toNat ≤ sizeLine then some (.ref A.length, A ++ [.lst (List.replicate i.toNat xs).flatten false]) else none
@[simp] theorem repL_ok {xs : List AV} (h : -9223372036854775808 ≤ i ∧ i < 9223372036854775808 ∧ xs.length * i.toNat ≤ 16777216) : repL xs i A = some (.ref A.length, A ++ [.lst (List.replicate i.toNat xs).flatten false]) := if_pos h
@[simp] theorem e_mulR : pMul (.ref n) (.int i) A = (match gt A n with
    | some (.lst xs false) => repL xs i A
    | _ => none) := (rfl)
@[simp] theorem e_listR : fList [.ref n] A = (match gt A n with
  | some (.lst xs _) => some (.ref A.length, A ++ [.lst xs false])
  | some (.dict kvs lk) => if kvs.all (fun p => match p.1 with
      | .k _ => true
      | .t _ => false) then some (.ref A.length, A ++ [.lst (kvs.map fun p => keyV p.1) false]) else none
  | _ => none) := (rfl)
@[simp] theorem lstAt_gt : lstAt A n = (match gt A n with
  | some (.lst xs _) => some xs
  | _ => none) := (rfl)
@[simp] theorem e_allR : fAll [.ref n] A = (match lstAt A n with
    | some xs => (blsOf xs).map fun bs => (.bl (bs.all id), A)
    | none => none) := (rfl)
@[simp] theorem e_anyR : fAny [.ref n] A = (match lstAt A n with
    | some xs => (blsOf xs).map fun bs => (.bl (bs.any id), A)
    | none => none) := (rfl)
@[simp] theorem blsOf_map (bs : List Bool) : blsOf (bs.map AV.bl) = some bs := by
  induction bs with
  | nil => rfl
  | cons b bs ih => rw [List.map_cons]; unfold blsOf; rw [ih]
@[simp] theorem blsOf_fun {α : Type} (f : α → Bool) (l : List α) : blsOf (l.map fun x => AV.bl (f x)) = some (l.map f) := by
  rw [← blsOf_map (l.map f), List.map_map]
  rfl
@[simp] theorem strsOf_fun {α : Type} (f : α → List Nat) (l : List α) : strsOf (l.map fun x => AV.str (S (f x))) = some (l.map fun x => S (f x)) := by
  induction l with
  | nil => rfl
  | cons b bs ih => rw [List.map_cons]; unfold strsOf; rw [ih]; rfl
@[simp] theorem strsOf_map (bs : List (List Nat)) : strsOf (bs.map fun l => AV.str (S l)) = some (bs.map S) := by
  induction bs with
  | nil => rfl
  | cons b bs ih => rw [List.map_cons]; unfold strsOf; rw [ih]; rfl
@[simp] theorem e_AndV (fa fb : Den AV) : dAndV fa fb σ A = (fa σ A).bind fun x A1 => obK (truA x A1) (fb σ A1) (.ok x A1) := (rfl)
@[simp] theorem e_OrV (fa fb : Den AV) : dOrV fa fb σ A = (fa σ A).bind fun x A1 => obK (truA x A1) (.ok x A1) (fb σ A1) := (rfl)
@[simp] theorem e_NotV (fa : Den AV) : dNotV fa σ A = (fa σ A).bind fun x A1 => match truA x A1 with
  | some b => .ok (.bl (!b)) A1
  | none => .bad := (rfl)
@[simp] theorem e_truB (b : Bool) : truA (.bl b) A = some b := (rfl)
@[simp] theorem e_truI : truA (.int i) A = some (decide (i ≠ 0)) := by
  show some (i != 0) = _
  simp [bne]
  rfl
@[simp] theorem e_truN : truA .non A = some false := (rfl)
@[simp] theorem e_truT (xs : List AV) : truA (.tup xs) A = some (!xs.isEmpty) := (rfl)
@[simp] theorem e_truS (h : a.length ≤ 16777216) : truA (.str (S a)) A = some (!a.isEmpty) := by
  unfold truA
  dsimp only
  rw [if_pos (show (S a).length ≤ sizeLine from h)]
  cases a <;> rfl
@[simp] theorem e_truR : truA (.ref n) A = (match gt A n with
    | some (.lst xs _) => some (!xs.isEmpty)
    | _ => none) := (rfl)
@[simp] theorem e_asT (v : AV) : asT v A = (match truA v A with
  | some b => .ok b A
  | none => .bad) := (rfl)
@[simp] theorem e_Chain (p p' : Op2) (fa fb fc : Den AV) : dChain p p' fa fb fc σ A = (fa σ A).bind fun x A1 => (fb σ A1).bind fun y A2 => (ofO (p x y A2)).bind fun z A3 => chK z ((fc σ A3).bind fun w A4 => ofO (p' y w A4)) (.ok (.bl false) A3) := (rfl)
@[simp] theorem e_iR1 (f : Den (List AV)) : iR1 f σ A = (f σ A).bind fun vs A1 => srcOf (rng1 vs) A1 := (rfl)
@[simp] theorem e_iR2 (f : Den (List AV)) : iR2 f σ A = (f σ A).bind fun vs A1 => srcOf (rng2 vs) A1 := (rfl)
@[simp] theorem e_rng1 (h : -4611686018427387904 ≤ i ∧ i < 4611686018427387904) : rng1 [.int i] = some (0, i.toNat) := if_pos (rngOk_iff.mpr h)
@[simp] theorem e_rng2 (h : (-4611686018427387904 ≤ i ∧ i < 4611686018427387904) ∧ (-4611686018427387904 ≤ j ∧ j < 4611686018427387904)) : rng2 [.int i, .int j] = some (i, (j - i).toNat) := if_pos ⟨rngOk_iff.mpr h.1, rngOk_iff.mpr h.2⟩
@[simp] theorem e_srcOf (lo : Int) : srcOf (some (lo, n)) A = .ok (srcR lo n, n + 1) A := (rfl)
@[simp] theorem e_Lc (it : IDen) (g : GDen) (t : Den Bool) (e : Den AV) (vs : List Nat) : dLc it g t e vs σ A = (it σ A).bind fun sn A1 => compL sn.1 g t e A1.length (wipeA σ vs) sn.2 0 (A1 ++ [.lst [] false]) := (rfl)
@[simp] theorem e_wipe0 : wipeA σ [] = σ := (rfl)
@[simp] theorem e_wipe1 (v : Nat) (vs : List Nat) : wipeA σ (v :: vs) = (wipeA σ vs).set v none := (rfl)
@[simp] theorem e_iterT (xs : List AV) : iterOf (.tup xs) A = .ok (srcC xs, xs.length + 1) A := (rfl)
@[simp] theorem e_iterK (xs : List AV) : iterOf (.ktup xs) A = .ok (srcC xs, xs.length + 1) A := (rfl)
@[simp] theorem e_iterS : iterOf (.str (S a)) A = .ok (srcC (a.map fun c => .str (S [c])), a.length + 1) A := (rfl)
@[simp] theorem e_iterR : iterOf (.ref n) A = (match gt A n with
    | some (.lst xs _) => .ok (srcL n, xs.length + 1) A
    | _ => .bad) := (rfl)
@[simp] theorem e_Yes : dYes σ A = .ok true A := (rfl)
def joinA (a : List Nat) (xs : List AV) (A : AHp) : Option (AV × AHp) := match strsOf xs with
  | some ys => if (ys.map (·.length)).sum + ys.length * a.length ≤ 16777216 then some (.str (Txt.join (S a) ys), A) else none
  | none => none
@[simp] theorem e_joinR : mJoin (.str (S a)) [.ref n] A = (match lstAt A n with
    | some xs => joinA a xs A
    | none => none) := (rfl)
@[simp] theorem e_joinT (xs : List AV) : mJoin (.str (S a)) [.tup xs] A = joinA a xs A := (rfl)
@[simp] theorem flat_ones (ls : List Nat) : (ls.map fun c => [c]).flatten = ls := by
  induction ls with
  | nil => rfl
  | cons a l ih => simp [ih]
def lenSum (ls : List (List Nat)) : Nat := (ls.map List.length).sum
@[simp] theorem lenSum_ones (ls : List Nat) : lenSum (ls.map fun c => [c]) = ls.length := by
  induction ls with
  | nil => rfl
  | cons a l ih => simp [lenSum] at ih ⊢; omega
theorem join_S (ls : List (List Nat)) : Str.join (S a) (ls.map S) = S (TL.joinL a ls) := by
  have h := TL.tl_join (S a) (ls.map S)
  have e2 : (ls.map S).map TL.tl = ls := by
    rw [List.map_map]
    exact List.map_id'' (fun _ => rfl) ls
  rw [e2] at h
  exact (S_eta _).trans (congrArg S h)
theorem joinA_ok {ls : List (List Nat)} (h : lenSum ls + ls.length * a.length ≤ 16777216) : joinA a (ls.map fun l => AV.str (S l)) A = some (.str (S (TL.joinL a ls)), A) := by
  unfold joinA
  rw [strsOf_map]
  dsimp only
  rw [if_pos, TL.join_eq, join_S]
  rw [List.map_map, List.length_map]
  exact h
@[simp] theorem joinL_nil (l : List (List Nat)) : TL.joinL [] l = l.flatten := by
  induction l with
  | nil => rfl
  | cons p r ih => cases r with
    | nil => simp [TL.joinL]
    | cons q r => rw [TL.joinL, ih]; simp
@[simp] theorem e_tagS (T : String) (z : Str) : tagA T (.str z) A = decide (T = "str") := (rfl)
@[simp] theorem e_tagR (T : String) : tagA T (.ref n) A = (match gt A n with
    | some (.lst _ _) => decide (T = "list")
    | some (.dict _ _) => decide (T = "dict")
    | _ => false) := (rfl)
@[simp] theorem e_Sl (f : Den AV) (fl fh : DenO) : dSl f fl fh σ A = (f σ A).bind fun v A1 => (fl σ A1).bind fun lo A2 => (fh σ A2).bind fun hi A3 => ofO (pSl v lo hi A3) := (rfl)
@[simp] theorem e_NoPart : dNoPart σ A = .ok none A := (rfl)
@[simp] theorem e_Part (f : Den AV) : dPart f σ A = (f σ A).bind fun v A1 => match v with
  | .int i => .ok (some i) A1
  | _ => .bad := (rfl)
variable (lo hi : Option Int)
@[simp] theorem e_slT (xs : List AV) : pSl (.tup xs) lo hi A = some (.tup (cutA xs lo hi), A) := (rfl)
@[simp] theorem e_slK (xs : List AV) : pSl (.kl xs) lo hi A = some (.ref A.length, A ++ [.lst (cutA xs lo hi) false]) := (rfl)
@[simp] theorem e_slR : pSl (.ref n) lo hi A = (match gt A n with
    | some (.lst xs _) => some (.ref A.length, A ++ [.lst (cutA xs lo hi) false])
    | _ => none) := (rfl)
@[simp] theorem e_slS (h : a.length ≤ 16777216) : pSl (.str (S a)) lo hi A = some (.str (S (cutA a lo hi)), A) := if_pos h
@[simp] theorem cut_to {α : Type} (xs : List α) (h : 0 ≤ i) : cutA xs none (some i) = xs.take i.toNat := by
  unfold cutA HT.sIx
  dsimp only
  rw [if_neg (by omega)]
  simp
@[simp] theorem cut_from {α : Type} (xs : List α) (h : 0 ≤ i) : cutA xs (some i) none = xs.drop i.toNat := by
  unfold cutA HT.sIx
  dsimp only
  rw [if_neg (by omega)]
  rw [List.take_of_length_le (by simp)]
  by_cases h2 : i.toNat ≤ xs.length
  · rw [Nat.min_eq_left h2]
  · rw [Nat.min_eq_right (by omega), List.drop_length, List.drop_of_length_le (by omega)]
@[simp] theorem e_in1 (c : Nat) : pIn (.str (S [c])) (.str (S a)) A = some (.bl (decide (c ∈ a)), A) := (rfl)
@[simp] theorem e_ltS : pLt (.str (S a)) (.str (S b)) A = some (.bl (decide (a < b)), A) := (rfl)
@[simp] theorem e_leS : pLe (.str (S a)) (.str (S b)) A = some (.bl (!decide (b < a)), A) := (rfl)
@[simp] theorem e_isiBl (f1 : Nat → Nat → Option Bool) (f2 : Nat → String → Option Bool) (f3 : String → Nat → Option Bool) (y : Bool) (t : String) : fIsi f1 f2 f3 [.bl y, .ty t] A = (kitBi "bool" t).map fun r => (.bl r, A) := (rfl)
@[simp] theorem kit_bb : kitBi "bool" "bool" = some true := by decide
@[simp] theorem kit_ss : kitBi "str" "str" = some true := by decide
@[simp] theorem kit_tt : kitBi "tuple" "tuple" = some true := by decide
@[simp] theorem kit_nt : kitBi "NoneType" "tuple" = some false := by decide
/-! ### comprehensions, loops -/
theorem comp_run {src : Src} {g : GDen} {t : Den Bool} {e : Den AV} {d : Nat} {τ : ASt} (xs : List AV) (Inv : Nat → List AV → AHp → Prop) (hx : xs.length < 16777216)
    (step : ∀ i acc B, i ≤ xs.length → gt B d = some (.lst acc false) → Inv i acc B → src i B = some xs[i]? ∧ ∀ x, xs[i]? = some x → ∃ σ1 b B1, g x τ B = some σ1 ∧ t σ1 B = .ok b B1 ∧
      if b = true then ∃ v B2, e σ1 B1 = .ok v B2 ∧ gt B2 d = some (.lst acc false) ∧ Inv (i + 1) (acc ++ [v]) (B2.set d (.lst (acc ++ [v]) false)) else gt B1 d = some (.lst acc false) ∧ Inv (i + 1) acc B1)
    {A0 : AHp} (h0 : gt A0 d = some (.lst [] false)) (hi : Inv 0 [] A0) :
    ∃ vs A', compL src g t e d τ (xs.length + 1) 0 A0 = .ok (.ref d) A' ∧ gt A' d = some (.lst vs false) ∧ Inv xs.length vs A' := by
  have main : ∀ m i acc B, i + m = xs.length → acc.length ≤ i → gt B d = some (.lst acc false) → Inv i acc B → ∃ vs A', compL src g t e d τ (m + 1) i B = .ok (.ref d) A' ∧ gt A' d = some (.lst vs false) ∧ Inv xs.length vs A' := by
    intro m
    induction m with
    | zero =>
      intro i acc B hm ha hB hI
      obtain ⟨e1, _⟩ := step i acc B (by omega) hB hI
      have hn : xs[i]? = none := List.getElem?_eq_none (by omega)
      rw [hn] at e1
      refine ⟨acc, B, ?_, hB, by rw [← hm]; exact hI⟩
      unfold compL
      rw [e1]
    | succ m ih =>
      intro i acc B hm ha hB hI
      obtain ⟨e1, st⟩ := step i acc B (by omega) hB hI
      have hlt : i < xs.length := by omega
      have hs : xs[i]? = some xs[i] := List.getElem?_eq_getElem hlt
      rw [hs] at e1
      obtain ⟨σ1, b, B1, eg, et, h⟩ := st _ hs
      unfold compL
      rw [e1]
      dsimp only
      rw [eg]
      dsimp only
      rw [et]
      cases b with
      | true =>
        rw [if_pos rfl] at h
        obtain ⟨v, B2, ev, hd, hI2⟩ := h
        dsimp only
        rw [ev]
        dsimp only
        have hd' : B2[d]? = some (.lst acc false) := hd
        rw [hd']
        dsimp only
        rw [if_pos (show acc.length < sizeLine by show acc.length < 16777216; omega)]
        exact ih (i + 1) _ _ (by omega) (by simp; omega) (gt_set (gt_lt hd)) hI2
      | false =>
        rw [if_neg (by decide)] at h
        exact ih (i + 1) acc B1 (by omega) (by omega) h.1 h.2
  exact main xs.length 0 [] A0 (by omega) (by simp) h0 hi
theorem comp_pure {α : Type} {g : GDen} {t : Den Bool} {e : Den AV} {τ : ASt} {l : List α} {src : Src} (mk f : α → AV) {A : AHp} (hx : l.length < 16777216) (hs : ∀ acc i, src i (A ++ [.lst acc false]) = some (l.map mk)[i]?)
    (h : ∀ acc x, x ∈ l → ∃ σ1, g (mk x) τ (A ++ [.lst acc false]) = some σ1 ∧ t σ1 (A ++ [.lst acc false]) = .ok true (A ++ [.lst acc false]) ∧ e σ1 (A ++ [.lst acc false]) = .ok (f x) (A ++ [.lst acc false])) :
    compL src g t e A.length τ (l.length + 1) 0 (A ++ [.lst [] false]) = .ok (.ref A.length) (A ++ [.lst (l.map f) false]) := by
  obtain ⟨vs, A', e1, e2, e3⟩ := comp_run (src := src) (g := g) (t := t) (e := e) (d := A.length) (τ := τ) (l.map mk) (fun i acc B => B = A ++ [.lst acc false] ∧ acc = (l.take i).map f) (by simpa using hx) (fun i acc B hi hd hI => by
    obtain ⟨rfl, ha⟩ := hI
    refine ⟨hs _ _, fun x hx => ?_⟩
    rw [List.getElem?_map] at hx
    obtain ⟨y, hy, rfl⟩ := Option.map_eq_some_iff.mp hx
    obtain ⟨σ1, q1, q2, q3⟩ := h acc y (List.mem_of_getElem? hy)
    refine ⟨σ1, true, _, q1, q2, ?_⟩
    rw [if_pos rfl]
    refine ⟨_, _, q3, hd, ?_, ?_⟩
    · simp
    · rw [ha, List.take_add_one, hy]
      simp) (A0 := A ++ [.lst [] false]) gt_new ⟨rfl, by simp⟩
  rw [List.length_map] at e1
  rw [e1]
  obtain ⟨rfl, rfl⟩ := e3
  rw [List.length_map, List.take_length]
theorem loop_run {src : Src} {g : GDen} {body : SDen} (xs : List AV) (Inv : Nat → ASt → AHp → Prop) (Post : SR → Prop)
    (step : ∀ i τ B, i ≤ xs.length → Inv i τ B → src i B = some xs[i]? ∧ ∀ x, xs[i]? = some x → ∃ σ1, g x τ B = some σ1 ∧ match body σ1 B with
      | .nx σ2 B2 => Inv (i + 1) σ2 B2
      | .ct σ2 B2 => Inv (i + 1) σ2 B2
      | .bk σ2 B2 => Post (.nx σ2 B2)
      | r => Post r)
    (last : ∀ τ B, Inv xs.length τ B → Post (.nx τ B)) {τ : ASt} {A0 : AHp} (hi : Inv 0 τ A0) : Post (loopS src g body (xs.length + 1) 0 τ A0) := by
  have main : ∀ m i τ B, i + m = xs.length → Inv i τ B → Post (loopS src g body (m + 1) i τ B) := by
    intro m
    induction m with
    | zero =>
      intro i τ B hm hI
      obtain ⟨e1, _⟩ := step i τ B (by omega) hI
      have hn : xs[i]? = none := List.getElem?_eq_none (by omega)
      rw [hn] at e1
      unfold loopS
      rw [e1]
      have e : i = xs.length := by omega
      exact last τ B (e ▸ hI)
    | succ m ih =>
      intro i τ B hm hI
      obtain ⟨e1, st⟩ := step i τ B (by omega) hI
      have hlt : i < xs.length := by omega
      have hs : xs[i]? = some xs[i] := List.getElem?_eq_getElem hlt
      rw [hs] at e1
      obtain ⟨σ1, eg, h⟩ := st _ hs
      unfold loopS
      rw [e1]
      dsimp only
      rw [eg]
      dsimp only
      cases e : body σ1 B with
      | nx σ2 B2 => rw [e] at h; exact ih (i + 1) σ2 B2 (by omega) h
      | ct σ2 B2 => rw [e] at h; exact ih (i + 1) σ2 B2 (by omega) h
      | bk σ2 B2 => rw [e] at h; exact h
      | rt v B2 => rw [e] at h; exact h
      | er σ2 c r B2 => rw [e] at h; exact h
      | bad => rw [e] at h; exact h
  exact main xs.length 0 τ A0 (by omega) hi
theorem src_C (xs : List AV) (B : AHp) (i : Nat) : srcC xs i B = some xs[i]? := rfl
theorem src_L {B : AHp} {n : Nat} {xs : List AV} {ro : Bool} (h : gt B n = some (.lst xs ro)) (i : Nat) : srcL n i B = some xs[i]? := by
  unfold srcL
  rw [gt_def, h]
def rngL (lo : Int) (n : Nat) : List AV := (List.range n).map fun (i : Nat) => AV.int (lo + (i : Int))
@[simp] theorem rngL_length (lo : Int) (n : Nat) : (rngL lo n).length = n := by simp [rngL]
theorem src_R (lo : Int) (n : Nat) (B : AHp) (i : Nat) : srcR lo n i B = some (rngL lo n)[i]? := by
  unfold srcR rngL
  by_cases h : i < n
  · simp [h]
  · simp [h]
theorem rngL_get {lo : Int} {n i : Nat} {x : AV} (h : (rngL lo n)[i]? = some x) : x = .int (lo + i) ∧ i < n := by
  have hl := (List.getElem?_eq_some_iff.mp h).1
  rw [rngL_length] at hl
  have e := (src_R lo n [] i).trans (congrArg some h)
  unfold srcR at e
  rw [if_pos hl] at e
  cases e
  exact ⟨rfl, hl⟩
end
def dictK (n : Nat) (ps : List (AV × AV)) (A1 : AHp) : Res AV := match keyPairs ps with
  | some l => (match gt A1 n with
    | some (.dict [] false) => if l.length ≤ 15 then .ok (.ref n) (A1.set n (.dict (mergeA [] l) false)) else .bad
    | _ => .bad)
  | none => .bad
section
variable (σ : ASt) (A : AHp)
@[simp] theorem e_Dict (fs : List (Den AV × Den AV)) : dDict fs σ A = (dPairs fs σ (A ++ [.dict [] false])).bind fun ps A1 => dictK A.length ps A1 := (rfl)
@[simp] theorem e_dictK (n : Nat) (ps : List (AV × AV)) : dictK n ps A = (match keyPairs ps with
  | some l => (match gt A n with
    | some (.dict [] false) => if l.length ≤ 15 then .ok (.ref n) (A.set n (.dict (mergeA [] l) false)) else .bad
    | _ => .bad)
  | none => .bad) := (rfl)
@[simp] theorem e_dPairs0 : dPairs [] σ A = .ok [] A := (rfl)
@[simp] theorem e_dPairs1 (a b : Den AV) (r : List (Den AV × Den AV)) : dPairs ((a, b) :: r) σ A = (a σ A).bind fun x A1 => (b σ A1).bind fun y A2 => (dPairs r σ A2).bind fun ps A3 => .ok ((x, y) :: ps) A3 := (rfl)
@[simp] theorem keyPairs0 : keyPairs [] = some [] := (rfl)
@[simp] theorem keyPairsS (x : Str) (b : AV) (r : List (AV × AV)) : keyPairs ((.str x, b) :: r) = (keyPairs r).map fun l => (.inr x, b) :: l := by
  rw [keyPairs]
  cases keyPairs r <;> rfl
@[simp] theorem keyPairsI (x : Int) (b : AV) (r : List (AV × AV)) : keyPairs ((.int x, b) :: r) = (keyPairs r).map fun l => (.inl x, b) :: l := by
  rw [keyPairs]
  cases keyPairs r <;> rfl
@[simp] theorem merge0 (kvs : List (AK × AV)) : mergeA kvs [] = kvs := (rfl)
@[simp] theorem merge1 (kvs : List (AK × AV)) (k : Key) (v : AV) (l : List (Key × AV)) : mergeA kvs ((k, v) :: l) = mergeA (putA kvs (.k k) v) l := (rfl)
end
end Ev
end
section
/-! Ev, twelfth part: zip. -/
namespace Ev
open PySem PySem.Spec L2
set_option autoImplicit false
section
variable {E : En} {X : Cx} {W : WX} {k : Nat} {ρ : List Addr} {H : Hp}
/-- two sources side by side -/
def srcZ (s1 s2 : Src) : Src := fun i A => match s1 i A, s2 i A with
  | some (some x), some (some y) => some (some (.tup [x, y]))
  | some none, some _ => some none
  | some _, some none => some none
  | _, _ => none
def zipOf (vs : List AV) (A : AHp) : Res (Src × Nat) := match vs with
  | [.tup xs, .tup ys] => .ok (srcZ (srcC xs) (srcC ys), min xs.length ys.length + 1) A
  | [.ref n, .ref m] => (match A[n]?, A[m]? with
    | some (.lst xs _), some (.lst ys _) => .ok (srcZ (srcL n) (srcL m), min xs.length ys.length + 1) A
    | _, _ => .bad)
  | _ => .bad
def iZp (f : Den (List AV)) : IDen := fun σ A => (f σ A).bind fun vs A1 => zipOf vs A1
theorem srcL_at {A : AHp} {n i : Nat} {r : Option AV} (h : srcL n i A = some r) : ∃ xs ro, A[n]? = some (.lst xs ro) ∧ xs[i]? = r := by
  unfold srcL at h
  split at h
  · rename_i e
    cases h
    exact ⟨_, _, e, rfl⟩
  · cases h
theorem jok_zipL {n m : Nat} {a b : Addr} {ρ0 : List Addr} {H0 : Hp} (K : PySem.W.Frag) (ea : ρ0[n]? = some a) (eb : ρ0[m]? = some b) : JOk E (Itz K a b) (srcZ (srcL n) (srcL m)) ρ0 H0 := by
  intro ρ A H i x hh
  have ea' := x.pre n a ea
  have eb' := x.pre m b eb
  have get : ∀ {n : Nat} {a : Addr} {r : Option AV}, ρ[n]? = some a → srcL n i A = some r → ∃ xs ys, SqL K H a ys ∧ RVs E ρ H xs ys ∧ xs[i]? = r := by
    intro n a r ea h
    obtain ⟨xs, ro, e, er⟩ := srcL_at h
    obtain ⟨p0, ys, p1, r2, w0, _⟩ := hh.lst e
    rw [ea] at p1
    cases p1
    exact ⟨xs, ys, .inl w0, r2, er⟩
  unfold srcZ
  cases e1 : srcL n i A with
  | none => exact ⟨fun z => (nomatch z), fun _ z => (nomatch z)⟩
  | some r1 =>
    cases e2 : srcL m i A with
    | none => cases r1 <;> exact ⟨fun z => (nomatch z), fun _ z => (nomatch z)⟩
    | some r2 =>
      obtain ⟨xs, us, q1, rv1, g1⟩ := get ea' e1
      obtain ⟨ys, ws, q2, rv2, g2⟩ := get eb' e2
      cases r1 with
      | none =>
        refine ⟨fun _ => ⟨us, ws, q1, q2, .inl ?_⟩, fun v z => by cases r2 <;> cases z⟩
        rw [rv1.length]
        exact List.getElem?_eq_none_iff.mp g1
      | some x1 => cases r2 with
        | none =>
          refine ⟨fun _ => ⟨us, ws, q1, q2, .inr ?_⟩, fun v z => by cases z⟩
          rw [rv2.length]
          exact List.getElem?_eq_none_iff.mp g2
        | some y1 =>
          refine ⟨fun z => (nomatch z), fun v z => ?_⟩
          cases z
          obtain ⟨u, eu, ru⟩ := rv1.get g1
          obtain ⟨w, ew, rw'⟩ := rv2.get g2
          refine ⟨⟨us, ws, u, w, q1, q2, eu, ew⟩, ?_⟩
          rintro x' H' ⟨T, x2, y2, rfl, hT, rfl, f1, f2⟩
          have z1 := f1 us q1
          have z2 := f2 ws q2
          rw [eu] at z1
          rw [ew] at z2
          cases z1; cases z2
          exact newTup hh hT ⟨_, _, rfl, ru, _, _, rfl, rw', rfl⟩
theorem jok_zipT {xs ys : List AV} {us ws : List V} {a b : Addr} {ρ0 : List Addr} {H0 : Hp} (K : PySem.W.Frag) (s1 : H0 a = some (.tup us)) (s2 : H0 b = some (.tup ws)) (r1 : RVs E ρ0 H0 xs us) (r2 : RVs E ρ0 H0 ys ws) : JOk E (RZ.ItzT K a b) (srcZ (srcC xs) (srcC ys)) ρ0 H0 := by
  intro ρ A H i x hh
  have t1 := x.fx a _ s1 rfl
  have t2 := x.fx b _ s2 rfl
  have rv1 := r1.ext x
  have rv2 := r2.ext x
  have q1 : SqT K H a us := .inl (.inl t1)
  have q2 : SqT K H b ws := .inl (.inl t2)
  unfold srcZ srcC
  cases g1 : xs[i]? with
  | none =>
    refine ⟨fun _ => ⟨us, ws, q1, q2, .inl ?_⟩, fun v z => by cases z⟩
    rw [rv1.length]
    exact List.getElem?_eq_none_iff.mp g1
  | some x1 => cases g2 : ys[i]? with
    | none =>
      refine ⟨fun _ => ⟨us, ws, q1, q2, .inr ?_⟩, fun v z => by cases z⟩
      rw [rv2.length]
      exact List.getElem?_eq_none_iff.mp g2
    | some y1 =>
      refine ⟨fun z => (nomatch z), fun v z => ?_⟩
      cases z
      obtain ⟨u, eu, ru⟩ := rv1.get g1
      obtain ⟨w, ew, rw'⟩ := rv2.get g2
      refine ⟨⟨us, ws, u, w, q1, q2, eu, ew⟩, ?_⟩
      rintro x' H' ⟨T, x2, y2, rfl, hT, rfl, f1, f2⟩
      have z1 := f1 us q1
      have z2 := f2 ws q2
      rw [eu] at z1
      rw [ew] at z2
      cases z1; cases z2
      exact newTup hh hT ⟨_, _, rfl, ru, _, _, rfl, rw', rfl⟩
theorem si_zip {e e2 : Expr} {f : Den (List AV)} {p pos tpos : Pos} {elts : List Expr} {kk : Nat} (hg : Gl X "zip") (hm : X.mg "zip" = none) (ha : SA E X W [e, e2] f)
    (hs : starEach [e, e2] X.env = (false, eval e X.env) :: starEach [e2] X.env) (hpl : (backTo pos (starEach [e2] X.env)).any (·.1) = false) :
    SI E X W (.Tuple elts kk tpos) (.Call (.Name "zip" p) [e, e2] [] pos) (iZp f) := by
  refine ⟨fun pins s σ H R I h => ?_⟩
  obtain ⟨ρ, σa, A, hs', hh, q⟩ := h
  refine (RZ.pi_zipA (X := X) (elts := elts) (kk := kk) (tpos := tpos) (p := p) (pos := pos) hg hm ha hs hpl).run pins s σ H R I ⟨ρ, σa, A, hs', hh, ?_⟩
  unfold iZp at q
  cases e1 : f σa A with
  | err c i A2 => rw [e1] at q; exact q
  | bad => rw [e1] at q; exact q
  | ok vs A1 =>
    rw [e1] at q
    dsimp only [Res.bind] at q
    have key : (∃ xs ys, vs = [.tup xs, .tup ys]) ∨ (∃ n m, vs = [.ref n, .ref m]) := by
      clear e1
      rcases vs with _ | ⟨v1, _ | ⟨v2, _ | ⟨v3, r⟩⟩⟩
      · exact q.elim
      · cases v1 <;> exact q.elim
      · cases v1 <;> cases v2 <;> first | exact .inl ⟨_, _, rfl⟩ | exact .inr ⟨_, _, rfl⟩ | exact q.elim
      · cases v1 <;> cases v2 <;> exact q.elim
    intro ρ1 H1 b x rh rb
    rcases key with ⟨xs, ys, rfl⟩ | ⟨n, m, rfl⟩
    · obtain ⟨y, z, rfl, ⟨a1, us, rfl, s1, r1⟩, ⟨a2, ws, rfl, s2, r2⟩⟩ := rvs2 rb
      exact ⟨a1, a2, us, ws, rfl, .inr ⟨.inl (.inl s1), .inl (.inl s2), q ρ1 H1 _ x rh (jok_zipT _ s1 s2 r1 r2)⟩⟩
    · obtain ⟨y, z, rfl, r1, r2⟩ := rvs2 rb
      unfold zipOf at q
      dsimp only at q
      cases e2 : A1[n]? with
      | none => rw [e2] at q; exact q.elim
      | some o => cases o with
        | lst xs ro => cases e3 : A1[m]? with
          | none => rw [e2, e3] at q; exact q.elim
          | some o2 => cases o2 with
            | lst ys ro2 =>
              rw [e2, e3] at q
              obtain ⟨p0, us, p1, v1, w1, _⟩ := rh.lst e2
              obtain ⟨p2, ws, p3, v2, w2, _⟩ := rh.lst e3
              have ex := RVref r1 p1
              have ey := RVref r2 p3
              subst ex ey
              exact ⟨p0, p2, us, ws, rfl, .inl ⟨.inl w1, .inl w2, q ρ1 H1 _ x rh (jok_zipL _ p1 p3)⟩⟩
            | dict _ _ => rw [e2, e3] at q; exact q.elim
            | ins _ _ => rw [e2, e3] at q; exact q.elim
            | dn _ => rw [e2, e3] at q; exact q.elim
        | dict _ _ => rw [e2] at q; exact q.elim
        | ins _ _ => rw [e2] at q; exact q.elim
        | dn _ => rw [e2] at q; exact q.elim
end
/-! ### reckoning -/
@[simp] theorem e_iZp (f : Den (List AV)) (σ : ASt) (A : AHp) : iZp f σ A = (f σ A).bind fun vs A1 => zipOf vs A1 := (rfl)
@[simp] theorem e_zipT (xs ys : List AV) (A : AHp) : zipOf [.tup xs, .tup ys] A = .ok (srcZ (srcC xs) (srcC ys), min xs.length ys.length + 1) A := (rfl)
@[simp] theorem e_zipL (n m : Nat) (A : AHp) : zipOf [.ref n, .ref m] A = (match gt A n, gt A m with
    | some (.lst xs _), some (.lst ys _) => .ok (srcZ (srcL n) (srcL m), min xs.length ys.length + 1) A
    | _, _ => .bad) := (rfl)
def zipL (xs ys : List AV) : List AV := (xs.zip ys).map fun p => .tup [p.1, p.2]
@[simp] theorem zipL_length (xs ys : List AV) : (zipL xs ys).length = min xs.length ys.length := by simp [zipL]
theorem src_Z {s1 s2 : Src} {xs ys : List AV} {i : Nat} {B : AHp} (h1 : s1 i B = some xs[i]?) (h2 : s2 i B = some ys[i]?) : srcZ s1 s2 i B = some (zipL xs ys)[i]? := by
  unfold srcZ zipL
  rw [h1, h2, List.getElem?_map, List.zip, List.getElem?_zipWith]
  cases xs[i]? <;> cases ys[i]? <;> rfl
def splitL (c : Nat) (a : List Nat) : List (List Nat) := TL.spl [c] 0 [] a
theorem split_S {a : List Nat} {c : Nat} (hc : c < 256) : Txt.split (S a) (S [c]) = (splitL c a).map S := by
  have h := TL.split_spl (S a) (S [c]) (by simp [TL.tl]) (TL.kind_ok (show (#[c] : Array Nat).all (· < 256) = true by simpa using hc))
  have e : ((Txt.split (S a) (S [c])).map TL.tl).map S = (splitL c a).map S := congrArg (List.map S) h
  rw [List.map_map] at e
  rw [← e]
  exact (List.map_id'' (fun x => (S_eta x).symm) _).symm
@[simp] theorem e_split (a : List Nat) (c : Nat) (A : AHp) (h : a.length + 2 ≤ 16777216) (hc : c < 256) : mSplit (.str (S a)) [.str (S [c])] A = some (.ref A.length, A ++ [.lst ((splitL c a).map fun l => .str (S l)) false]) := by
  show (if (([c] : List Nat).length == 0) = false ∧ a.length + 2 ≤ sizeLine then some (AV.ref A.length, A ++ [.lst ((Txt.split (S a) (S [c])).map AV.str) false]) else none) = _
  rw [if_pos ⟨rfl, h⟩, split_S hc, List.map_map]
  rfl
@[simp] theorem e_tupT (xs : List AV) (A : AHp) : fTuple [.tup xs] A = some (.tup xs, A) := (rfl)
@[simp] theorem e_tupR (n : Nat) (A : AHp) : fTuple [.ref n] A = (match gt A n with
    | some (.lst xs _) => some (.tup xs, A)
    | _ => none) := (rfl)
section
variable (f1 : Nat → Nat → Option Bool) (f2 : Nat → String → Option Bool) (f3 : String → Nat → Option Bool) (A : AHp)
theorem isi_ty (v : AV) (t : String) : fIsi f1 f2 f3 [v, .ty t] A = (tyA v A).bind fun q => (kitA f1 f2 f3 q (.ty t)).map fun r => (.bl r, A) := by
  show (match tyA v A with
    | some q => (kitA f1 f2 f3 q (.ty t)).map fun b => (AV.bl b, A)
    | none => none) = _
  cases tyA v A <;> rfl
@[simp] theorem e_isiN (t : String) : fIsi f1 f2 f3 [.non, .ty t] A = (kitBi "NoneType" t).map fun r => (.bl r, A) := by rw [isi_ty]; rfl
@[simp] theorem e_isiI (i : Int) (t : String) : fIsi f1 f2 f3 [.int i, .ty t] A = (kitBi "int" t).map fun r => (.bl r, A) := by rw [isi_ty]; rfl
@[simp] theorem e_isiS (x : Str) (t : String) : fIsi f1 f2 f3 [.str x, .ty t] A = (kitBi "str" t).map fun r => (.bl r, A) := by rw [isi_ty]; rfl
@[simp] theorem e_isiT (xs : List AV) (t : String) : fIsi f1 f2 f3 [.tup xs, .ty t] A = (kitBi "tuple" t).map fun r => (.bl r, A) := by rw [isi_ty]; rfl
@[simp] theorem e_isiR (n : Nat) (t : String) : fIsi f1 f2 f3 [.ref n, .ty t] A = (match gt A n with
    | some (.lst _ _) => (kitBi "list" t).map fun r => (.bl r, A)
    | some (.dict _ false) => (kitBi "dict" t).map fun r => (.bl r, A)
    | some (.ins c _) => (f2 c t).map fun r => (.bl r, A)
    | _ => none) := by
  rw [isi_ty]
  show ((match gt A n with
    | some (.lst _ _) => some (Sum.inr "list")
    | some (.dict _ false) => some (Sum.inr "dict")
    | some (.ins c _) => some (Sum.inl c)
    | _ => none : Option (Nat ⊕ String))).bind _ = _
  cases gt A n with
  | none => rfl
  | some o => cases o with
    | dict kvs lk => cases lk <;> rfl
    | _ => rfl
end
@[simp] theorem kit_eval (m n : String) : kitBi m n = if (["NoneType", "bool", "int", "str", "tuple", "list", "dict"].contains m && ["NoneType", "bool", "int", "str", "tuple", "list", "dict"].contains n) = true then some (m == n || (m == "bool" && n == "int")) else none := by
  unfold kitBi bTys
  rfl
@[simp] theorem e_isN (v : AV) (A : AHp) : pIs v .non A = some (.bl (isNon v), A) := (rfl)
@[simp] theorem e_isnotN (v : AV) (A : AHp) : pIsNot v .non A = some (.bl (!isNon v), A) := (rfl)
@[simp] theorem e_gTp (n : Nat) (gs : GsDen) (xs : List AV) (σ : ASt) (A : AHp) : gTp n gs (.tup xs) σ A = if xs.length = n then gs xs σ A else none := (rfl)
@[simp] theorem e_gsNil (σ : ASt) (A : AHp) : gsNil [] σ A = some σ := (rfl)
@[simp] theorem e_gsCons (g : GDen) (gs : GsDen) (v : AV) (r : List AV) (σ : ASt) (A : AHp) : gsCons g gs (v :: r) σ A = (g v σ A).bind fun σ1 => gs r σ1 A := (rfl)
@[simp] theorem isNon_non : isNon .non = true := (rfl)
@[simp] theorem isNon_bl (b : Bool) : isNon (.bl b) = false := (rfl)
@[simp] theorem isNon_int (b : Int) : isNon (.int b) = false := (rfl)
@[simp] theorem isNon_str (b : Str) : isNon (.str b) = false := (rfl)
@[simp] theorem isNon_tup (b : List AV) : isNon (.tup b) = false := (rfl)
@[simp] theorem isNon_ref (b : Nat) : isNon (.ref b) = false := (rfl)
/-- a comprehension whose item and condition change nothing that was there -/
theorem comp_fr {α : Type} {g : GDen} {t : Den Bool} {e : Den AV} {τ : ASt} {l : List α} {src : Src} (mk f : α → AV) (p : α → Bool) {A : AHp} (hx : l.length < 16777216) (hs : ∀ B i, Fr [] A B → src i B = some (l.map mk)[i]?)
    (h : ∀ B x, x ∈ l → Fr [] A B → ∃ σ1 B1, g (mk x) τ B = some σ1 ∧ t σ1 B = .ok (p x) B1 ∧ Fr [] B B1 ∧ (p x = true → ∃ B2, e σ1 B1 = .ok (f x) B2 ∧ Fr [] B1 B2)) :
    ∃ A', compL src g t e A.length τ (l.length + 1) 0 (A ++ [.lst [] false]) = .ok (.ref A.length) A' ∧ gt A' A.length = some (.lst ((l.filter p).map f) false) ∧ Fr [] A A' := by
  obtain ⟨vs, A', e1, e2, e3, e4, _⟩ := comp_run (src := src) (g := g) (t := t) (e := e) (d := A.length) (τ := τ) (l.map mk) (fun i acc B => Fr [] A B ∧ acc = ((l.take i).filter p).map f ∧ A.length < B.length) (by simpa using hx) (fun i acc B hi hd ⟨hF, ha, hL⟩ => by
    refine ⟨hs _ _ hF, fun x hx => ?_⟩
    rw [List.getElem?_map] at hx
    obtain ⟨y, hy, rfl⟩ := Option.map_eq_some_iff.mp hx
    obtain ⟨σ1, B1, q1, q2, q3, q4⟩ := h B y (List.mem_of_getElem? hy) hF
    refine ⟨σ1, p y, B1, q1, q2, ?_⟩
    have hd1 : gt B1 A.length = some (.lst acc false) := q3.gt hd (by simp)
    cases hp : p y with
    | true =>
      obtain ⟨B2, q5, q6⟩ := q4 hp
      rw [if_pos rfl]
      refine ⟨_, B2, q5, q6.gt hd1 (by simp), ((hF.trans q3).trans q6).setNew (Nat.le_refl _), ?_, ?_⟩
      · rw [ha, List.take_add_one, hy, List.filter_append]
        simp [hp]
      · rw [List.length_set]
        have := q3.len; have := q6.len; omega
    | false =>
      rw [if_neg (by decide)]
      refine ⟨hd1, hF.trans q3, ?_, by have := q3.len; omega⟩
      rw [ha, List.take_add_one, hy, List.filter_append]
      simp [hp]) (A0 := A ++ [.lst [] false]) gt_new ⟨Fr.app _ _ _, by simp, by simp⟩
  rw [List.length_map] at e1 e4
  rw [List.take_length] at e4
  exact ⟨A', e1, e4 ▸ e2, e3⟩
section
variable {α : Type}
theorem atI_nn (xs : List α) {i : Int} (h : 0 ≤ i) : atI xs i = xs[i.toNat]? := by
  unfold atI ixN
  rw [if_pos h]
  by_cases h2 : i < xs.length
  · rw [if_pos h2]; rfl
  · rw [if_neg h2, List.getElem?_eq_none (by omega)]; rfl
@[simp] theorem atI_c0 (a : α) (l : List α) : atI (a :: l) 0 = some a := by rw [atI_nn _ (by omega)]; rfl
@[simp] theorem atI_c1 (a b : α) (l : List α) : atI (a :: b :: l) 1 = some b := by rw [atI_nn _ (by omega)]; rfl
@[simp] theorem atI_c2 (a b c : α) (l : List α) : atI (a :: b :: c :: l) 2 = some c := by rw [atI_nn _ (by omega)]; rfl
@[simp] theorem atI_c3 (a b c d : α) (l : List α) : atI (a :: b :: c :: d :: l) 3 = some d := by rw [atI_nn _ (by omega)]; rfl
@[simp] theorem atI_c4 (a b c d e : α) (l : List α) : atI (a :: b :: c :: d :: e :: l) 4 = some e := by rw [atI_nn _ (by omega)]; rfl
theorem atI_last (xs : List α) : atI xs (-1) = xs.getLast? := by
  unfold atI ixN
  rw [if_neg (by omega)]
  cases xs with
  | nil => rfl
  | cons a l =>
    rw [if_pos (by rw [List.length_cons]; omega), List.getLast?_eq_getElem?]
    have e : (-1 + ((a :: l).length : Int)).toNat = (a :: l).length - 1 := by omega
    rw [e]
    rfl
end
end Ev
end
section
/-! Ev, thirteenth part: plain things, their compare; more reckoning. -/
namespace Ev
open PySem PySem.Spec L2
set_option autoImplicit false
/-! what a law compares: a plain thing -/
inductive T where
  | non | bl (b : Bool) | int (i : Int) | str (l : List Nat) | tup (ts : List T) | lst (ts : List T)
mutual
def Rep (A : AHp) : T → AV → Prop
  | .non, v => v = .non
  | .bl b, v => v = .bl b
  | .int i, v => v = .int i
  | .str l, v => v = .str (S l)
  | .tup ts, v => ∃ xs, v = .tup xs ∧ Reps A ts xs
  | .lst ts, v => ∃ n xs, v = .ref n ∧ gt A n = some (.lst xs false) ∧ Reps A ts xs
def Reps (A : AHp) : List T → List AV → Prop
  | [], vs => vs = []
  | t :: ts, vs => ∃ x xs, vs = x :: xs ∧ Rep A t x ∧ Reps A ts xs
end
mutual
/-- the law's compare: found, due -/
def sameT : T → T → Bool
  | f, .tup ys => (match f with
    | .tup xs => sameL xs ys
    | _ => false)
  | f, .lst ys => (match f with
    | .lst xs => sameL xs ys
    | _ => false)
  | f, .non => (match f with
    | .non => true
    | _ => false)
  | f, .str y => (match f with
    | .str x => decide (x = y)
    | _ => false)
  | f, .int y => (match f with
    | .int x => decide (x = y)
    | _ => false)
  | f, .bl b => (match f with
    | .int x => decide (x = if b then 1 else 0)
    | _ => false)
def sameL : List T → List T → Bool
  | [], [] => true
  | x :: xs, y :: ys => sameT x y && sameL xs ys
  | _, _ => false
end
mutual
def dep : T → Nat
  | .tup ts => deps ts + 1
  | .lst ts => deps ts + 1
  | _ => 0
def deps : List T → Nat
  | [] => 0
  | t :: ts => max (dep t) (deps ts)
end
mutual
def noB : T → Bool
  | .bl _ => false
  | .tup ts => noBs ts
  | .lst ts => noBs ts
  | _ => true
def noBs : List T → Bool
  | [] => true
  | t :: ts => noB t && noBs ts
end
theorem noBs_get : ∀ {ts : List T} {i : Nat} {t : T}, noBs ts = true → ts[i]? = some t → noB t = true
  | [], _, _, _, e => by simp at e
  | u :: ts, 0, t, h, e => by simp at e; subst e; rw [noBs, Bool.and_eq_true] at h; exact h.1
  | u :: ts, i + 1, t, h, e => by
    rw [noBs, Bool.and_eq_true] at h
    exact noBs_get (i := i) h.2 (by simpa using e)
theorem Reps.length {A : AHp} : ∀ {ts : List T} {xs : List AV}, Reps A ts xs → xs.length = ts.length
  | [], _, h => by cases h; rfl
  | t :: ts, _, h => by
    obtain ⟨x, xs, rfl, _, r⟩ := h
    rw [List.length_cons, List.length_cons, Reps.length r]
theorem Reps.get {A : AHp} : ∀ {ts : List T} {xs : List AV} {i : Nat} {x : AV}, Reps A ts xs → xs[i]? = some x → ∃ t, ts[i]? = some t ∧ Rep A t x
  | [], _, i, x, h, e => by cases h; simp at e
  | t :: ts, _, 0, x, h, e => by
    obtain ⟨y, xs, rfl, r1, r⟩ := h
    simp at e
    subst e
    exact ⟨t, rfl, r1⟩
  | t :: ts, _, i + 1, x, h, e => by
    obtain ⟨y, xs, rfl, r1, r⟩ := h
    obtain ⟨u, e1, r2⟩ := Reps.get r (by simpa using e)
    exact ⟨u, by simpa using e1, r2⟩
theorem deps_get : ∀ {ts : List T} {i : Nat} {t : T}, ts[i]? = some t → dep t ≤ deps ts
  | [], _, _, e => by simp at e
  | u :: ts, 0, t, e => by simp at e; subst e; rw [deps]; omega
  | u :: ts, i + 1, t, e => by
    have := deps_get (ts := ts) (i := i) (t := t) (by simpa using e)
    rw [deps]; omega
theorem sameL_step : ∀ {xs ys : List T}, xs.length = ys.length → (∀ (i : Nat) (x y : T), xs[i]? = some x → ys[i]? = some y → sameT x y = true) → sameL xs ys = true
  | [], [], _, _ => rfl
  | x :: xs, y :: ys, hl, h => by
    rw [sameL, h 0 x y rfl rfl, sameL_step (by simpa using hl) fun i a b e1 e2 => h (i + 1) a b (by simpa using e1) (by simpa using e2)]
    rfl
theorem sameL_fail : ∀ {xs ys : List T} {i : Nat} {x y : T}, xs[i]? = some x → ys[i]? = some y → sameT x y = false → sameL xs ys = false
  | [], _, _, _, _, e, _, _ => by simp at e
  | _ :: _, [], _, _, _, _, e, _ => by simp at e
  | a :: xs, b :: ys, 0, x, y, e1, e2, h => by
    simp at e1 e2
    subst e1 e2
    rw [sameL, h]
    rfl
  | a :: xs, b :: ys, i + 1, x, y, e1, e2, h => by
    rw [sameL, sameL_fail (xs := xs) (ys := ys) (i := i) (by simpa using e1) (by simpa using e2) h]
    simp
theorem sameL_len : ∀ {xs ys : List T}, xs.length ≠ ys.length → sameL xs ys = false
  | [], [], h => absurd rfl h
  | [], _ :: _, _ => rfl
  | _ :: _, [], _ => rfl
  | x :: xs, y :: ys, h => by
    rw [sameL, sameL_len (by simpa using h)]
    simp
mutual
theorem same_refl : ∀ t : T, noB t = true → sameT t t = true
  | .non, _ => by simp [sameT]
  | .bl b, h => by simp [noB] at h
  | .int i, _ => by simp [sameT]
  | .str l, _ => by simp [sameT]
  | .tup ts, h => by rw [noB] at h; rw [sameT]; exact sameL_refl ts h
  | .lst ts, h => by rw [noB] at h; rw [sameT]; exact sameL_refl ts h
theorem sameL_refl : ∀ ts : List T, noBs ts = true → sameL ts ts = true
  | [], _ => rfl
  | t :: ts, h => by
    rw [noBs, Bool.and_eq_true] at h
    rw [sameL, same_refl t h.1, sameL_refl ts h.2]
    rfl
end

mutual
theorem same_eq : ∀ f t : T, noB t = true → sameT f t = true → f = t
  | f, .non, _, h => by cases f <;> first | rfl | (simp [sameT] at h)
  | f, .bl b, n, _ => by simp [noB] at n
  | f, .int i, _, h => by cases f <;> first | (simp [sameT] at h; done) | (simp [sameT] at h; rw [h])
  | f, .str i, _, h => by cases f <;> first | (simp [sameT] at h; done) | (simp [sameT] at h; rw [h])
  | f, .tup ts, n, h => by
    rw [noB] at n
    cases f with
    | tup xs => rw [sameT] at h; rw [sameL_eq xs ts n h]
    | _ => simp [sameT] at h
  | f, .lst ts, n, h => by
    rw [noB] at n
    cases f with
    | lst xs => rw [sameT] at h; rw [sameL_eq xs ts n h]
    | _ => simp [sameT] at h
theorem sameL_eq : ∀ xs ts : List T, noBs ts = true → sameL xs ts = true → xs = ts
  | [], [], _, _ => rfl
  | [], _ :: _, _, h => by simp [sameL] at h
  | _ :: _, [], _, h => by simp [sameL] at h
  | x :: xs, t :: ts, n, h => by
    rw [noBs, Bool.and_eq_true] at n
    rw [sameL, Bool.and_eq_true] at h
    rw [same_eq x t n.1 h.1, sameL_eq xs ts n.2 h.2]
end
theorem same_iff {f t : T} (n : noB t = true) : sameT f t = true ↔ f = t := ⟨same_eq f t n, fun h => h ▸ same_refl t n⟩
/-! ### == of plain things -/
def okS (l : List Nat) : Bool := l.all fun c => decide (c < 1114112)
mutual
def okT : T → Bool
  | .str l => okS l
  | .tup ts => okTs ts
  | .lst ts => okTs ts
  | _ => true
def okTs : List T → Bool
  | [] => true
  | t :: ts => okT t && okTs ts
end
mutual
def pd : T → PyData
  | .non => .none
  | .bl b => .bool b
  | .int i => .int i
  | .str l => .str (S l)
  | .tup ts => .tuple (pds ts)
  | .lst ts => .list (pds ts)
def pds : List T → List PyData
  | [] => []
  | t :: ts => pd t :: pds ts
end
mutual
theorem toD_T {A : AHp} : ∀ (t : T) (v : AV) (k : Nat), Rep A t v → dep t < k → toD k A v = some (pd t)
  | .non, v, k + 1, h, _ => by rw [Rep] at h; subst h; rfl
  | .bl b, v, k + 1, h, _ => by rw [Rep] at h; subst h; rfl
  | .int i, v, k + 1, h, _ => by rw [Rep] at h; subst h; rfl
  | .str l, v, k + 1, h, _ => by rw [Rep] at h; subst h; rfl
  | .tup ts, v, k + 1, h, hd => by
    rw [Rep] at h
    rw [dep] at hd
    obtain ⟨xs, rfl, r⟩ := h
    unfold toD
    dsimp only
    rw [toDs_T ts xs k r (by omega)]
    rfl
  | .lst ts, v, k + 1, h, hd => by
    rw [Rep] at h
    rw [dep] at hd
    obtain ⟨n, xs, rfl, hg, r⟩ := h
    have hg : A[n]? = some (.lst xs false) := hg
    unfold toD
    dsimp only
    rw [hg]
    dsimp only
    rw [toDs_T ts xs k r (by omega)]
    rfl
theorem toDs_T {A : AHp} : ∀ (ts : List T) (vs : List AV) (k : Nat), Reps A ts vs → deps ts < k → mapO (toD k A) vs = some (pds ts)
  | [], vs, k, h, _ => by rw [Reps] at h; subst h; rfl
  | t :: ts, vs, k, h, hd => by
    rw [Reps] at h
    rw [deps] at hd
    obtain ⟨x, xs, rfl, r1, r2⟩ := h
    unfold mapO
    rw [toD_T t x k r1 (by omega), toDs_T ts xs k r2 (by omega)]
    rfl
end
mutual
theorem lay_T : ∀ t : T, okT t = true → (pd t).canLay0 = true
  | .non, _ => by simp [pd, PyData.canLay0]
  | .bl b, _ => by simp [pd, PyData.canLay0]
  | .int i, _ => by simp [pd, PyData.canLay0]
  | .str l, h => by
    rw [okT] at h
    rw [pd, PyData.canLay0]
    show (l.toArray).all (· < 0x110000) = true
    rw [← Array.all_toList]
    exact h
  | .tup ts, h => by rw [okT] at h; rw [pd, PyData.canLay0]; exact lays_T ts h
  | .lst ts, h => by rw [okT] at h; rw [pd, PyData.canLay0]; exact lays_T ts h
theorem lays_T : ∀ ts : List T, okTs ts = true → PyData.canLayAll0 (pds ts) = true
  | [], _ => by rw [pds, PyData.canLayAll0]
  | t :: ts, h => by
    rw [okTs, Bool.and_eq_true] at h
    rw [pds, PyData.canLayAll0, lay_T t h.1, lays_T ts h.2]
    rfl
end
mutual
theorem dep_T : ∀ t : T, (pd t).depth = dep t
  | .non => by simp [pd, PyData.depth, dep]
  | .bl b => by simp [pd, PyData.depth, dep]
  | .int i => by simp [pd, PyData.depth, dep]
  | .str l => by simp [pd, PyData.depth, dep]
  | .tup ts => by rw [pd, PyData.depth, deps_T ts, dep]
  | .lst ts => by rw [pd, PyData.depth, deps_T ts, dep]
theorem deps_T : ∀ ts : List T, PyData.depthAll (pds ts) = deps ts
  | [] => by rw [pds, PyData.depthAll, deps]
  | t :: ts => by rw [pds, PyData.depthAll, dep_T t, deps_T ts, deps]
end
mutual
theorem eqv_T : ∀ f t : T, noB f = true → noB t = true → PyData.eqv (pd f) (pd t) = sameT f t
  | .bl b, _, h, _ => by simp [noB] at h
  | _, .bl b, _, h => by simp [noB] at h
  | .tup xs, .tup ts, h, n => by rw [noB] at h n; rw [pd, pd, PyData.eqv, sameT, eqvs_T xs ts h n]
  | .lst xs, .lst ts, h, n => by rw [noB] at h n; rw [pd, pd, PyData.eqv, sameT, eqvs_T xs ts h n]
  | .int i, .int j, _, _ => by simp [pd, PyData.eqv, sameT]; rfl
  | .str i, .str j, _, _ => by
    rw [pd, pd, PyData.eqv, sameT]
    show (S i == S j) = _
    rw [show (S i == S j) = decide (S i = S j) from rfl]
    simp
  | .non, .non, _, _ => by simp [pd, PyData.eqv, sameT]
  | .non, .int _, _, _ => by simp [pd, PyData.eqv, sameT]
  | .non, .str _, _, _ => by simp [pd, PyData.eqv, sameT]
  | .non, .tup _, _, _ => by simp [pd, PyData.eqv, sameT]
  | .non, .lst _, _, _ => by simp [pd, PyData.eqv, sameT]
  | .int _, .non, _, _ => by simp [pd, PyData.eqv, sameT]
  | .int _, .str _, _, _ => by simp [pd, PyData.eqv, sameT]
  | .int _, .tup _, _, _ => by simp [pd, PyData.eqv, sameT]
  | .int _, .lst _, _, _ => by simp [pd, PyData.eqv, sameT]
  | .str _, .non, _, _ => by simp [pd, PyData.eqv, sameT]
  | .str _, .int _, _, _ => by simp [pd, PyData.eqv, sameT]
  | .str _, .tup _, _, _ => by simp [pd, PyData.eqv, sameT]
  | .str _, .lst _, _, _ => by simp [pd, PyData.eqv, sameT]
  | .tup _, .non, _, _ => by simp [pd, PyData.eqv, sameT]
  | .tup _, .int _, _, _ => by simp [pd, PyData.eqv, sameT]
  | .tup _, .str _, _, _ => by simp [pd, PyData.eqv, sameT]
  | .tup _, .lst _, _, _ => by simp [pd, PyData.eqv, sameT]
  | .lst _, .non, _, _ => by simp [pd, PyData.eqv, sameT]
  | .lst _, .int _, _, _ => by simp [pd, PyData.eqv, sameT]
  | .lst _, .str _, _, _ => by simp [pd, PyData.eqv, sameT]
  | .lst _, .tup _, _, _ => by simp [pd, PyData.eqv, sameT]
theorem eqvs_T : ∀ xs ts : List T, noBs xs = true → noBs ts = true → PyData.eqvAll (pds xs) (pds ts) = sameL xs ts
  | [], [], _, _ => by simp [pds, PyData.eqvAll, sameL]
  | [], _ :: _, _, _ => by simp [pds, PyData.eqvAll, sameL]
  | _ :: _, [], _, _ => by simp [pds, PyData.eqvAll, sameL]
  | x :: xs, t :: ts, h, n => by
    rw [noBs, Bool.and_eq_true] at h n
    rw [pds, pds, PyData.eqvAll, eqv_T x t h.1 n.1, eqvs_T xs ts h.2 n.2, sameL]
end
/-- == of two plain things -/
theorem eqB_T {A : AHp} {d d' : T} {v v' : AV} (h : Rep A d v) (h' : Rep A d' v') (n : noB d = true) (n' : noB d' = true) (o : okT d = true) (o' : okT d' = true) (l : dep d < 40) (l' : dep d' < 40) : eqB v v' A = some (sameT d d') := by
  unfold eqB
  split
  · rename_i hs
    cases d with
    | bl b => simp [noB] at n
    | non => rw [Rep] at h; subst h; cases d' <;> first | (simp [noB] at n'; done) | (rw [Rep] at h'; subst h'; simp [scalA, flatEq, sameT] at hs ⊢; done) | (rw [Rep] at h'; obtain ⟨_, rfl, _⟩ := h'; simp [scalA] at hs; done) | (rw [Rep] at h'; obtain ⟨_, _, rfl, _⟩ := h'; simp [scalA] at hs; done)
    | int i => rw [Rep] at h; subst h; cases d' <;> first | (simp [noB] at n'; done) | (rw [Rep] at h'; subst h'; simp [scalA, flatEq, sameT] at hs ⊢; done) | (rw [Rep] at h'; obtain ⟨_, rfl, _⟩ := h'; simp [scalA] at hs; done) | (rw [Rep] at h'; obtain ⟨_, _, rfl, _⟩ := h'; simp [scalA] at hs; done)
    | str i => rw [Rep] at h; subst h; cases d' <;> first | (simp [noB] at n'; done) | (rw [Rep] at h'; subst h'; simp [scalA, flatEq, sameT] at hs ⊢; done) | (rw [Rep] at h'; obtain ⟨_, rfl, _⟩ := h'; simp [scalA] at hs; done) | (rw [Rep] at h'; obtain ⟨_, _, rfl, _⟩ := h'; simp [scalA] at hs; done)
    | tup ts => rw [Rep] at h; obtain ⟨_, rfl, _⟩ := h; cases v' <;> simp [scalA] at hs
    | lst ts => rw [Rep] at h; obtain ⟨_, _, rfl, _⟩ := h; cases v' <;> simp [scalA] at hs
  · rw [toD_T d v 40 h l, toD_T d' v' 40 h' l']
    dsimp only
    rw [if_pos]
    · rw [eqv_T d d' n n']
    · unfold SeqAt.shaped
      rw [lay_T d o, lay_T d' o', dep_T, dep_T]
      simp
      omega
/-! ### more reckoning -/
def appL (n : Nat) (xs : List AV) (v : AV) (A : AHp) : Option (AV × AHp) := if xs.length < sizeLine then some (.non, A.set n (.lst (xs ++ [v]) false)) else none
@[simp] theorem appL_ok {n : Nat} {xs : List AV} {v : AV} {A : AHp} (h : xs.length < 16777216) : appL n xs v A = some (.non, A.set n (.lst (xs ++ [v]) false)) := if_pos h
@[simp] theorem e_append (n : Nat) (v : AV) (A : AHp) : mAppend (.ref n) [v] A = (match gt A n with
    | some (.lst xs false) => appL n xs v A
    | _ => none) := (rfl)
def extL (n : Nat) (xs ys : List AV) (A : AHp) : Option (AV × AHp) := if xs.length + ys.length ≤ sizeLine then some (.non, A.set n (.lst (xs ++ ys) false)) else none
@[simp] theorem extL_ok {n : Nat} {xs ys : List AV} {A : AHp} (h : xs.length + ys.length ≤ 16777216) : extL n xs ys A = some (.non, A.set n (.lst (xs ++ ys) false)) := if_pos h
@[simp] theorem e_extend (n m : Nat) (A : AHp) : mExtend (.ref n) [.ref m] A = (match gt A n, gt A m with
    | some (.lst xs false), some (.lst ys false) => extL n xs ys A
    | _, _ => none) := (rfl)
@[simp] theorem e_Neg (f : Den AV) (σ : ASt) (A : AHp) : dNeg f σ A = (f σ A).bind fun v A1 => match v with
  | .int i => .ok (.int (-i)) A1
  | _ => .bad := (rfl)
@[simp] theorem e_putRI (n : Nat) (i : Int) (z : AV) (A : AHp) : pPut (.ref n) (.int i) z A = (match gt A n with
    | some (.dict kvs false) => if kindA kvs (.k (.inl i)) = true ∧ kvs.length < 16777216 then some (A.set n (.dict (putA kvs (.k (.inl i)) z) false)) else none
    | some (.lst xs false) => (ixN xs.length i).map fun j => A.set n (.lst (xs.set j z) false)
    | _ => none) := (rfl)
theorem ixN_nn {n : Nat} {i : Int} (h : 0 ≤ i) (h2 : i < n) : ixN n i = some i.toNat := by
  unfold ixN
  rw [if_pos h, if_pos h2]
theorem ixN_last {n : Nat} (h : 0 < n) : ixN n (-1) = some (n - 1) := by
  unfold ixN
  rw [if_neg (by omega), if_pos (by omega)]
  congr 1
  omega
@[simp] theorem e_notin1 (a : List Nat) (c : Nat) (A : AHp) : pNotIn (.str (S [c])) (.str (S a)) A = some (.bl (!decide (c ∈ a)), A) := (rfl)
@[simp] theorem cut_mid {α : Type} (xs : List α) {i j : Int} (h : 0 ≤ i) (h2 : i ≤ j) : cutA xs (some i) (some j) = (xs.drop i.toNat).take (j.toNat - i.toNat) := by
  unfold cutA HT.sIx
  dsimp only
  rw [if_neg (by omega), if_neg (by omega)]
  by_cases h3 : i.toNat ≤ xs.length
  · rw [Nat.min_eq_left h3]
    by_cases h4 : j.toNat ≤ xs.length
    · rw [Nat.min_eq_left h4]
    · rw [Nat.min_eq_right (by omega), List.take_of_length_le (by simp), List.take_of_length_le (by simp; omega)]
  · rw [show min i.toNat xs.length = xs.length by omega, List.drop_length, List.drop_of_length_le (by omega)]
    simp
end Ev
end
section
/-! Ev, fourteenth part: what is never reached; op= ; more. -/
namespace Ev
open PySem PySem.Spec L2
set_option autoImplicit false
section
variable {E : En} {X : Cx} {W : WX} {k : Nat} {ρ : List Addr} {H : Hp}
/-- never reached -/
def sBad : SDen := fun _ _ => .bad
theorem ss_bad (st : Stmt) : SS E X W st sBad := ⟨fun _ _ _ _ _ _ ⟨_, _, _, _, _, q⟩ => q.elim⟩
theorem sss_bad (st : List Stmt) : SSs E X W st sBad := ⟨fun _ _ _ _ _ _ ⟨_, _, _, _, _, q⟩ => q.elim⟩
@[simp] theorem e_sBad (σ : ASt) (A : AHp) : sBad σ A = .bad := (rfl)
/-! ### op= -/
theorem is_int {op : Operator} {p : Op2} {f : Int → Int → Int} (h : PIp X op (ipI f)) (hp : ∀ a b A, p a b A = (match a, b with
    | .int i, .int j => some (.int (f i j), A)
    | _, _ => none)) : IpS E X op p := by
  intro pins s σ H x y v u Q I rx ry hh
  obtain ⟨ρ, A, a, b, hr, ha, hb, q⟩ := hh
  rw [hp] at q
  cases a with
  | int i => cases b with
    | int j =>
      cases ha; cases hb
      exact h pins s σ H _ _ v u Q I rx ry ⟨i, j, rfl, rfl, q.pure hr rfl⟩
    | _ => exact q.elim
  | _ => exact q.elim
/-- +=: ints, texts; a list grows in its place -/
def pIAdd : Op2 := fun a b A => match a, b with
  | .int i, .int j => some (.int (i + j), A)
  | .str x, .str y => if x.length + y.length ≤ sizeLine then some (.str (x ++ y), A) else none
  | .ref n, .ref m => (match A[n]?, A[m]? with
    | some (.lst xs false), some (.lst ys false) => if xs.length + ys.length ≤ sizeLine then some (.ref n, A.set n (.lst (xs ++ ys) false)) else none
    | _, _ => none)
  | _, _ => none
theorem is_add : IpS E X .Add pIAdd := by
  intro pins s σ H x y v u Q I rx ry hq
  obtain ⟨ρ, A, a, b, hh, ha, hb, q⟩ := hq
  unfold pIAdd at q
  cases a with
  | int i => cases b with
    | int j =>
      cases ha; cases hb
      exact iop_add pins s σ H _ _ v u Q I rx ry ⟨i, j, rfl, rfl, q.pure hh rfl⟩
    | _ => exact q.elim
  | str x1 => cases b with
    | str y1 =>
      cases ha; cases hb
      dsimp only at q
      split at q
      · rename_i hz
        exact iop_add_str pins s σ H _ _ v u Q I rx ry ⟨x1, y1, rfl, rfl, hz, q.pure hh rfl⟩
      · exact q.elim
    | _ => exact q.elim
  | ref n => cases b with
    | ref m =>
      dsimp only at q
      cases e1 : A[n]? with
      | none => rw [e1] at q; exact q.elim
      | some o1 => cases o1 with
        | lst xs ro => cases ro with
          | false =>
            cases e2 : A[m]? with
            | none => rw [e1, e2] at q; exact q.elim
            | some o2 => cases o2 with
              | lst ys ro2 => cases ro2 with
                | false =>
                  rw [e1, e2] at q
                  dsimp only at q
                  split at q
                  · rename_i hz
                    obtain ⟨a1, us, p1, r1, _, w1⟩ := hh.lst e1
                    obtain ⟨a2, ws, p2, r2', _, w2⟩ := hh.lst e2
                    have ex := RVref ha p1
                    have ey := RVref hb p2
                    subst ex ey
                    refine iop_ext pins s σ H _ _ v u Q I rx ry ⟨a1, a2, us, ws, rfl, rfl, w1 rfl, w2 rfl, by rw [r1.length, r2'.length]; exact hz, ?_⟩
                    obtain ⟨z1, z2⟩ := setLst hh e1 p1 (r1.append r2')
                    exact q ρ _ _ z2 z1 ⟨a1, p1, rfl⟩
                  · exact q.elim
                | true => rw [e1, e2] at q; exact q.elim
              | _ => rw [e1, e2] at q; exact q.elim
          | true => rw [e1] at q; exact q.elim
        | _ => rw [e1] at q; exact q.elim
    | _ => exact q.elim
  | _ => exact q.elim
@[simp] theorem e_iaddI (i j : Int) (A : AHp) : pIAdd (.int i) (.int j) A = some (.int (i + j), A) := (rfl)
@[simp] theorem e_iaddS (a b : List Nat) (A : AHp) (h : a.length + b.length ≤ 16777216) : pIAdd (.str (S a)) (.str (S b)) A = some (.str (S (a ++ b)), A) := by
  unfold pIAdd
  simp
  exact h
def iextL (n : Nat) (xs ys : List AV) (A : AHp) : Option (AV × AHp) := if xs.length + ys.length ≤ sizeLine then some (.ref n, A.set n (.lst (xs ++ ys) false)) else none
@[simp] theorem iextL_ok {n : Nat} {xs ys : List AV} {A : AHp} (h : xs.length + ys.length ≤ 16777216) : iextL n xs ys A = some (.ref n, A.set n (.lst (xs ++ ys) false)) := if_pos h
@[simp] theorem e_iaddR (n m : Nat) (A : AHp) : pIAdd (.ref n) (.ref m) A = (match gt A n, gt A m with
    | some (.lst xs false), some (.lst ys false) => iextL n xs ys A
    | _, _ => none) := (rfl)
@[simp] theorem e_sAug (i : Nat) (p : Op2) (f : Den AV) (σ : ASt) (A : AHp) : sAug i p f σ A = (match σ[i]? with
  | some (some x) => (f σ A).toS σ fun y A1 => match p x y A1 with
    | some (z, A2) => .nx (σ.set i (some z)) A2
    | none => .bad
  | _ => .bad) := (rfl)
/-! ### an empty dict; two names at once -/
def dNewD : Den AV := fun _ A => .ok (.ref A.length) (A ++ [.dict [] false])
theorem se_newD {pos : Pos} : SE E X W (.Dict [] [] pos) dNewD := by
  refine PE.imp pe_dnewK fun σ H Q ⟨ρ, σa, A, hs, hh, q⟩ => ?_
  intro p hp
  obtain ⟨z1, z2, z3⟩ := newDict hh hp
  exact q _ _ _ z2 z1 ⟨p, z3, rfl⟩
@[simp] theorem e_newD (σ : ASt) (A : AHp) : dNewD σ A = .ok (.ref A.length) (A ++ [.dict [] false]) := (rfl)
def sPar (i j : Nat) (f : Den (List AV)) : SDen := fun σ A => (f σ A).toS σ fun vs A1 => match vs with
  | [v, w] => .nx ((σ.set i (some v)).set j (some w)) A1
  | _ => .bad
theorem ss_par {i j : Nat} {x y : Str} {a b : Expr} {f : Den (List AV)} {px py pt pos : Pos} {kt k2 : Nat} {pt2 : Pos} (c : Ctx E k X W) (hN : X.N.Nodup) (hi : X.N[i]? = some x) (hj : X.N[j]? = some y) (hij : i ≠ j)
    (hx : X.env.scope.names.lookup x = some .local) (hy : X.env.scope.names.lookup y = some .local) (ha : SA E X W [a, b] f)
    (hw : swappedStores [.Tuple [.Name x px, .Name y py] kt pt] (.Tuple [a, b] k2 pt2) X.env = pure (some [x, y]))
    (hs : swapsWithSole [.Tuple [.Name x px, .Name y py] kt pt] (.Tuple [a, b] k2 pt2) pos.line X.env = pure false) :
    SS E X W (.Assign [.Tuple [.Name x px, .Name y py] kt pt] (.Tuple [a, b] k2 pt2) pos) (sPar i j f) := by
  refine PS.imp (ps_par c.calm hN hi hj hij hx hy ha hw hs) fun D σ H h => ?_
  refine rdS_step h fun x' H1 ρ σa A x hs hh hx q => ?_
  rcases x with _ | ⟨v, _ | ⟨w, _ | ⟨u, r⟩⟩⟩
  · exact q.elim
  · exact q.elim
  · obtain ⟨y1, y2, rfl, r1, r2⟩ := rvs2 hx
    exact ⟨y1, y2, rfl, q ρ H1 _ (Ext.refl _ _) hh ((hs.set i r1).set j r2)⟩
  · exact q.elim
@[simp] theorem e_sPar (i j : Nat) (f : Den (List AV)) (σ : ASt) (A : AHp) : sPar i j f σ A = (f σ A).toS σ fun vs A1 => match vs with
  | [v, w] => .nx ((σ.set i (some v)).set j (some w)) A1
  | _ => .bad := (rfl)
end
end Ev
end
section
/-! Ev, fifteenth part: more of dicts. -/
namespace Ev
open PySem PySem.Spec L2
set_option autoImplicit false
section
variable {E : En} {X : Cx} {W : WX} {k : Nat} {ρ : List Addr} {H : Hp}
/-- setdefault on a dict by tuples -/
theorem d_setdT {pins : List (Addr × Obj)} {σ : St} {s : Shared} {a b : Addr} {A : Around} {Er : Value → Shared → Prop} {kvs : List (List Key × V)} {ks : List Key} {d : V} {r : Value} {Q : Value → Shared → Prop} (hu : A.units + 1 < cLine) (I : Inv X pins σ H s) (e : H a = some (.dT kvs)) (eb : H b = some (.tup (ks.map kV))) (rd : RelV d r) (hl : kvs.length < sizeLine)
    (h1 : ∀ v, valV kvs ks = some v → ∀ (w' : Value) (s' : Shared), Inv X pins σ H s' → RelV v w' → Q w' s') (h2 : valV kvs ks = none → ∀ (w' : Value) (s' : Shared), Inv X pins σ (upd H a (.dT (putK kvs ks d))) s' → RelV d w' → Q w' s') :
    wpAny (model X.prog X.w) A (call (.builtin "dict.setdefault") [.ref a, .ref b, r]) Q Er s := by
  obtain ⟨z, hd, xs, rel, dd⟩ := dt_of I.hok e
  have hz : xs.length ≤ sizeLine := by rw [← Paired.length rel]; exact z
  have hl2 : (putK kvs ks d).length ≤ sizeLine := by have := length_putK kvs ks d; omega
  refine call_setdefault_heap (hsz := hz) (tupleKind_room_in1 hu) (key_of I.hok eb) hd dd (fun p hp => ?_) fun hn h' dd' hs => ?_
  · have q := rel.val ks
    rw [hp] at q
    cases q0 : valV kvs ks with
    | none => rw [q0] at q; exact (show False from q).elim
    | some v0 =>
      rw [q0] at q
      exact h1 v0 q0 _ _ (I.tok _) q
  · have q := rel.val ks
    rw [hn] at q
    cases q0 : valV kvs ks with
    | some v0 => rw [q0] at q; exact (show False from q).elim
    | none =>
      refine h2 q0 _ _ ?_ rd
      obtain ⟨q1, es, ep, hq, g2, g3, g4, _, g5⟩ := dd'
      refine d_write I (by rw [e]; exact True.intro) hs ⟨q1, hq⟩ ⟨hl2, hd, _, (rel.put ks eb rd).keeps fun c ys ec => ?_, q1, es, ep, hq, g2, g3, g4, g5⟩
      rw [upd_ne (ne_of ec e (fun z => nomatch z))]
      exact ec
def mSetd : OpM := fun o as A => match o, as with
  | .ref n, [b, z] => (match A[n]? with
    | some (.dict kvs false) => (match keyOf b with
      | some ky => if kindA kvs ky = true ∧ kvs.length < sizeLine then (match getK kvs ky with
        | some v => some (v, A)
        | none => some (z, A.set n (.dict (putA kvs ky z) false))) else none
      | none => none)
    | _ => none)
  | _, _ => none
theorem ms_setd (c : Ctx E k X W) : MtS E X "dict.setdefault" mSetd := by
  intro pins s σ H x xs v us Q I rx rs hq
  obtain ⟨ρ, A, a, as, hh, ra, r, q⟩ := hq
  have key : ∃ n b z, a = .ref n ∧ as = [b, z] := by
    cases a with
    | ref n => rcases as with _ | ⟨v1, _ | ⟨v2, _ | ⟨v3, rest⟩⟩⟩ <;> first | exact ⟨_, _, _, rfl, rfl⟩ | exact q.elim
    | _ => exact q.elim
  obtain ⟨n, b, z, rfl, rfl⟩ := key
  obtain ⟨y, d, rfl, rb, rz⟩ := rvs2 r
  obtain ⟨u1, u2, rfl, g1, g2⟩ := vals2 rs
  unfold mSetd at q
  dsimp only at q
  cases e1 : A[n]? with
  | none => rw [e1] at q; exact q.elim
  | some oo => cases oo with
    | dict kvs lk => cases lk with
      | true => rw [e1] at q; exact q.elim
      | false =>
        rw [e1] at q
        dsimp only at q
        cases ek : keyOf b with
        | none => rw [ek] at q; exact q.elim
        | some ky =>
          rw [ek] at q
          dsimp only at q
          by_cases hz : kindA kvs ky = true ∧ kvs.length < sizeLine
          · rw [if_pos hz] at q
            obtain ⟨H1, a1, ea, I1, hh1, xt, as⟩ := toKind I hh e1 ky hz.1 (fun hl => by cases hl)
            have ex := RVref ra ea
            subst ex
            obtain rfl : v = Value.ref a1 := rx
            have rb1 := rb.ext xt
            have rz1 := rz.ext xt
            cases ky with
            | k k1 =>
              obtain ⟨kv', r1, w⟩ := as
              have w : H1 a1 = some (.dK kv') := w
              have ey := keyOf_k ek rb1
              subst ey
              refine d_setd I1 w g1 g2 (by rw [rk_len r1]; exact hz.2) (fun v0 hv w' s' I' rw' => ?_) fun hn w' s' I' rw' => ?_
              · cases eg : getK kvs (.k k1) with
                | none => rw [(rk_get r1 k1).1 eg] at hv; cases hv
                | some v1 =>
                  rw [eg] at q
                  obtain ⟨x1, e2, q2⟩ := (rk_get r1 k1).2 v1 eg
                  rw [hv] at e2
                  cases e2
                  exact ⟨v0, H1, I', rw', q ρ _ _ xt hh1 q2⟩
              · cases eg : getK kvs (.k k1) with
                | some v1 =>
                  obtain ⟨x1, e2, q2⟩ := (rk_get r1 k1).2 v1 eg
                  rw [hn] at e2
                  cases e2
                | none =>
                  rw [eg] at q
                  obtain ⟨z1, z2⟩ := hh1.write (H' := upd H1 a1 (.dK (putK kv' k1 d))) (o' := .dict (putA kvs (.k k1) z) false) e1 ea (fun b hb => upd_ne hb) fun x => .inl ⟨_, rk_putA (r1.ext x) k1 (rz1.ext x), upd_same⟩
                  exact ⟨d, _, I', rw', q ρ _ _ (xt.trans z2) z1 (rz1.ext z2)⟩
            | t ks =>
              obtain ⟨kv', r1, w⟩ := as
              have w : H1 a1 = some (.dT kv') := w
              obtain ⟨b', ey, eb⟩ := keyOf_t ek rb1
              subst ey
              obtain rfl : u1 = Value.ref b' := g1
              refine d_setdT c.hu1 I1 w eb g2 (by rw [rt_len r1]; exact hz.2) (fun v0 hv w' s' I' rw' => ?_) fun hn w' s' I' rw' => ?_
              · cases eg : getK kvs (.t ks) with
                | none => rw [(rt_get r1 ks).1 eg] at hv; cases hv
                | some v1 =>
                  rw [eg] at q
                  obtain ⟨x1, e2, q2⟩ := (rt_get r1 ks).2 v1 eg
                  rw [hv] at e2
                  cases e2
                  exact ⟨v0, H1, I', rw', q ρ _ _ xt hh1 q2⟩
              · cases eg : getK kvs (.t ks) with
                | some v1 =>
                  obtain ⟨x1, e2, q2⟩ := (rt_get r1 ks).2 v1 eg
                  rw [hn] at e2
                  cases e2
                | none =>
                  rw [eg] at q
                  obtain ⟨z1, z2⟩ := hh1.write (H' := upd H1 a1 (.dT (putK kv' ks d))) (o' := .dict (putA kvs (.t ks) z) false) e1 ea (fun b hb => upd_ne hb) fun x => .inr ⟨_, rt_putA (r1.ext x) ks (rz1.ext x), upd_same⟩
                  exact ⟨d, _, I', rw', q ρ _ _ (xt.trans z2) z1 (rz1.ext z2)⟩
          · rw [if_neg hz] at q; exact q.elim
    | lst _ _ => rw [e1] at q; exact q.elim
    | ins _ _ => rw [e1] at q; exact q.elim
    | dn _ => rw [e1] at q; exact q.elim
theorem rk_drop : ∀ {l : List (AK × AV)} {m : List (Key × V)}, RK E ρ H l m → ∀ k : Key, RK E ρ H (dropA l (.k k)) (dropK m k)
  | [], _, r, k => by cases r; rfl
  | (a, v) :: l, _, r, k => by
    obtain ⟨k', v', r', rfl, rfl, h1, h2⟩ := r
    have ih := rk_drop h2 k
    unfold dropA dropK at ih ⊢
    by_cases h : k' = k
    · subst h
      simpa using ih
    · have h' : ¬ (AK.k k' = AK.k k) := fun z => h (AK.k.inj z)
      rw [List.filter_cons_of_pos (by simpa using h'), List.filter_cons_of_pos (by simpa using h)]
      exact ⟨k', v', _, rfl, rfl, h1, ih⟩
theorem rt_drop : ∀ {l : List (AK × AV)} {m : List (List Key × V)}, RT E ρ H l m → ∀ k : List Key, RT E ρ H (dropA l (.t k)) (dropK m k)
  | [], _, r, k => by cases r; rfl
  | (a, v) :: l, _, r, k => by
    obtain ⟨k', v', r', rfl, rfl, h1, h2⟩ := r
    have ih := rt_drop h2 k
    unfold dropA dropK at ih ⊢
    by_cases h : k' = k
    · subst h
      simpa using ih
    · have h' : ¬ (AK.t k' = AK.t k) := fun z => h (AK.t.inj z)
      rw [List.filter_cons_of_pos (by simpa using h'), List.filter_cons_of_pos (by simpa using h)]
      exact ⟨k', v', _, rfl, rfl, h1, ih⟩
/-- pop of a key that is there, of a dict by tuples -/
theorem d_popT {pins : List (Addr × Obj)} {σ : St} {s : Shared} {a b : Addr} {A : Around} {Er : Value → Shared → Prop} {kvs : List (List Key × V)} {ks : List Key} {v : V} {Q : Value → Shared → Prop} (hu : A.units + 1 < cLine) (I : Inv X pins σ H s) (e : H a = some (.dT kvs)) (eb : H b = some (.tup (ks.map kV)))
    (hv : valV kvs ks = some v) (h : ∀ (w' : Value) (s' : Shared), Inv X pins σ (upd H a (.dT (dropK kvs ks))) s' → RelV v w' → Q w' s') :
    wpAny (model X.prog X.w) A (call (.builtin "dict.pop") [.ref a, .ref b]) Q Er s := by
  obtain ⟨z, hd, xs, rel, dd⟩ := dt_of I.hok e
  have hz : xs.length ≤ sizeLine := by rw [← Paired.length rel]; exact z
  have q := rel.val ks
  rw [hv] at q
  cases hp : atKey xs ks with
  | none => rw [hp] at q; exact (show False from q).elim
  | some p =>
    rw [hp] at q
    refine call_pop_heap (hsz := hz) (more := []) (.inl rfl) (PySem.F.args_dict_pop_2 _ _) (tupleKind_room_in1 hu) (key_of I.hok eb) hd dd hp fun h' dd' hs => h _ _ ?_ q
    obtain ⟨q1, es, ep, hq, g2, g3, g4, _, g5⟩ := dd'
    refine d_write I (by rw [e]; exact True.intro) hs ⟨q1, hq⟩ ⟨Nat.le_trans (dropK_le kvs ks) z, hd, _, (L2.DX.KT_drop ks rel).keeps fun c ys ec => ?_, q1, es, ep, hq, g2, g3, g4, g5⟩
    rw [upd_ne (ne_of ec e (fun z => nomatch z))]
    exact ec
def mDPop : OpM := fun o as A => match o, as with
  | .ref n, [b] => (match A[n]? with
    | some (.dict kvs false) => (match keyOf b with
      | some ky => if kindA kvs ky = true then (getK kvs ky).map fun v => (v, A.set n (.dict (dropA kvs ky) false)) else none
      | none => none)
    | _ => none)
  | _, _ => none
theorem ms_dpop (c : Ctx E k X W) : MtS E X "dict.pop" mDPop := by
  intro pins s σ H x xs v us Q I rx rs hq
  obtain ⟨ρ, A, a, as, hh, ra, r, q⟩ := hq
  have key : ∃ n b, a = .ref n ∧ as = [b] := by
    cases a with
    | ref n => rcases as with _ | ⟨v1, _ | ⟨v2, rest⟩⟩ <;> first | exact ⟨_, _, rfl, rfl⟩ | exact q.elim
    | _ => exact q.elim
  obtain ⟨n, b, rfl, rfl⟩ := key
  obtain ⟨y, rfl, rb⟩ := rvs1 r
  obtain ⟨u1, rfl, g1⟩ := vals1 rs
  unfold mDPop at q
  dsimp only at q
  cases e1 : A[n]? with
  | none => rw [e1] at q; exact q.elim
  | some oo => cases oo with
    | dict kvs lk => cases lk with
      | true => rw [e1] at q; exact q.elim
      | false =>
        rw [e1] at q
        dsimp only at q
        cases ek : keyOf b with
        | none => rw [ek] at q; exact q.elim
        | some ky =>
          rw [ek] at q
          dsimp only at q
          by_cases hz : kindA kvs ky = true
          · rw [if_pos hz] at q
            obtain ⟨H1, a1, ea, I1, hh1, xt, as⟩ := toKind I hh e1 ky hz (fun hl => by cases hl)
            have ex := RVref ra ea
            subst ex
            obtain rfl : v = Value.ref a1 := rx
            have rb1 := rb.ext xt
            cases eg : getK kvs ky with
            | none => rw [eg] at q; exact q.elim
            | some v1 =>
              rw [eg] at q
              cases ky with
              | k k1 =>
                obtain ⟨kv', r1, w⟩ := as
                have w : H1 a1 = some (.dK kv') := w
                have ey := keyOf_k ek rb1
                subst ey
                obtain ⟨x1, e2, q2⟩ := (rk_get r1 k1).2 v1 eg
                obtain ⟨z1, z2⟩ := hh1.write (H' := upd H1 a1 (.dK (dropK kv' k1))) (o' := .dict (dropA kvs (.k k1)) false) e1 ea (fun b hb => upd_ne hb) fun x => .inl ⟨_, rk_drop (r1.ext x) k1, upd_same⟩
                exact d_pop (more := []) I1 w g1 e2 (.inl rfl) fun w' s' I' rw' => ⟨x1, _, I', rw', q ρ _ _ (xt.trans z2) z1 (q2.ext z2)⟩
              | t ks =>
                obtain ⟨kv', r1, w⟩ := as
                have w : H1 a1 = some (.dT kv') := w
                obtain ⟨b', ey, eb⟩ := keyOf_t ek rb1
                subst ey
                obtain rfl : u1 = Value.ref b' := g1
                obtain ⟨x1, e2, q2⟩ := (rt_get r1 ks).2 v1 eg
                obtain ⟨z1, z2⟩ := hh1.write (H' := upd H1 a1 (.dT (dropK kv' ks))) (o' := .dict (dropA kvs (.t ks)) false) e1 ea (fun b hb => upd_ne hb) fun x => .inr ⟨_, rt_drop (r1.ext x) ks, upd_same⟩
                exact d_popT c.hu1 I1 w eb e2 fun w' s' I' rw' => ⟨x1, _, I', rw', q ρ _ _ (xt.trans z2) z1 (q2.ext z2)⟩
          · rw [if_neg hz] at q; exact q.elim
    | lst _ _ => rw [e1] at q; exact q.elim
    | ins _ _ => rw [e1] at q; exact q.elim
    | dn _ => rw [e1] at q; exact q.elim
def mGet : OpM := fun o as A => match o, as with
  | .ref n, b :: more => (match A[n]? with
    | some (.dict kvs lk) => (match keyOf b with
      | some ky => if kindA kvs ky && !(lk && kvs.isEmpty) then (match more with
        | [] => some ((getK kvs ky).getD .non, A)
        | [z] => some ((getK kvs ky).getD z, A)
        | _ => none) else none
      | none => none)
    | _ => none)
  | _, _ => none
theorem ms_get (c : Ctx E k X W) : MtS E X "dict.get" mGet := by
  intro pins s σ H x xs v us Q I rx rs hq
  obtain ⟨ρ, A, a, as, hh, ra, r, q⟩ := hq
  have key : ∃ n b, a = .ref n ∧ (as = [b] ∨ ∃ z, as = [b, z]) := by
    cases a with
    | ref n =>
      rcases as with _ | ⟨v1, _ | ⟨v2, _ | ⟨v3, rest⟩⟩⟩
      · exact q.elim
      · exact ⟨_, _, rfl, .inl rfl⟩
      · exact ⟨_, _, rfl, .inr ⟨_, rfl⟩⟩
      · unfold mGet at q
        dsimp only at q
        repeat (split at q)
        all_goals first | exact q.elim | skip
    | _ => exact q.elim
  obtain ⟨n, b, rfl, hb⟩ := key
  have core : ∀ kvs lk ky, A[n]? = some (.dict kvs lk) → keyOf b = some ky → (kindA kvs ky && !(lk && kvs.isEmpty)) = true → ∀ y, RV E ρ H b y →
      ∃ H1 a1 o, v = .ref a1 ∧ Inv X pins σ H1 s ∧ RH E ρ H1 A ∧ Ext ρ H ρ H1 ∧ DGet H1 a1 y o ∧ (getK kvs ky = none → o = none) ∧ ∀ w, getK kvs ky = some w → ∃ x1, o = some x1 ∧ RV E ρ H1 w x1 := by
    intro kvs lk ky e1 ek hk y rb
    rw [Bool.and_eq_true] at hk
    obtain ⟨H1, a1, ea, I1, hh1, xt, as⟩ := toKind I hh e1 ky hk.1 (fun hl => by
      have z := hk.2
      rw [hl] at z
      intro e0
      subst e0
      cases z)
    have ex := RVref ra ea
    subst ex
    obtain rfl : v = Value.ref a1 := rx
    obtain ⟨o, g, g1, g2⟩ := as.get ek (rb.ext xt)
    exact ⟨H1, a1, o, rfl, I1, hh1, xt, g, g1, g2⟩
  rcases hb with rfl | ⟨z, rfl⟩
  · obtain ⟨y, rfl, rb⟩ := rvs1 r
    obtain ⟨u1, rfl, g1⟩ := vals1 rs
    unfold mGet at q
    dsimp only at q
    cases e1 : A[n]? with
    | none => rw [e1] at q; exact q.elim
    | some oo => cases oo with
      | dict kvs lk =>
        rw [e1] at q
        dsimp only at q
        cases ek : keyOf b with
        | none => rw [ek] at q; exact q.elim
        | some ky =>
          rw [ek] at q
          dsimp only at q
          split at q
          · rename_i hk
            obtain ⟨H1, a1, o, rfl, I1, hh1, xt, g, p1, p2⟩ := core kvs lk ky e1 ek hk y rb
            refine d_get1 c.hu1 I1 g g1 fun w' s' I' rw' => ⟨o.getD .non, H1, I', rw', ?_⟩
            cases eg : getK kvs ky with
            | none =>
              rw [eg] at q
              rw [p1 eg]
              exact q ρ _ _ xt hh1 rfl
            | some v1 =>
              rw [eg] at q
              obtain ⟨x1, e2, q2⟩ := p2 v1 eg
              rw [e2]
              exact q ρ _ _ xt hh1 q2
          · exact q.elim
      | lst _ _ => rw [e1] at q; exact q.elim
      | ins _ _ => rw [e1] at q; exact q.elim
      | dn _ => rw [e1] at q; exact q.elim
  · obtain ⟨y, d, rfl, rb, rz⟩ := rvs2 r
    obtain ⟨u1, u2, rfl, g1, g2⟩ := vals2 rs
    unfold mGet at q
    dsimp only at q
    cases e1 : A[n]? with
    | none => rw [e1] at q; exact q.elim
    | some oo => cases oo with
      | dict kvs lk =>
        rw [e1] at q
        dsimp only at q
        cases ek : keyOf b with
        | none => rw [ek] at q; exact q.elim
        | some ky =>
          rw [ek] at q
          dsimp only at q
          split at q
          · rename_i hk
            obtain ⟨H1, a1, o, rfl, I1, hh1, xt, g, p1, p2⟩ := core kvs lk ky e1 ek hk y rb
            refine d_get2 c.hu1 I1 g g1 g2 fun w' s' I' rw' => ⟨o.getD d, H1, I', rw', ?_⟩
            cases eg : getK kvs ky with
            | none =>
              rw [eg] at q
              rw [p1 eg]
              exact q ρ _ _ xt hh1 (rz.ext xt)
            | some v1 =>
              rw [eg] at q
              obtain ⟨x1, e2, q2⟩ := p2 v1 eg
              rw [e2]
              exact q ρ _ _ xt hh1 q2
          · exact q.elim
      | lst _ _ => rw [e1] at q; exact q.elim
      | ins _ _ => rw [e1] at q; exact q.elim
      | dn _ => rw [e1] at q; exact q.elim
end
end Ev
end
section
/-! Ev, sixteenth part: fields, instances, own methods. -/
namespace Ev
open PySem PySem.Spec L2
set_option autoImplicit false
def getN : List (Nat × AV) → Nat → Option AV
  | [], _ => none
  | (g, v) :: r, f => if g = f then some v else getN r f
def putN (f : Nat) (v : AV) : List (Nat × AV) → List (Nat × AV)
  | [] => [(f, v)]
  | (g, x) :: r => if g = f then (g, v) :: r else (g, x) :: putN f v r
section
variable {E : En} {X : Cx} {W : WX} {k : Nat} {ρ : List Addr} {H : Hp}
theorem rf_len : ∀ {fs : List (Nat × AV)} {fs' : List (Str × V)}, RF E ρ H fs fs' → fs'.length = fs.length
  | [], _, r => by cases r; rfl
  | (f, v) :: fs, _, r => by
    obtain ⟨v', r', rfl, _, q⟩ := r
    rw [List.length_cons, List.length_cons, rf_len q]
theorem rf_get : ∀ {fs : List (Nat × AV)} {fs' : List (Str × V)} {f : Nat} {v : AV}, RF E ρ H fs fs' → getN fs f = some v → (∃ p ∈ fs, p.1 = f) ∧ ∃ u, fs'.lookup (E.fnm f) = some u ∧ RV E ρ H v u
  | [], _, _, _, _, e => by cases e
  | (g, x) :: fs, _, f, v, r, e => by
    obtain ⟨v', r', rfl, q1, q⟩ := r
    unfold getN at e
    by_cases h : g = f
    · subst h
      rw [if_pos rfl] at e
      cases e
      exact ⟨⟨_, List.mem_cons_self, rfl⟩, v', by simp [List.lookup], q1⟩
    · rw [if_neg h] at e
      obtain ⟨⟨p, hp, ep⟩, u, e1, q2⟩ := rf_get q e
      refine ⟨⟨p, List.mem_cons_of_mem _ hp, ep⟩, u, ?_, q2⟩
      have hne : (E.fnm f == E.fnm g) = false := by
        rw [beq_eq_false_iff_ne]
        exact fun z => h (E.finj _ _ z).symm
      rw [List.lookup_cons, hne]
      exact e1
theorem rf_put : ∀ {fs : List (Nat × AV)} {fs' : List (Str × V)} {f : Nat} {v : AV} {u : V}, RF E ρ H fs fs' → RV E ρ H v u → RF E ρ H (putN f v fs) (putF (E.fnm f) u fs')
  | [], _, f, v, u, r, q => by
    cases r
    exact ⟨u, [], rfl, q, rfl⟩
  | (g, x) :: fs, _, f, v, u, r, q => by
    obtain ⟨v', r', rfl, q1, q2⟩ := r
    unfold putN putF
    by_cases h : g = f
    · subst h
      rw [if_pos rfl, if_pos rfl]
      exact ⟨u, r', rfl, q, q2⟩
    · rw [if_neg h, if_neg fun z => h (E.finj _ _ z)]
      exact ⟨v', _, rfl, q1, rf_put q2 q⟩
theorem rf_no {m : Str} : ∀ {fs : List (Nat × AV)} {fs' : List (Str × V)}, RF E ρ H fs fs' → (∀ p ∈ fs, E.fnm p.1 ≠ m) → fs'.lookup m = none
  | [], _, r, _ => by cases r; rfl
  | (g, x) :: fs, _, r, h => by
    obtain ⟨v', r', rfl, q1, q2⟩ := r
    have hne : (m == E.fnm g) = false := by
      rw [beq_eq_false_iff_ne]
      exact fun z => h _ List.mem_cons_self z.symm
    rw [List.lookup_cons, hne]
    exact rf_no q2 fun p hp => h p (List.mem_cons_of_mem _ hp)
theorem mem_putN {f : Nat} {v : AV} {P : Nat → Prop} (hf : P f) : ∀ {fs : List (Nat × AV)}, (∀ p ∈ fs, P p.1) → ∀ p ∈ putN f v fs, P p.1
  | [], _, p, hp => by
    unfold putN at hp
    rcases List.mem_cons.mp hp with rfl | hp
    · exact hf
    · cases hp
  | (g, x) :: fs, h, p, hp => by
    unfold putN at hp
    split at hp
    · rcases List.mem_cons.mp hp with rfl | hp
      · exact h (g, x) List.mem_cons_self
      · exact h p (List.mem_cons_of_mem _ hp)
    · rcases List.mem_cons.mp hp with rfl | hp
      · exact h (g, x) List.mem_cons_self
      · exact mem_putN hf (fun q hq => h q (List.mem_cons_of_mem _ hq)) p hp
/-- an instance's field -/
def fldA (f : Nat) (o : AV) (A : AHp) : Option AV := match o with
  | .ref n => (match A[n]? with
    | some (.ins _ fs) => getN fs f
    | _ => none)
  | _ => none
def dFld (f : Nat) (fo : Den AV) : Den AV := fun σ A => (fo σ A).bind fun o A1 => ofO ((fldA f o A1).map fun v => (v, A1))
theorem se_fld {f : Nat} {x : Str} {o : Expr} {fo : Den AV} {pos : Pos} (c : Ctx E k X W) (hx : x = E.fnm f) (ho : SE E X W o fo) (hb : attributeBase o x X.env (eval o X.env) = eval o X.env) : SE E X W (.Attribute o x pos) (dFld f fo) := by
  subst hx
  refine PE.imp (pe_fld ho hb) fun σ H Q h => ?_
  refine rd_step h fun x' H1 ρ σa A x hs hh hx q => ?_
  cases e : fldA f x A with
  | none => rw [e] at q; exact q.elim
  | some v =>
    rw [e] at q
    unfold fldA at e
    cases x with
    | ref n =>
      dsimp only at e
      cases e1 : A[n]? with
      | none => rw [e1] at e; cases e
      | some ob => cases ob with
        | ins cl fs =>
          rw [e1] at e
          dsimp only at e
          obtain ⟨a, ea, dx, fs', w, r, hc, hf⟩ := hh.get e1
          obtain ⟨⟨p, hp, ep⟩, u, e2, q2⟩ := rf_get r e
          refine ⟨a, E.cad cl, dx, fs', u, RVref hx ea, w, by rw [c.hK]; exact E.clsOk cl hc, by rw [c.hK]; exact E.noat cl f hc (ep ▸ hf p hp), e2, q ρ H1 u (Ext.refl _ _) hh q2⟩
        | lst _ _ => rw [e1] at e; cases e
        | dict _ _ => rw [e1] at e; cases e
        | dn _ => rw [e1] at e; cases e
    | _ => cases e
def putFA (f : Nat) (o v : AV) (A : AHp) : Option AHp := match o with
  | .ref n => (match A[n]? with
    | some (.ins c fs) => if fs.length < 900 then some (A.set n (.ins c (putN f v fs))) else none
    | _ => none)
  | _ => none
theorem putFA_ok (hK : X.K = E.K) {f : Nat} (hf : E.isF f = true) {A A2 : AHp} {o v : AV} (hh : RH E ρ H A) (e : putFA f o v A = some A2) {x y : V} (rx : RV E ρ H o x) (ry : RV E ρ H v y) :
    ∃ a C dx fs, x = .ref a ∧ H a = some (.ins C dx fs) ∧ Cls X.K C ∧ NoAttr X.K C (E.fnm f) ∧ fs.length < 900 ∧ RH E ρ (upd H a (.ins C dx (putF (E.fnm f) y fs))) A2 ∧ Ext ρ H ρ (upd H a (.ins C dx (putF (E.fnm f) y fs))) := by
  unfold putFA at e
  cases o with
  | ref n =>
    dsimp only at e
    cases e1 : A[n]? with
    | none => rw [e1] at e; cases e
    | some ob => cases ob with
      | ins cl fs =>
        rw [e1] at e
        dsimp only at e
        split at e
        · rename_i hz
          cases e
          obtain ⟨a, ea, dx, fs', w, r, hc, hff⟩ := hh.get e1
          obtain ⟨z1, z2⟩ := hh.write (H' := upd H a (.ins (E.cad cl) dx (putF (E.fnm f) y fs'))) (o' := .ins cl (putN f v fs)) e1 ea (fun b hb => upd_ne hb) fun xt => ⟨dx, _, upd_same, rf_put (r.ext xt) (ry.ext xt), hc, mem_putN (P := fun p => E.isF p = true) hf hff⟩
          exact ⟨a, E.cad cl, dx, fs', RVref rx ea, w, by rw [hK]; exact E.clsOk cl hc, by rw [hK]; exact E.noat cl f hc hf, by rw [rf_len r]; exact hz, z1, z2⟩
        · cases e
      | lst _ _ => rw [e1] at e; cases e
      | dict _ _ => rw [e1] at e; cases e
      | dn _ => rw [e1] at e; cases e
  | _ => cases e
def sFldS (f : Nat) (fv fo : Den AV) : SDen := fun σ A => (fv σ A).toS σ fun v A1 => (fo σ A1).toS σ fun o A2 => match putFA f o v A2 with
  | some A3 => .nx σ A3
  | none => .bad
theorem ss_fld {f : Nat} {x : Str} {o e : Expr} {fo fv : Den AV} {pos pos' : Pos} (c : Ctx E k X W) (hx : x = E.fnm f) (hf : E.isF f = true) (he : SE E X W e fv) (ho : SE E X W o fo) (hs : swapsWith e (some (.Attribute o x pos')) pos.line X.env = pure false) :
    SS E X W (.Assign [.Attribute o x pos'] e pos) (sFldS f fv fo) := by
  subst hx
  refine PS.imp (ps_fld ho he hs) fun D σ H h => ?_
  refine rdS_step (f := fv) (g := fun σ v A1 => (fo σ A1).toS σ fun o A2 => match putFA f o v A2 with
    | some A3 => .nx σ A3
    | none => .bad) h fun y H1 ρ σa A v hs' hh hv q => ?_
  refine ⟨ρ, σa, A, hs', hh, ?_⟩
  cases e1 : fo σa A with
  | err cc i A2 =>
    rw [e1] at q
    exact fun ρ' H' d x rh rx => q ρ' H' σ d x rh (hs'.ext x) rx
  | bad => rw [e1] at q; exact q
  | ok ov A2 =>
    rw [e1] at q
    intro ρ2 H2 x2 xt rh rx
    have q : PostS E (match putFA f ov v A2 with
      | some A3 => SR.nx σa A3
      | none => .bad) ρ H1 D W := q
    cases e2 : putFA f ov v A2 with
    | none => rw [e2] at q; exact q.elim
    | some A3 =>
      rw [e2] at q
      obtain ⟨a, C, dx, fs, ex, w, cl, na, hl, z1, z2⟩ := putFA_ok c.hK hf rh e2 rx (hv.ext xt)
      exact ⟨a, C, dx, fs, ex, w, cl, na, by omega, q ρ2 _ σ (xt.trans z2) z1 ((hs'.ext xt).ext z2)⟩
def clsA (o : AV) (A : AHp) : Option Nat := match o with
  | .ref n => (match A[n]? with
    | some (.ins c _) => some c
    | _ => none)
  | _ => none
/-- e.f op= of ints -/
def augK (f : Nat) (g : Int → Int → Int) (o : AV) (i : Int) (c : Option Nat) (σ : ASt) (v : AV) (A : AHp) : SR := match v with
  | .int j => if clsA o A = c then (match putFA f o (.int (g i j)) A with
    | some A3 => .nx σ A3
    | none => .bad) else .bad
  | _ => .bad
def sFldAug (f : Nat) (g : Int → Int → Int) (fo fv : Den AV) : SDen := fun σ A => (fo σ A).toS σ fun o A1 => match fldA f o A1 with
  | some (.int i) => (fv σ A1).toS σ fun v A2 => augK f g o i (clsA o A1) σ v A2
  | _ => .bad
theorem ss_fldaug {f : Nat} {x : Str} {o e : Expr} {fo fv : Den AV} {op : Operator} {g : Int → Int → Int} {rd2 : V → V → Hp → VK → Prop} {pos tpos : Pos} (c : Ctx E k X W) (hx : x = E.fnm f) (hf : E.isF f = true) (hop : InOp X op rd2)
    (hrd : ∀ i j H Q, Q (.int (g i j)) H → rd2 (.int i) (.int j) H Q) (he : SE E X W e fv) (ho : SE E X W o fo) :
    SS E X W (.AugAssign (.Attribute o x tpos) op e pos) (sFldAug f g fo fv) := by
  subst hx
  refine PS.imp (ps_fldaug ho he hop) fun D σ H h => ?_
  refine rdS_step (f := fo) (g := fun σ o A1 => match fldA f o A1 with
    | some (.int i) => (fv σ A1).toS σ fun v A2 => augK f g o i (clsA o A1) σ v A2
    | _ => .bad) h fun x' H1 ρ σa A ov hs' hh hv q => ?_
  cases e0 : fldA f ov A with
  | none => rw [e0] at q; exact q.elim
  | some w0 =>
    rw [e0] at q
    cases w0 with
    | int i =>
      dsimp only at q
      have e0' := e0
      unfold fldA at e0
      cases ov with
      | ref n =>
        dsimp only at e0
        cases e1 : A[n]? with
        | none => rw [e1] at e0; cases e0
        | some ob => cases ob with
          | ins cl fs =>
            rw [e1] at e0
            dsimp only at e0
            have ec : clsA (.ref n) A = some cl := by unfold clsA; dsimp only; rw [e1]
            rw [ec] at q
            obtain ⟨a, ea, dx, fs', w, r, hc, hff⟩ := hh.get e1
            obtain ⟨_, u, e2, q2⟩ := rf_get r e0
            cases q2
            refine ⟨a, E.cad cl, dx, fs', _, RVref hv ea, w, by rw [c.hK]; exact E.clsOk cl hc, by rw [c.hK]; exact E.noat cl f hc hf, e2, ρ, σa, A, hs', hh, ?_⟩
            cases e3 : fv σa A with
            | err cc ii A2 =>
              rw [e3] at q
              exact fun ρ' H' d x rh rx => q ρ' H' σ d x rh (hs'.ext x) rx
            | bad => rw [e3] at q; exact q
            | ok v A2 =>
              rw [e3] at q
              intro ρ2 H2 y2 xt rh ry
              have q : PostS E (augK f g (.ref n) i (some cl) σa v A2) ρ H1 D W := q
              unfold augK at q
              cases v with
              | int j =>
                cases ry
                refine hrd _ _ _ _ ?_
                dsimp only at q
                split at q
                · rename_i hcl
                  cases e4 : putFA f (.ref n) (.int (g i j)) A2 with
                  | none => rw [e4] at q; exact q.elim
                  | some A3 =>
                    rw [e4] at q
                    obtain ⟨a3, C, dx', fs3, ex, w3, cl3, na, hl, z1, z2⟩ := putFA_ok (X := X) c.hK hf rh e4 (x := .ref a) (y := .int (g i j)) ⟨a, xt.pre n a ea, rfl⟩ rfl
                    cases ex
                    unfold clsA at hcl
                    dsimp only at hcl
                    cases e5 : A2[n]? with
                    | none => rw [e5] at hcl; cases hcl
                    | some ob2 => cases ob2 with
                      | ins cl2 fs2 =>
                        rw [e5] at hcl
                        cases hcl
                        obtain ⟨a2, ea2, dx2, fs2', w2, r2', hc2, hff2⟩ := rh.get e5
                        have ea3 := xt.pre n a ea
                        rw [ea2] at ea3
                        cases ea3
                        rw [w2] at w3
                        cases w3
                        exact ⟨_, _, w2, by omega, q ρ2 _ σ (xt.trans z2) z1 ((hs'.ext xt).ext z2)⟩
                      | lst _ _ => rw [e5] at hcl; cases hcl
                      | dict _ _ => rw [e5] at hcl; cases hcl
                      | dn _ => rw [e5] at hcl; cases hcl
                · exact q.elim
              | _ => exact q.elim
          | lst _ _ => rw [e1] at e0; cases e0
          | dict _ _ => rw [e1] at e0; cases e0
          | dn _ => rw [e1] at e0; cases e0
      | _ => cases e0
    | _ => exact q.elim
/-! ### instances -/
/-- C(..): a new instance, its __init__ -/
def makeA (c : Nat) (g : List AV → M AV) : List AV → M AV := fun vs A => (g (.ref A.length :: vs) (A ++ [.ins c []])).bind fun v A1 => match v with
  | .non => .ok (.ref A.length) A1
  | _ => .bad
/-- what makes instances of the class c by n arguments -/
def MkA (E : En) (P : Program) (w : World) (K : PySem.W.Frag) (mg : Str → Option Value) (base : Heap) (k c n : Nat) (g : List AV → M AV) : Prop :=
  (∀ vs A, g vs A = .bad) ∨ ∃ k' f g0, k = k' + 1 ∧ Mk K (E.cad c) f ∧ Cal E P w K mg base k' f (n + 1) g0 ∧ g = makeA c g0
theorem newIns {A : AHp} (h : RH E ρ H A) {x dx : Addr} (hx : H x = none) (hdx : H dx = none) (ne : dx ≠ x) {c : Nat} (hc : E.isC c = true) :
    RH E (ρ ++ [x]) (upd (upd H dx (.own x)) x (.ins (E.cad c) dx [])) (A ++ [.ins c []]) ∧ Ext ρ H (ρ ++ [x]) (upd (upd H dx (.own x)) x (.ins (E.cad c) dx [])) ∧ (ρ ++ [x])[A.length]? = some x :=
  h.alloc (fun a u e => by rw [upd_ne (ne_of_none e hx), upd_ne (ne_of_none e hdx)]; exact e) hx fun _ => ⟨dx, [], upd_same, rfl, hc, fun _ z => nomatch z⟩
theorem make_post {c n : Nat} {g0 : List AV → M AV} (hc : E.isC c = true) {A : AHp} {vs : List AV} {us : List V} (hl : vs.length = n) {Q : VK} {Ex : XK} (hh : RH E ρ H A) (hv : RVs E ρ H vs us) (q : Post E (RV E) (makeA c g0 vs A) ρ H Q Ex) :
    ∀ x dx, H x = none → H dx = none → dx ≠ x → spOf E (n + 1) g0 (.ref x :: (us ++ [])) (upd (upd H dx (.own x)) x (.ins (E.cad c) dx [])) (fun v H2 => v = .non ∧ Q (.ref x) H2) Ex := by
  intro x dx hx hdx ne
  obtain ⟨z1, z2, z3⟩ := newIns hh hx hdx ne hc
  refine ⟨ρ ++ [x], _, .ref A.length :: vs, z1, ⟨_, _, rfl, ⟨x, z3, rfl⟩, ?_⟩, by rw [List.length_cons, hl], ?_⟩
  · rw [List.append_nil]
    exact hv.ext z2
  · unfold makeA at q
    cases e : g0 (.ref A.length :: vs) (A ++ [.ins c []]) with
    | bad => rw [e] at q; exact q
    | err cc i A2 =>
      rw [e] at q
      exact fun ρ' H' d xt rh rx => q ρ' H' d (z2.trans xt) rh rx
    | ok v A2 =>
      rw [e] at q
      intro ρ' H' b xt rh rv
      cases v with
      | non =>
        cases rv
        exact ⟨rfl, q ρ' H' _ (z2.trans xt) rh ⟨x, xt.pre _ _ z3, rfl⟩⟩
      | _ => exact q.elim
/-- a class called: the errors of its __init__ go where they are wanted -/
theorem run_mk {CX : CXT} {j : Nat} {C f : Addr} {fd : FuncData} {ps : List Str} {sp : Sp} {Ex : XK} {pins : List (Addr × Obj)} {σ : St} {s : Shared} {Q : VK} {us : List Value} {vs : List V} (M : Mk X.K C f) (F : FnOk X.prog X.w X.K X.mg X.base CX j f fd ps sp)
    (room : Room (j + 1) X.A) (bd : Binds X.K fd ps []) (pass : PassesAt CX X σ Ex) (I : Inv X pins σ H s) (rv : Vals vs us)
    (want : ∀ x dx, H x = none → H dx = none → dx ≠ x → sp (.ref x :: (vs ++ [])) (upd (upd H dx (.own x)) x (.ins C dx [])) (fun v H2 => v = .non ∧ Q (.ref x) H2) Ex) :
    wpAny (model X.prog X.w) X.A (call (.ref C) us) (EP X pins σ Q) X.xe s := by
  have w := want (s.heap.objs.size + 1) s.heap.objs.size (I.hok.fresh (Nat.le_succ _)) (I.hok.fresh (Nat.le_refl _)) (Nat.ne_of_lt (Nat.lt_succ_self _))
  rw [List.append_nil] at w
  have J := Inv.made (C := C) I
  have all : Vals (V.ref (s.heap.objs.size + 1) :: vs) (Value.ref (s.heap.objs.size + 1) :: us) := .cons rfl rv
  have len : (Value.ref (s.heap.objs.size + 1) :: us).length = ps.length := all.length.symm.trans (F.len _ _ _ _ w)
  have bind := bd _ (Value.ref (s.heap.objs.size + 1) :: us) J.kIn (by rw [List.append_nil]; exact len)
  rw [List.append_nil] at bind
  refine wpAny_call ?_
  refine make_map (f := f) I.kIn M.makes M.init (beq_iff_eq.mp M.fn) ?_
  have body := F.run _ X.stack _ _ ⟨_, []⟩ _ _ _ Ex (room.make C us []) (J.env0.make C us []) bind all w
  refine codeAny_mono body fun res s' fin => ?_
  cases res with
  | error err => exact pass pins _ _ err s' J fin
  | ok flow =>
    cases flow with
    | ret u =>
      obtain ⟨v, H', J3, rv3, ev, q3⟩ := J.after fin
      subst ev
      exact ⟨rv3, ⟨V.ref (s.heap.objs.size + 1), H', J3, rfl, q3⟩⟩
    | next => exact fin.elim
    | brk => exact fin.elim
    | cont => exact fin.elim
theorem se_make {c n : Nat} {g : List AV → M AV} {x : Str} {p pos : Pos} {e : Expr} {es : List Expr} {fa : Den (List AV)} (ct : Ctx E k X W) (hc : E.isC c = true) (F : MkA E X.prog X.w X.K X.mg X.base k c n g) (kp : PySem.W.keepIn X.K (.ref (E.cad c)) = true) (hg : Gl X x) (hm : X.mg x = some (.ref (E.cad c))) (ha : SA E X W (e :: es) fa)
    (hdb : (x == ("__debug__" : Str)) = false) (he : starEach (e :: es) X.env = (false, eval e X.env) :: starEach es X.env) (hpl : (backTo pos (starEach es X.env)).any (·.1) = false) : SE E X W (.Call (.Name x p) (e :: es) [] pos) (dCall n g fa) := by
  refine ⟨fun pins s σ H Q I h => ?_⟩
  refine wpAny_Call_Name_kw (ld_glob I hg hm ?_ hdb)
  have h2 : rd E (RVs E) fa W σ H fun us H1 => ∃ ρ A as, RH E ρ H1 A ∧ RVs E ρ H1 as us ∧ as.length = n ∧ Post E (RV E) (g as A) ρ H1 Q (fun c d H' => W c d σ H') := by
    refine rd_step (f := fa) (g := fun σ vs A1 => if vs.length = n then g vs A1 else .bad) h fun us H1 ρ σa A as hs hh hx q => ?_
    split at q
    · exact ⟨ρ, A, as, hh, hx, by assumption, q⟩
    · exact q.elim
  refine PySem.W.callWith_K (h₀ := X.base) I.ok.mod.kin kp (thn (ha.run pos pins s σ H _ I h2) fun us s1 ⟨vs, H1, I1, r, q⟩ => ⟨I1.kIn, ?_⟩) he hpl
  obtain ⟨ρ, A, as, hh, rv, hl, q⟩ := q
  rcases F with F | ⟨k', f, g0, rfl, M, C, rfl⟩
  · rw [F] at q; exact q.elim
  · obtain ⟨fd, ps, F1, b⟩ := C.ok
    exact run_mk M F1 ct.room b (L2N.passAt ct.tk σ) I1 r (make_post hc hl hh rv q)
theorem se_make0 {c : Nat} {g : List AV → M AV} {x : Str} {p pos : Pos} (ct : Ctx E k X W) (hc : E.isC c = true) (F : MkA E X.prog X.w X.K X.mg X.base k c 0 g) (kp : PySem.W.keepIn X.K (.ref (E.cad c)) = true) (hg : Gl X x) (hm : X.mg x = some (.ref (E.cad c)))
    (hdb : (x == ("__debug__" : Str)) = false) : SE E X W (.Call (.Name x p) [] [] pos) (dCall 0 g dNil) := by
  refine ⟨fun pins s σ H Q I h => ?_⟩
  refine wpAny_Call_Name_kw (ld_glob I hg hm ?_ hdb)
  obtain ⟨ρ, σa, A, hs, hh, q⟩ := h
  have q : Post E (RV E) (g [] A) ρ H Q (fun c d H' => W c d σ H') := q
  rcases F with F | ⟨k', f, g0, rfl, M, C, rfl⟩
  · rw [F] at q; exact q.elim
  · obtain ⟨fd, ps, F1, b⟩ := C.ok
    exact PySem.W.callWith_K0 I.kIn kp (run_mk (us := []) (vs := []) M F1 ct.room b (L2N.passAt ct.tk σ) I .nil (make_post (vs := []) (us := []) hc rfl hh rfl q))
/-! ### own methods -/
abbrev MTb := List (Nat × (List AV → M AV))
def getM : MTb → Nat → Option (List AV → M AV)
  | [], _ => none
  | (c, g) :: r, d => if c = d then some g else getM r d
/-- o.m(..): by the class of o -/
def dMeth (tb : MTb) (n : Nat) (fo : Den AV) (fa : Den (List AV)) : Den AV := fun σ A => (fo σ A).bind fun o A1 => match (clsA o A1).bind (getM tb) with
  | some g => (fa σ A1).bind fun vs A2 => if vs.length = n then g (o :: vs) A2 else .bad
  | none => .bad
/-- each class of the table has the method -/
def MthOk (E : En) (P : Program) (w : World) (K : PySem.W.Frag) (mg : Str → Option Value) (base : Heap) (k : Nat) (m : Str) (n : Nat) (tb : MTb) : Prop :=
  ∀ c g, getM tb c = some g → ∃ f, Meth K (E.cad c) m f ∧ Cal E P w K mg base k f (n + 1) g
theorem clsA_ok {A : AHp} (hh : RH E ρ H A) {o : AV} {c : Nat} {x : V} (e : clsA o A = some c) (r : RV E ρ H o x) : ∃ a dx fs fs', x = .ref a ∧ H a = some (.ins (E.cad c) dx fs') ∧ RF E ρ H fs fs' ∧ E.isC c = true ∧ ∀ p ∈ fs, E.isF p.1 = true := by
  unfold clsA at e
  cases o with
  | ref n =>
    dsimp only at e
    cases e1 : A[n]? with
    | none => rw [e1] at e; cases e
    | some ob => cases ob with
      | ins cl fs =>
        rw [e1] at e
        cases e
        obtain ⟨a, ea, dx, fs', w, r2, hc, hf⟩ := hh.get e1
        exact ⟨a, dx, fs, fs', RVref r ea, w, r2, hc, hf⟩
      | lst _ _ => rw [e1] at e; cases e
      | dict _ _ => rw [e1] at e; cases e
      | dn _ => rw [e1] at e; cases e
  | _ => cases e
theorem meth_rd {tb : MTb} {n : Nat} {fo : Den AV} {fa : Den (List AV)} {σ : St} {Q : VK} (h : rd E (RV E) (dMeth tb n fo fa) W σ H Q) :
    rd E (RV E) fo W σ H fun x H1 => ∃ c g a dx fs fs', getM tb c = some g ∧ x = .ref a ∧ H1 a = some (.ins (E.cad c) dx fs') ∧ (∃ ρ, RF E ρ H1 fs fs') ∧ E.isC c = true ∧ (∀ p ∈ fs, E.isF p.1 = true) ∧
      rd E (RVs E) fa W σ H1 fun us H2 => ∃ ρ A as, RH E ρ H2 A ∧ RVs E ρ H2 as (x :: us) ∧ as.length = n + 1 ∧ Post E (RV E) (g as A) ρ H2 Q (fun c d H' => W c d σ H') := by
  refine rd_step (f := fo) (g := fun σ o A1 => match (clsA o A1).bind (getM tb) with
    | some g => (fa σ A1).bind fun vs A2 => if vs.length = n then g (o :: vs) A2 else .bad
    | none => .bad) h fun x H1 ρ σa A o hs hh hx q => ?_
  cases e : clsA o A with
  | none => rw [e] at q; exact q.elim
  | some c =>
    rw [e] at q
    cases e1 : getM tb c with
    | none => rw [Option.bind_some, e1] at q; exact q.elim
    | some g =>
      rw [Option.bind_some, e1] at q
      dsimp only at q
      obtain ⟨a, dx, fs, fs', ex, w, rf, hc, hf⟩ := clsA_ok hh e hx
      refine ⟨c, g, a, dx, fs, fs', e1, ex, w, ⟨ρ, rf⟩, hc, hf, ρ, σa, A, hs, hh, ?_⟩
      cases e2 : fa σa A with
      | err cc i A2 => rw [e2] at q; exact q
      | bad => rw [e2] at q; exact q
      | ok vs A2 =>
        rw [e2] at q
        intro ρ2 H2 us xt rh rv
        have q : Post E (RV E) (if vs.length = n then g (o :: vs) A2 else .bad) ρ H1 Q (fun c d H' => W c d σ H') := q
        split at q
        · rename_i hl
          exact ⟨ρ2, A2, o :: vs, rh, ⟨_, _, rfl, hx.ext xt, rv⟩, by rw [List.length_cons, hl], q.ext xt⟩
        · exact q.elim
theorem se_meth {tb : MTb} {n : Nat} {j : Nat} {m : Str} {o e : Expr} {es : List Expr} {apos pos : Pos} {fo : Den AV} {fa : Den (List AV)} {pl : Sem Bool} (ct : Ctx E k X W) (hm : m = E.mnm j) (T : MthOk E X.prog X.w X.K X.mg X.base k m n tb) (ho : SE E X W o fo) (ha : SA E X W (e :: es) fa)
    (hst : starEach (e :: es) X.env = (false, eval e X.env) :: starEach es X.env) (hpl : (backTo pos (starEach es X.env)).any (·.1) = false)
    (ht : eval (.Call (.Attribute o m apos) (e :: es) [] pos) X.env = (do
      let ov ← eval o X.env
      standAt apos.atName
      let (f, first) ← holding [ov] (getMethod ov m pl)
      callWith pos f first (backTo pos (starEach (e :: es) X.env)) (backToKw pos (keywordEach [] X.env)))) :
    SE E X W (.Call (.Attribute o m apos) (e :: es) [] pos) (dMeth tb n fo fa) := by
  refine ⟨fun pins s σ H Q I h => ?_⟩
  refine PySem.W.methodCall_KW (pl := pl) (thn (ho.run pins s σ H _ I (meth_rd h)) fun u s1 ⟨x, H1, I1, rx, c, g, a, dx, fs, fs', et, ex, ea, ⟨ρ, rf⟩, hc, hf, q⟩ => ?_) ht
  subst ex
  obtain rfl : u = Value.ref a := rx
  obtain ⟨f, M, C⟩ := T c g et
  refine getmeth_ok I1 ea (by rw [ct.hK]; exact E.clsOk c hc) M (rf_no rf fun p hp => by rw [hm]; exact E.mnf j p.1 (hf p hp)) ?_
  obtain ⟨fd, ps, F1, b⟩ := C.ok
  refine PySem.W.callWith_K (first := [.ref a]) (h₀ := X.base) I.ok.mod.kin M.kp (thn (ha.run pos pins s1 σ H1 _ I1 q) fun us s2 ⟨vs, H2, I2, r, q2⟩ => ⟨I2.kIn, ?_⟩) hst hpl
  exact run_fnS (us := .ref a :: us) (vs := .ref a :: vs) (E := WE W) F1 ct.room b (L2N.passAt ct.tk σ) I2 (.cons rfl r) q2
theorem se_meth0 {tb : MTb} {j : Nat} {m : Str} {o : Expr} {apos pos : Pos} {fo : Den AV} {pl : Sem Bool} (ct : Ctx E k X W) (hm : m = E.mnm j) (T : MthOk E X.prog X.w X.K X.mg X.base k m 0 tb) (ho : SE E X W o fo)
    (ht : eval (.Call (.Attribute o m apos) [] [] pos) X.env = (do
      let ov ← eval o X.env
      standAt apos.atName
      let (f, first) ← holding [ov] (getMethod ov m pl)
      callWith pos f first (backTo pos (starEach [] X.env)) (backToKw pos (keywordEach [] X.env)))) :
    SE E X W (.Call (.Attribute o m apos) [] [] pos) (dMeth tb 0 fo dNil) := by
  refine ⟨fun pins s σ H Q I h => ?_⟩
  refine PySem.W.methodCall_KW (pl := pl) (thn (ho.run pins s σ H _ I (meth_rd h)) fun u s1 ⟨x, H1, I1, rx, c, g, a, dx, fs, fs', et, ex, ea, ⟨ρ, rf⟩, hc, hf, q⟩ => ?_) ht
  subst ex
  obtain rfl : u = Value.ref a := rx
  obtain ⟨f, M, C⟩ := T c g et
  refine getmeth_ok I1 ea (by rw [ct.hK]; exact E.clsOk c hc) M (rf_no rf fun p hp => by rw [hm]; exact E.mnf j p.1 (hf p hp)) ?_
  obtain ⟨fd, ps, F1, b⟩ := C.ok
  obtain ⟨ρ1, σa, A1, hs1, hh1, q1⟩ := q
  obtain ⟨ρ, A, as, hh, rv, hl, q⟩ := q1 ρ1 H1 [] (Ext.refl _ _) hh1 rfl
  exact PySem.W.callWith_K0 (first := [.ref a]) I1.kIn M.kp (run_fnS (us := [.ref a]) (vs := [.ref a]) (E := WE W) F1 ct.room b (L2N.passAt ct.tk σ) I1 (.cons rfl .nil) ⟨ρ, A, as, hh, rv, hl, q⟩)
end
/-! ### reckoning -/
@[simp] theorem e_Fld (f : Nat) (fo : Den AV) (σ : ASt) (A : AHp) : dFld f fo σ A = (fo σ A).bind fun o A1 => ofO ((fldA f o A1).map fun v => (v, A1)) := (rfl)
@[simp] theorem e_fldA (f n : Nat) (A : AHp) : fldA f (.ref n) A = (match gt A n with
    | some (.ins _ fs) => getN fs f
    | _ => none) := (rfl)
@[simp] theorem getN_cons (f g : Nat) (v : AV) (r : List (Nat × AV)) : getN ((g, v) :: r) f = if g = f then some v else getN r f := (rfl)
@[simp] theorem getN_nil (f : Nat) : getN [] f = none := (rfl)
@[simp] theorem putN_nil (f : Nat) (v : AV) : putN f v [] = [(f, v)] := (rfl)
@[simp] theorem putN_cons (f g : Nat) (v x : AV) (r : List (Nat × AV)) : putN f v ((g, x) :: r) = if g = f then (g, v) :: r else (g, x) :: putN f v r := (rfl)
@[simp] theorem e_putFA (f n : Nat) (v : AV) (A : AHp) : putFA f (.ref n) v A = (match gt A n with
    | some (.ins c fs) => if fs.length < 900 then some (A.set n (.ins c (putN f v fs))) else none
    | _ => none) := (rfl)
@[simp] theorem e_sFldS (f : Nat) (fv fo : Den AV) (σ : ASt) (A : AHp) : sFldS f fv fo σ A = (fv σ A).toS σ fun v A1 => (fo σ A1).toS σ fun o A2 => match putFA f o v A2 with
  | some A3 => .nx σ A3
  | none => .bad := (rfl)
@[simp] theorem e_clsA (n : Nat) (A : AHp) : clsA (.ref n) A = (match gt A n with
    | some (.ins c _) => some c
    | _ => none) := (rfl)
@[simp] theorem e_sFldAug (f : Nat) (g : Int → Int → Int) (fo fv : Den AV) (σ : ASt) (A : AHp) : sFldAug f g fo fv σ A = (fo σ A).toS σ fun o A1 => match fldA f o A1 with
  | some (.int i) => (fv σ A1).toS σ fun v A2 => augK f g o i (clsA o A1) σ v A2
  | _ => .bad := (rfl)
@[simp] theorem e_augK (f : Nat) (g : Int → Int → Int) (o : AV) (i j : Int) (c : Option Nat) (σ : ASt) (A : AHp) : augK f g o i c σ (.int j) A = if clsA o A = c then (match putFA f o (.int (g i j)) A with
    | some A3 => .nx σ A3
    | none => .bad) else .bad := (rfl)
@[simp] theorem e_makeA (c : Nat) (g : List AV → M AV) (vs : List AV) (A : AHp) : makeA c g vs A = (g (.ref A.length :: vs) (A ++ [.ins c []])).bind fun v A1 => match v with
  | .non => .ok (.ref A.length) A1
  | _ => .bad := (rfl)
@[simp] theorem getM_cons (c d : Nat) (g : List AV → M AV) (r : MTb) : getM ((c, g) :: r) d = if c = d then some g else getM r d := (rfl)
@[simp] theorem getM_nil (d : Nat) : getM [] d = none := (rfl)
@[simp] theorem e_Meth (tb : MTb) (n : Nat) (fo : Den AV) (fa : Den (List AV)) (σ : ASt) (A : AHp) : dMeth tb n fo fa σ A = (fo σ A).bind fun o A1 => match (clsA o A1).bind (getM tb) with
  | some g => (fa σ A1).bind fun vs A2 => if vs.length = n then g (o :: vs) A2 else .bad
  | none => .bad := (rfl)
end Ev
end
section
/-! Ev, seventeenth part: exceptions: raised, caught, as values; what runs while one is handled. -/
namespace Ev
open PySem PySem.Spec L2
set_option autoImplicit false
/-- the exception that is handled stands as it is told -/
def HotP (E : En) (p : Addr × Obj) : Prop := ∀ a c r d, E.hot = some (a, c, r, d) → a = p.1 ∧ p.2.cls = .ref (E.cad c) ∧ p.2.dict = d ∧ (∃ vs, p.2.data = .fields vs) ∧ E.isX c = true
def HotX (E : En) (X : Cx) : Prop := ∃ p, (E.hot = none ∨ p ∈ X.pn) ∧ HotP E p
theorem HotX.none {E : En} {X : Cx} (h : E.hot = none) : HotX E X := ⟨(0, default), .inl h, fun a c r d e => by rw [h] at e; cases e⟩
section
variable {E : En} {X : Cx} {W : WX} {k : Nat} {ρ : List Addr} {H : Hp}
theorem exc_look {pins : List (Addr × Obj)} {σ : St} {s : Shared} {a : Addr} {c : Nat} {r : Option Int} {d : Option Addr} {oe : Obj} {vs : Array Value} (I : Inv X pins σ H s) (hK : X.K = E.K) (hX : E.isX c = true) (rx : RX E H c r d) (get : s.heap.get? a = some oe) (hc : oe.cls = .ref (E.cad c))
    (hd : oe.dict = d) (hv : oe.data = .fields vs) : ∃ P : Heap → Prop, PySem.W.KitX X.K (.ref a) (.ref (E.cad c)) P ∧ P s.heap := by
  have F := E.excOk c hX
  rw [← hK] at F
  have J : ∃ od, PySem.W.InstAt s.heap a oe (E.cad c) od := by
    obtain ⟨oc, odi, oda, osl⟩ := oe
    dsimp only at hc hd hv
    subst hc hd hv
    cases r with
    | none =>
      have rx : odi = none := rx
      subst rx
      exact ⟨none, get, rfl, rfl, trivial⟩
    | some i =>
      obtain ⟨dd, e1, e2⟩ := rx
      subst e1
      obtain ⟨mA, ns, _⟩ := I.hok dd _ e2
      obtain ⟨o, _, _, q, _⟩ := ns
      exact ⟨some o, get, rfl, rfl, q⟩
  obtain ⟨od, J⟩ := J
  exact ⟨_, PySem.W.kitx_exc (od := od) F.cl F.ga F.gt F.sub F.ha F.hn F.tk F.hm, J⟩
/-- an exception's class -/
def excTy (v : AV) : Option Nat := match v with
  | .exc c _ => some c
  | .hx c _ => some c
  | _ => none
theorem exc_val {pins : List (Addr × Obj)} {σ : St} {s : Shared} (I : Inv X pins σ H s) (hK : X.K = E.K) (hot : HotX E X) {v : AV} {x : V} {c : Nat} (r : RV E ρ H v x) (e : excTy v = some c) :
    ∃ a, x = .ref a ∧ ∃ P : Heap → Prop, PySem.W.KitX X.K (.ref a) (.ref (E.cad c)) P ∧ P s.heap := by
  cases v with
  | exc c' r' =>
    cases e
    obtain ⟨a, d, φ, rfl, w, hφ, hX, rx⟩ := r
    obtain ⟨h1, _, _⟩ := I.hok a _ w
    obtain ⟨oe, g1, g2, g3, vs, g4⟩ := hφ _ h1
    exact ⟨a, rfl, exc_look I hK hX rx g1 g2 g3 g4⟩
  | hx c' r' =>
    cases e
    obtain ⟨a, d, eh, rfl, rx⟩ := r
    obtain ⟨p, hp, hh⟩ := hot
    obtain ⟨ea, g2, g3, ⟨vs, g4⟩, hX⟩ := hh _ _ _ _ eh
    subst ea
    rcases hp with hp | hp
    · rw [hp] at eh; cases eh
    · exact ⟨p.1, rfl, exc_look I hK hX rx (I.pin p (List.mem_append_left _ hp)).1 g2 g3 g4⟩
  | _ => cases e
/-- isinstance, of exceptions too -/
def fIsiX (sub : Nat → Nat → Option Bool) (subB : Nat → String → Option Bool) (bsub : String → Nat → Option Bool) : OpN := fun as A => match as with
  | [v, c] => (match excTy v with
    | some t => (match c with
      | .tup cs => if cs.all isTyA then (kitAs sub subB bsub (.inl t) cs).map fun b => (.bl b, A) else none
      | c => (kitA sub subB bsub (.inl t) c).map fun b => (.bl b, A))
    | none => fIsi sub subB bsub [v, c] A)
  | _ => none
theorem cs_isiX (hK : X.K = E.K) (hot : HotX E X) : CallS E X (.builtin "isinstance") (fIsiX E.sub E.subB E.bsub) := by
  intro pins s σ H xs us Q I rv h
  obtain ⟨ρ, A, as, hh, r, q⟩ := h
  unfold fIsiX at q
  split at q
  · rename_i v c
    obtain ⟨x, y, rfl, r1, r2⟩ := rvs2 r
    cases e : excTy v with
    | none =>
      rw [e] at q
      exact cs_isi hK pins s σ H _ us Q I rv ⟨ρ, A, [v, c], hh, r, q⟩
    | some t =>
      rw [e] at q
      obtain ⟨u1, u2, rfl, g1, g2⟩ := vals2 rv
      obtain ⟨a, rfl, P, Z, p⟩ := exc_val I hK hot r1 e
      obtain rfl : u1 = Value.ref a := g1
      have one : ∀ (cl : AV) (y : V) (w : Value), RV E ρ H cl y → RelV y w → PostO E ((kitA E.sub E.subB E.bsub (.inl t) cl).map fun b => (AV.bl b, A)) ρ H Q → wpAny (model X.prog X.w) X.A (call (.builtin "isinstance") [.ref a, w]) (EP X pins σ Q) X.xe s := by
        intro cl y w ry rw' q
        cases e2 : kitA E.sub E.subB E.bsub (.inl t) cl with
        | none => rw [e2] at q; exact q.elim
        | some z =>
          rw [e2] at q
          obtain ⟨u, k1, kz⟩ := kitA_ok (E := E) e2 ry
          have e3 := k1.eq rw'
          subst e3
          exact PySem.W.kia_one Z I.kIn p (hK ▸ kz) (fun z => nomatch z) fun tk => ⟨.bl z, H, I.tok tk, rfl, q.pure hh rfl⟩
      cases c with
      | ty m => exact one _ _ _ r2 g2 q
      | cls m => exact one _ _ _ r2 g2 q
      | tup cs =>
        dsimp only at q
        obtain ⟨b, ys, rfl, st, r3⟩ := r2
        split at q
        · rename_i hall
          cases e2 : kitAs E.sub E.subB E.bsub (.inl t) cs with
          | none => rw [e2] at q; exact q.elim
          | some z =>
            rw [e2] at q
            obtain ⟨us2, pr, kz⟩ := kitAs_ok (E := E) e2 r3 rfl fun c hc' => isTyA_ok (List.all_eq_true.mp hall c hc')
            obtain rfl : u2 = Value.ref b := g2
            obtain ⟨_, its, ri, o, h1, h2, n, h3⟩ := (show ObjOk X.prog X.w H s.heap b (.tup ys) from I.hok b _ st)
            have e3 := ClsV.all pr ri
            subst e3
            obtain ⟨oc, od, dt, sl⟩ := o
            simp only at h2 h3
            subst h2 h3
            exact PySem.W.kia_tup Z I.kIn p h1 (hK ▸ kz) (fun z => nomatch z) fun tk => ⟨.bl z, H, I.tok tk, rfl, q.pure hh rfl⟩
        · exact q.elim
      | _ => exact q.elim
  · exact q.elim
/-! ### made, raised -/
structure ExF (K : PySem.W.Frag) (C : Addr) : Prop where
  q : PySem.W.excIn K C [.type "ValueError", .type "Exception", .type "BaseException", .type "object"] "ValueError.__new__" = true
  kp : PySem.W.keepIn K (.ref C) = true
  bs : PySem.W.subIn K (.ref C) (.type "BaseException") = some true
  ty : PySem.W.typeIn K (.ref C) = some (.type "type")
def dExc (c : Nat) (fe : Den AV) : Den AV := fun σ A => (fe σ A).bind fun _ A1 => .ok (.exc c none) A1
theorem se_exc1 {c : Nat} {x : Str} {e : Expr} {fe : Den AV} {p pos : Pos} (F : ExF X.K (E.cad c)) (hX : E.isX c = true) (gC : X.mg x = some (.ref (E.cad c))) (hg : Gl X x) (he : SE E X W e fe)
    (hs : starEach [e] X.env = (false, eval e X.env) :: starEach [] X.env) (hdb : (x == ("__debug__" : Str)) = false) : SE E X W (.Call (.Name x p) [e] [] pos) (dExc c fe) := by
  refine PE.imp (pe_exc1 PySem.F.excBase_ValueError F.q gC F.kp hg he hs hdb) fun σ H Q h => ?_
  refine rd_step h fun v H1 ρ σa A a hs hh hv q => ?_
  intro b hb
  obtain ⟨z1, z2⟩ := hh.keep (H' := upd H1 b (ExO (.ref (E.cad c)) b)) fun a u e => by rw [upd_ne (ne_of_none e hb)]; exact e
  refine q ρ _ _ z2 z1 ⟨b, none, _, rfl, upd_same, fun h ⟨oe, vs, g1, g2, g3, _⟩ => ⟨oe, g1, g2.1, g2.2, vs, g3⟩, hX, rfl⟩
/-- raise C('..') -/
def sRaise (c : Nat) : SDen := fun σ A => .er σ c none A
theorem ss_raise {c : Nat} {x m : Str} {j : Nat} {p p2 pos pos' : Pos} (ct : Ctx E k X W) (F : ExF X.K (E.cad c)) (gC : X.mg x = some (.ref (E.cad c))) (hg : Gl X x) (hdb : (x == ("__debug__" : Str)) = false) :
    SS E X W (.Raise (some (.Call (.Name x p) [.Constant (.str m) j p2] [] pos)) none pos') (sRaise c) :=
  PS.imp (L2N.ps_raise ct.calm ct.tk (L2N.pmk_own PySem.F.excBase_ValueError F.q gC F.kp (raises_own F.bs F.ty) hg hdb)) fun D σ H ⟨ρ, σa, A, hs, hh, q⟩ => q ρ H σ none (Ext.refl _ _) hh hs rfl
/-! ### the same while an exception is handled -/
def En.heat (E : En) (z : Addr × Nat × Option Int × Option Addr) : En := { E with hot := some z }
mutual
def noHx : AV → Bool
  | .hx _ _ => false
  | .tup xs => noHxs xs
  | .ktup xs => noHxs xs
  | .kl xs => noHxs xs
  | _ => true
def noHxs : List AV → Bool
  | [] => true
  | x :: xs => noHx x && noHxs xs
end
def noHxO : AO → Bool
  | .lst xs _ => noHxs xs
  | .dict kvs _ => kvs.all fun p => noHx p.2
  | .ins _ fs => fs.all fun p => noHx p.2
  | .dn _ => true
variable {z : Addr × Nat × Option Int × Option Addr}
mutual
theorem rv_heat (h0 : E.hot = none) : ∀ {v : AV} {u : V}, RV E ρ H v u → RV (E.heat z) ρ H v u
  | .non, _, h => h
  | .bl _, _, h => h
  | .int _, _, h => h
  | .str _, _, h => h
  | .tup xs, _, ⟨a, ys, e, s, r⟩ => ⟨a, ys, e, s, rvs_heat h0 r⟩
  | .ktup xs, _, ⟨a, ys, e, s, r⟩ => ⟨a, ys, e, s, rvs_heat h0 r⟩
  | .kl xs, _, ⟨a, ys, e, s, r⟩ => ⟨a, ys, e, s, rvs_heat h0 r⟩
  | .ref n, _, h => h
  | .exc c r, _, h => h
  | .ty _, _, h => h
  | .cls _, _, h => h
  | .hx _ _, _, ⟨p, d, e, _⟩ => by rw [h0] at e; cases e
theorem rvs_heat (h0 : E.hot = none) : ∀ {vs : List AV} {us : List V}, RVs E ρ H vs us → RVs (E.heat z) ρ H vs us
  | [], _, h => h
  | v :: vs, _, ⟨y, ys, e, a, b⟩ => ⟨y, ys, e, rv_heat h0 a, rvs_heat h0 b⟩
end
mutual
theorem rv_cool : ∀ {v : AV} {u : V}, noHx v = true → RV (E.heat z) ρ H v u → RV E ρ H v u
  | .non, _, _, h => h
  | .bl _, _, _, h => h
  | .int _, _, _, h => h
  | .str _, _, _, h => h
  | .tup xs, _, n, ⟨a, ys, e, s, r⟩ => ⟨a, ys, e, s, rvs_cool n r⟩
  | .ktup xs, _, n, ⟨a, ys, e, s, r⟩ => ⟨a, ys, e, s, rvs_cool n r⟩
  | .kl xs, _, n, ⟨a, ys, e, s, r⟩ => ⟨a, ys, e, s, rvs_cool n r⟩
  | .ref n, _, _, h => h
  | .exc c r, _, _, h => h
  | .ty _, _, _, h => h
  | .cls _, _, _, h => h
  | .hx _ _, _, n, _ => by simp [noHx] at n
theorem rvs_cool : ∀ {vs : List AV} {us : List V}, noHxs vs = true → RVs (E.heat z) ρ H vs us → RVs E ρ H vs us
  | [], _, _, h => h
  | v :: vs, _, n, ⟨y, ys, e, a, b⟩ => by
    rw [noHxs, Bool.and_eq_true] at n
    exact ⟨y, ys, e, rv_cool n.1 a, rvs_cool n.2 b⟩
end
mutual
theorem rv_no (h0 : E.hot = none) : ∀ {v : AV} {u : V}, RV E ρ H v u → noHx v = true
  | .non, _, h => by simp [noHx]
  | .bl _, _, h => by simp [noHx]
  | .int _, _, h => by simp [noHx]
  | .str _, _, h => by simp [noHx]
  | .tup xs, _, ⟨a, ys, e, s, r⟩ => by rw [noHx]; exact rvs_no h0 r
  | .ktup xs, _, ⟨a, ys, e, s, r⟩ => by rw [noHx]; exact rvs_no h0 r
  | .kl xs, _, ⟨a, ys, e, s, r⟩ => by rw [noHx]; exact rvs_no h0 r
  | .ref n, _, h => by simp [noHx]
  | .exc c r, _, h => by simp [noHx]
  | .ty _, _, h => by simp [noHx]
  | .cls _, _, h => by simp [noHx]
  | .hx _ _, _, ⟨p, d, e, _⟩ => by rw [h0] at e; cases e
theorem rvs_no (h0 : E.hot = none) : ∀ {vs : List AV} {us : List V}, RVs E ρ H vs us → noHxs vs = true
  | [], _, h => by simp [noHxs]
  | v :: vs, _, ⟨y, ys, e, a, b⟩ => by rw [noHxs, rv_no h0 a, rvs_no h0 b]; rfl
end
theorem rk_heat (h0 : E.hot = none) : ∀ {l : List (AK × AV)} {m : List (Key × V)}, RK E ρ H l m → RK (E.heat z) ρ H l m
  | [], _, h => h
  | (k, v) :: r, _, ⟨k', v', r', e, e2, a, b⟩ => ⟨k', v', r', e, e2, rv_heat h0 a, rk_heat h0 b⟩
theorem rt_heat (h0 : E.hot = none) : ∀ {l : List (AK × AV)} {m : List (List Key × V)}, RT E ρ H l m → RT (E.heat z) ρ H l m
  | [], _, h => h
  | (k, v) :: r, _, ⟨k', v', r', e, e2, a, b⟩ => ⟨k', v', r', e, e2, rv_heat h0 a, rt_heat h0 b⟩
theorem rf_heat (h0 : E.hot = none) : ∀ {l : List (Nat × AV)} {m : List (Str × V)}, RF E ρ H l m → RF (E.heat z) ρ H l m
  | [], _, h => h
  | (k, v) :: r, _, ⟨v', r', e, a, b⟩ => ⟨v', r', e, rv_heat h0 a, rf_heat h0 b⟩
theorem ro_heat (h0 : E.hot = none) {o : AO} {a : Addr} (h : RO E ρ H o a) : RO (E.heat z) ρ H o a := by
  cases o with
  | lst xs ro => obtain ⟨ys, r, q⟩ := h; exact ⟨ys, rvs_heat h0 r, q⟩
  | dict kvs lk =>
    rcases h with ⟨kv', r, q⟩ | ⟨kv', r, q⟩
    · exact .inl ⟨kv', rk_heat h0 r, q⟩
    · exact .inr ⟨kv', rt_heat h0 r, q⟩
  | ins c fs => obtain ⟨dx, fs', q, r, y⟩ := h; exact ⟨dx, fs', q, rf_heat h0 r, y⟩
  | dn ks => exact h
theorem rh_heat (h0 : E.hot = none) {A : AHp} (h : RH E ρ H A) : RH (E.heat z) ρ H A := ⟨h.len, h.nd, fun n o a e1 e2 => ro_heat h0 (h.at_ n o a e1 e2)⟩
theorem rs_heat (h0 : E.hot = none) {σa : ASt} {σ : St} (h : RS E ρ H σa σ) : RS (E.heat z) ρ H σa σ := ⟨h.len, fun i x e => let ⟨v, e2, r⟩ := h.at_ i x e; ⟨v, e2, rv_heat h0 r⟩⟩
theorem rk_cool : ∀ {l : List (AK × AV)} {m : List (Key × V)}, (l.all fun p => noHx p.2) = true → RK (E.heat z) ρ H l m → RK E ρ H l m
  | [], _, _, h => h
  | (k, v) :: r, _, n, ⟨k', v', r', e, e2, a, b⟩ => by
    rw [List.all_cons, Bool.and_eq_true] at n
    exact ⟨k', v', r', e, e2, rv_cool n.1 a, rk_cool n.2 b⟩
theorem rt_cool : ∀ {l : List (AK × AV)} {m : List (List Key × V)}, (l.all fun p => noHx p.2) = true → RT (E.heat z) ρ H l m → RT E ρ H l m
  | [], _, _, h => h
  | (k, v) :: r, _, n, ⟨k', v', r', e, e2, a, b⟩ => by
    rw [List.all_cons, Bool.and_eq_true] at n
    exact ⟨k', v', r', e, e2, rv_cool n.1 a, rt_cool n.2 b⟩
theorem rf_cool : ∀ {l : List (Nat × AV)} {m : List (Str × V)}, (l.all fun p => noHx p.2) = true → RF (E.heat z) ρ H l m → RF E ρ H l m
  | [], _, _, h => h
  | (k, v) :: r, _, n, ⟨v', r', e, a, b⟩ => by
    rw [List.all_cons, Bool.and_eq_true] at n
    exact ⟨v', r', e, rv_cool n.1 a, rf_cool n.2 b⟩
theorem ro_cool {o : AO} {a : Addr} (n : noHxO o = true) (h : RO (E.heat z) ρ H o a) : RO E ρ H o a := by
  cases o with
  | lst xs ro => obtain ⟨ys, r, q⟩ := h; exact ⟨ys, rvs_cool n r, q⟩
  | dict kvs lk =>
    rcases h with ⟨kv', r, q⟩ | ⟨kv', r, q⟩
    · exact .inl ⟨kv', rk_cool n r, q⟩
    · exact .inr ⟨kv', rt_cool n r, q⟩
  | ins c fs => obtain ⟨dx, fs', q, r, y⟩ := h; exact ⟨dx, fs', q, rf_cool n r, y⟩
  | dn ks => exact h
theorem rk_no (h0 : E.hot = none) : ∀ {l : List (AK × AV)} {m : List (Key × V)}, RK E ρ H l m → (l.all fun p => noHx p.2) = true
  | [], _, h => rfl
  | (k, v) :: r, _, ⟨k', v', r', e, e2, a, b⟩ => by rw [List.all_cons, rv_no h0 a, rk_no h0 b]; rfl
theorem rt_no (h0 : E.hot = none) : ∀ {l : List (AK × AV)} {m : List (List Key × V)}, RT E ρ H l m → (l.all fun p => noHx p.2) = true
  | [], _, h => rfl
  | (k, v) :: r, _, ⟨k', v', r', e, e2, a, b⟩ => by rw [List.all_cons, rv_no h0 a, rt_no h0 b]; rfl
theorem rf_noH (h0 : E.hot = none) : ∀ {l : List (Nat × AV)} {m : List (Str × V)}, RF E ρ H l m → (l.all fun p => noHx p.2) = true
  | [], _, h => rfl
  | (k, v) :: r, _, ⟨v', r', e, a, b⟩ => by rw [List.all_cons, rv_no h0 a, rf_noH h0 b]; rfl
theorem ro_no (h0 : E.hot = none) {o : AO} {a : Addr} (h : RO E ρ H o a) : noHxO o = true := by
  cases o with
  | lst xs ro => obtain ⟨ys, r, q⟩ := h; exact rvs_no h0 r
  | dict kvs lk =>
    rcases h with ⟨kv', r, q⟩ | ⟨kv', r, q⟩
    · exact rk_no h0 r
    · exact rt_no h0 r
  | ins c fs => obtain ⟨dx, fs', q, r, y⟩ := h; exact rf_noH h0 r
  | dn ks => rfl
theorem rh_cool (h0 : E.hot = none) {ρ2 : List Addr} {H2 : Hp} {A B : AHp} (h : RH E ρ H A) (hB : B.all noHxO = true) (h2 : RH (E.heat z) ρ2 H2 (A ++ B)) : RH E ρ2 H2 (A ++ B) := by
  refine ⟨h2.len, h2.nd, fun n o a e1 e2 => ro_cool ?_ (h2.at_ n o a e1 e2)⟩
  by_cases hn : n < A.length
  · rw [List.getElem?_append_left hn] at e1
    obtain ⟨b, _, q⟩ := h.get e1
    exact ro_no h0 q
  · rw [List.getElem?_append_right (by omega)] at e1
    exact List.all_eq_true.mp hB o (List.mem_of_getElem? e1)
theorem rs_cool {σa : ASt} {σ : St} (i : Nat) (n : ∀ v, some v ∈ σa.set i none → noHx v = true) (h : RS (E.heat z) ρ H σa σ) : RS E ρ H (σa.set i none) (σ.set i none) := by
  refine ⟨by rw [List.length_set, List.length_set]; exact h.len, fun j y e => ?_⟩
  have ny := n y (List.mem_of_getElem? e)
  by_cases hj : j = i
  · subst hj
    by_cases hlt : j < σa.length
    · rw [List.getElem?_set_self hlt] at e; cases e
    · rw [List.getElem?_eq_none (by rw [List.length_set]; omega)] at e; cases e
  · rw [List.getElem?_set_ne (Ne.symm hj)] at e
    obtain ⟨v, e2, r⟩ := h.at_ j y e
    exact ⟨v, by rw [List.getElem?_set_ne (Ne.symm hj)]; exact e2, rv_cool ny r⟩
/-- where one stands while an exception is handled -/
structure CtxH (E : En) (k : Nat) (X : Cx) : Prop where
  hK : X.K = E.K
  room : L2H.RoomH k X.A
  hP : X.prog = E.P ∧ X.w = E.w
  hot : ∃ p, p ∈ X.pn ∧ HotP E p ∧ L2H.Hot1 X.A p
theorem CtxH.hotx (c : CtxH E k X) : HotX E X := let ⟨p, h1, h2, _⟩ := c.hot; ⟨p, .inr h1, h2⟩
theorem CtxH.b (c : CtxH E k X) : CtxB E X := ⟨c.hK, by have := c.room.un; omega, c.hP⟩
/-- a suite's end: nothing keeps the exception -/
def Clean (A1 A2 : AHp) : Prop := ∃ B, A2 = A1 ++ B ∧ B.all noHxO = true
open Classical in
noncomputable def tryEnd (i : Nat) (A1 : AHp) (q : SR) : SR := match q with
  | .rt v A2 => if noHx v = true ∧ Clean A1 A2 then .rt v A2 else .bad
  | .nx σ2 A2 => if (∀ v, some v ∈ σ2.set i none → noHx v = true) ∧ Clean A1 A2 then .nx (σ2.set i none) A2 else .bad
  | _ => .bad
noncomputable def tryK (sub : Nat → Option Bool) (i : Nat) (fs : SDen) (σ : ASt) (c : Nat) (r : Option Int) (A : AHp) : SR := match sub c with
  | some true => tryEnd i A (fs (σ.set i (some (.hx c r))) A)
  | some false => .er σ c r A
  | none => .bad
noncomputable def sTry1 (sub : Nat → Option Bool) (i : Nat) (fb fs : SDen) : SDen := fun σ A => match fb σ A with
  | .er σ1 c r A1 => tryK sub i fs σ1 c r A1
  | q => q
theorem ss_try1 {i : Nat} {x n : Str} {cv : Value} {body suite : List Stmt} {b₀ : Stmt} {np pos pos' : Pos} {fb fs : SDen} {sub : Nat → Option Bool} (c : Ctx E k X W) (hs : X.stack = X.env :: X.outer) (hf : X.env.frame = some X.env.locals) (hN : X.N.Nodup) (hi : X.N[i]? = some n) (hln : X.env.kindOf n = some .local)
    (hc : Names X x cv) (hsub : ∀ c b, sub c = some b → PySem.W.exmOne X.K (.ref (E.cad c)) cv = some b ∧ E.isX c = true)
    (hb : ∀ (W' : WX) (pn : List (Addr × Obj)) (xe : Value → Shared → Prop), Ctx E k (X.tr pn xe) W' → SSs E (X.tr pn xe) W' body fb)
    (hsu : ∀ (z : Addr × Nat × Option Int × Option Addr) (a : Addr) (pn : List (Addr × Obj)), CtxH (E.heat z) k (X.suite a pn) → SSs (E.heat z) (X.suite a pn) W0 (b₀ :: suite) fs) :
    SS E X W (.Try body [.ExceptHandler (some (.Name x np)) (some n) (b₀ :: suite) pos'] [] [] pos) (sTry1 sub i fb fs) := by
  have main := L2N.ps_try_as (body := body) (suite := suite) (b₀ := b₀) (np := np) (pos := pos) (pos' := pos') (tb := fun W' => rdS E fb W')
    (ts := fun a cls d => fun D σ H => ∃ cc r, cls = .ref (E.cad cc) ∧ E.isX cc = true ∧ RX E H cc r d ∧ rdS (E.heat (a, cc, r, d)) fs W0 D σ H) hs hf hN hi hln hc c.tk
    (fun W' pn xe tk po => hb W' pn xe ⟨c.hK, c.calm, c.room, tk, po, c.h0, c.hP⟩)
    (fun a oe cls d pn hz hd => by
      refine ⟨fun pins s σ H D I ⟨cc, r, ecls, hX, rx, q⟩ => ?_⟩
      subst ecls
      obtain ⟨vs, hv⟩ := hd
      refine (hsu (a, cc, r, d) a ((a, oe) :: pn) ⟨c.hK, ⟨c.room.dp, c.room.un⟩, c.hP, ⟨(a, oe), List.mem_cons_self, fun a' c' r' d' e => ?_, rfl, vs, hv, hz.2.2 vs hv⟩⟩).run pins s σ H D I q
      cases e
      exact ⟨rfl, hz.1, hz.2.1, ⟨vs, hv⟩, hX⟩)
  refine PS.imp main fun D σ H ⟨ρ, σa, A, hs', hh, p⟩ => ?_
  refine ⟨ρ, σa, A, hs', hh, ?_⟩
  unfold sTry1 at p
  cases e : fb σa A with
  | nx σ1 A1 => rw [e] at p; exact p
  | rt v A1 => rw [e] at p; exact p
  | bk σ1 A1 => rw [e] at p; exact p
  | ct σ1 A1 => rw [e] at p; exact p
  | bad => rw [e] at p; exact p.elim
  | er σ1 cc r A1 =>
    rw [e] at p
    have p : PostS E (tryK sub i fs σ1 cc r A1) ρ H D W := p
    intro ρ' H' σ' d xt rh rs rx
    unfold tryK at p
    cases e1 : sub cc with
    | none => rw [e1] at p; exact p.elim
    | some b =>
      rw [e1] at p
      obtain ⟨g1, g2⟩ := hsub cc b e1
      cases b with
      | false => exact ⟨false, g1, (fun z => nomatch z), fun _ => p ρ' H' σ' d xt rh rs rx⟩
      | true =>
        refine ⟨true, g1, fun _ a ha => ⟨cc, r, rfl, g2, rx, ρ', σ1.set i (some (.hx cc r)), A1, ?_, rh_heat c.h0 rh, ?_⟩, fun z => nomatch z⟩
        · exact RS.set (rs_heat c.h0 rs) i ⟨a, d, rfl, rfl, rx⟩
        · dsimp only at p
          unfold tryEnd at p
          cases e2 : fs (σ1.set i (some (.hx cc r))) A1 with
          | rt v A2 =>
            rw [e2] at p
            dsimp only at p
            split at p
            · rename_i hcl
              obtain ⟨hv, B, rfl, hB⟩ := hcl
              exact fun ρ2 H2 v' x2 rh2 rv2 => p ρ2 H2 v' (xt.trans x2) (rh_cool c.h0 rh hB rh2) (rv_cool hv rv2)
            · exact p.elim
          | nx σ2 A2 =>
            rw [e2] at p
            dsimp only at p
            split at p
            · rename_i hcl
              obtain ⟨hv, B, rfl, hB⟩ := hcl
              exact fun ρ2 H2 σ3 x2 rh2 rs2 => p ρ2 H2 _ (xt.trans x2) (rh_cool c.h0 rh hB rh2) (rs_cool i hv rs2)
            · exact p.elim
          | bk σ2 A2 => rw [e2] at p; exact p.elim
          | ct σ2 A2 => rw [e2] at p; exact p.elim
          | er σ2 c2 r2 A2 => rw [e2] at p; exact p.elim
          | bad => rw [e2] at p; exact p.elim
end
end Ev
end
section
/-! Ev, eighteenth part: defs called while an exception is handled. -/
namespace Ev
open PySem PySem.Spec L2
set_option autoImplicit false
section
variable {P : Program} {w : World} {K : PySem.W.Frag} {mg : Str → Option Value} {base : Heap}
structure CalH (E : En) (P : Program) (w : World) (K : PySem.W.Frag) (mg : Str → Option Value) (base : Heap) (k : Nat) (f : Addr) (n : Nat) (g : List AV → M AV) : Prop where
  kp : PySem.W.keepIn K (.ref f) = true
  ok : ∃ (fd : FuncData) (ps : List Str), Binds K fd ps [] ∧ ps.length = n ∧
    ∀ (A : Around) (outer : List Env) (s : Shared) (H : Hp) (us : List Value) (vs : List V) (Q : VK) (Ex : XK) (p : Addr × Obj), L2H.RoomH k A → L2H.Hot1 A p → L2H.PinOk outer H s p → HotP E p → Env0 P w K mg base A outer s H →
      BindsTo s fd ⟨us, []⟩ (ps.zip us) → Vals vs us → us.length = ps.length → spOf E n g vs H Q (fun _ _ _ => False) → codeAny (model P w) A (.call (.ref f) ⟨us, []⟩) (CR (L2N.CX P w) outer P w H s Q Ex) s
theorem calh_of {E : En} {k : Nat} (hK : (K, P, w) = (E.K, E.P, E.w)) {x qual : Str} {params : Arguments} {body : List Stmt} {scope : Scope} {f : Addr} {fd : FuncData} {N ps : List Str} {g : SDen} (F : FunD K x qual params body scope [] [] f fd) (S : FnScope N ps scope) (b : Binds K fd ps [])
    (h : ∀ (cdv : Value) (A : Around) (outer : List Env) (s : Shared) (H : Hp) (Ex : XK) (p : Addr × Obj), CtxH E k (L2H.cxH (L2N.CX P w) P w K mg base N qual scope f cdv A outer s H Ex p) → SSs E (L2H.cxH (L2N.CX P w) P w K mg base N qual scope f cdv A outer s H Ex p) W0 body g) :
    CalH E P w K mg base (k + 1) f ps.length (runBody g N.length) := by
  have kp := F.kp
  obtain ⟨oc, od, dV, kV, doc, pm, an, cdv, ct, osl, rfl, lk, hcd, _, _⟩ := F.ex
  refine ⟨kp, _, ps, b, rfl, ?_⟩
  intro A outer s H us vs Q Ex p room hot pin hp e0 bind rv len hsp
  have inK : K.In s.heap := PySem.W.Frag.In.keeps e0.mod.kin fun b o e => (e0.bs b o e).1
  have noL : s.heap.NoLimit := Heap.NoLimit.keeps e0.mod.nolimit fun b o e => (e0.bs b o e).1
  have kinds : ∀ q ∈ ps.zip us, scope.names.lookup q.1 = some .local ∨ (scope.names.lookup q.1 = some .cell ∧ ((PySem.cellsFrom (s.heap.objs.size + 1) scope.names []).lookup q.1).isSome = true) := by
    rintro ⟨n, v⟩ hq
    have par := S.par n (List.of_mem_zip hq).1
    rcases par with q | q
    · exact .inl q
    · exact .inr ⟨q, PySem.W.cellsFrom_some _ _ _ (.inl q)⟩
  refine codeAny_call_function room.depth (inK _ _ lk) rfl S.co S.gen rfl (PySem.W.codeRec_of inK hcd) (bind _ _ _ _ ?_)
  refine wpAny_newFunctionEnv_cells S.kind kinds fun env ee s1 frame => ?_
  subst ee
  have hvs : vs.length = ps.length := by rw [rv.length, len]
  have I := L2H.inv_startH (CX := L2N.CX P w) (E := Ex) S pin e0 hvs rv frame
  have ctx : CtxH E k (L2H.cxH (L2N.CX P w) P w K mg base N qual scope f cdv A outer s H Ex p) :=
    ⟨congrArg (·.1) hK, room.deeper _, ⟨congrArg (·.2.1) hK, congrArg (·.2.2) hK⟩, p, List.mem_cons_self, hp, hot⟩
  refine ⟨noL.keeps frame.toInCall.keep, codeAny_func ?_⟩
  obtain ⟨ρ, A1, as, hh, r, el, q⟩ := hsp
  have q2 : rdS E g W0 { nx := fun _ H' => Q .non H', rt := Q } (L2.start N vs) H := by
    refine ⟨ρ, _, A1, rs_start N r, hh, ?_⟩
    unfold runBody at q
    cases e1 : g (as.map some ++ List.replicate (N.length - as.length) none) A1 with
    | nx σ A2 => rw [e1] at q; exact fun ρ' H' σ' x rh _ => q ρ' H' _ x rh rfl
    | rt v A2 => rw [e1] at q; exact fun ρ' H' v' x rh rv => q ρ' H' v' x rh rv
    | er σ c i A2 => rw [e1] at q; exact fun ρ' H' σ' d x rh _ rx => q ρ' H' d x rh rx
    | bk σ A2 => rw [e1] at q; exact q.elim
    | ct σ A2 => rw [e1] at q; exact q.elim
    | bad => rw [e1] at q; exact q.elim
  refine wpAny_mono ((h cdv A outer s H Ex p ctx).run [] s1 _ H _ I q2) (fun fl s' done => ?_) fun _ _ z => z
  cases fl with
  | ret u =>
    obtain ⟨v, σ', H', J, rv2, q3⟩ := done
    exact ⟨v, H', J.os, J.bare, J.base, J.hok, rv2, q3⟩
  | next =>
    obtain ⟨σ', H', J, q3⟩ := done
    exact ⟨V.non, H', J.os, J.bare, J.base, J.hok, rfl, q3⟩
  | brk => obtain ⟨_, _, _, q3⟩ := done; exact q3.elim
  | cont => obtain ⟨_, _, _, q3⟩ := done; exact q3.elim
/-- f(..) while an exception is handled -/
theorem se_callH {E : En} {X : Cx} {k n : Nat} {g : List AV → M AV} {f : Addr} {x : Str} {p pos : Pos} {e : Expr} {es : List Expr} {fa : Den (List AV)} (c : CtxH E k X) (F : CalH E X.prog X.w X.K X.mg X.base k f n g) (hg : Gl X x) (hm : X.mg x = some (.ref f)) (ha : SA E X W0 (e :: es) fa)
    (hdb : (x == ("__debug__" : Str)) = false) (he : starEach (e :: es) X.env = (false, eval e X.env) :: starEach es X.env) (hpl : (backTo pos (starEach es X.env)).any (·.1) = false) : SE E X W0 (.Call (.Name x p) (e :: es) [] pos) (dCall n g fa) := by
  obtain ⟨fd, ps, bd, hn, F1⟩ := F.ok
  refine ⟨fun pins s σ H Q I h => ?_⟩
  refine wpAny_Call_Name_kw (ld_glob I hg hm ?_ hdb)
  have h2 : rd E (RVs E) fa W0 σ H fun us H1 => us.length = n ∧ spOf E n g us H1 Q (fun _ _ _ => False) := by
    refine rd_step (f := fa) (g := fun σ vs A1 => if vs.length = n then g vs A1 else .bad) h fun us H1 ρ σa A as hs hh hx q => ?_
    split at q
    · rename_i hl
      exact ⟨by rw [hx.length, hl], ρ, A, as, hh, hx, hl, q⟩
    · exact q.elim
  refine PySem.W.callWith_K (h₀ := X.base) I.ok.mod.kin F.kp (thn (ha.run pos pins s σ H _ I h2) fun us s1 ⟨vs, H1, I1, r, hl, q⟩ => ⟨I1.kIn, ?_⟩) he hpl
  obtain ⟨p, p1, p2, p3⟩ := c.hot
  have lu : us.length = ps.length := by rw [← r.length, hl, hn]
  have b := bd s1 us I1.kIn (by rw [List.append_nil]; exact lu)
  rw [List.append_nil] at b
  have pin := I1.pin p (List.mem_append_left _ p1)
  have ok : L2H.PinOk X.stack H1 s1 p := ⟨pin.1, pin.2.1, fun hm => by
    rcases List.mem_cons.mp (I1.stkSub p.1 hm) with z | z
    · exact pin.2.2.1 z
    · exact pin.2.2.2.1 z, pin.2.2.2.2⟩
  refine wpAny_call (codeAny_mono (F1 X.A X.stack s1 H1 us vs Q (fun _ _ _ => False) p c.room p3 ok p2 I1.env0 b r lu q) fun res s' fin => ?_)
  cases res with
  | error err =>
    obtain ⟨_, _, _, _, _, _, _, _, _, _, _, _, w⟩ := fin
    exact w.elim
  | ok fl =>
    cases fl with
    | ret u => exact I1.after fin
    | next => exact fin.elim
    | brk => exact fin.elim
    | cont => exact fin.elim
end
end Ev
end
section
/-! Ev, nineteenth part: dicts walked; enumerate. -/
namespace Ev
open PySem PySem.Spec L2
set_option autoImplicit false
section
variable {E : En} {X : Cx} {W : WX} {k : Nat} {ρ : List Addr} {H : Hp}
theorem rk_at : ∀ {l : List (AK × AV)} {m : List (Key × V)} {i : Nat} {q : AK} {v : AV}, RK E ρ H l m → l[i]? = some (q, v) → ∃ k' v', m[i]? = some (k', v') ∧ q = .k k' ∧ RV E ρ H v v'
  | [], _, _, _, _, _, e => by simp at e
  | (a, b) :: l, _, 0, q, v, r, e => by
    obtain ⟨k', v', r', rfl, e2, q1, _⟩ := r
    simp at e
    obtain ⟨rfl, rfl⟩ := e
    exact ⟨k', v', rfl, e2, q1⟩
  | (a, b) :: l, _, i + 1, q, v, r, e => by
    obtain ⟨k', v', r', rfl, e2, _, q2⟩ := r
    obtain ⟨k2, v2, h1, h2, h3⟩ := rk_at (i := i) q2 (by simpa using e)
    exact ⟨k2, v2, by simpa using h1, h2, h3⟩
theorem rt_at : ∀ {l : List (AK × AV)} {m : List (List Key × V)} {i : Nat} {q : AK} {v : AV}, RT E ρ H l m → l[i]? = some (q, v) → ∃ k' v', m[i]? = some (k', v') ∧ q = .t k' ∧ RV E ρ H v v'
  | [], _, _, _, _, _, e => by simp at e
  | (a, b) :: l, _, 0, q, v, r, e => by
    obtain ⟨k', v', r', rfl, e2, q1, _⟩ := r
    simp at e
    obtain ⟨rfl, rfl⟩ := e
    exact ⟨k', v', rfl, e2, q1⟩
  | (a, b) :: l, _, i + 1, q, v, r, e => by
    obtain ⟨k', v', r', rfl, e2, _, q2⟩ := r
    obtain ⟨k2, v2, h1, h2, h3⟩ := rt_at (i := i) q2 (by simpa using e)
    exact ⟨k2, v2, by simpa using h1, h2, h3⟩
theorem keysV_rv : ∀ ks : List Key, RVs E ρ H (ks.map key1V) (ks.map kV)
  | [] => rfl
  | k :: ks => ⟨_, _, rfl, key1V_rv k, keysV_rv ks⟩
/-- the locked dict at n -/
def lockD (n : Nat) (A : AHp) : Option (List (AK × AV)) := match A[n]? with
  | some (.dict kvs true) => some kvs
  | _ => none
theorem lockD_eq {n : Nat} {A : AHp} {kvs : List (AK × AV)} (h : lockD n A = some kvs) : A[n]? = some (.dict kvs true) := by
  unfold lockD at h
  split at h
  · rename_i e; cases h; exact e
  · cases h
def srcDk (n : Nat) : Src := fun i A => (lockD n A).map fun kvs => kvs[i]?.map fun p => keyV p.1
def srcDv (n : Nat) : Src := fun i A => (lockD n A).map fun kvs => kvs[i]?.map fun p => p.2
def srcDi (n : Nat) : Src := fun i A => (lockD n A).map fun kvs => kvs[i]?.map fun p => .tup [keyV p.1, p.2]
/-- what stands at a locked dict's address -/
theorem lock_at {A : AHp} (hh : RH E ρ H A) {n : Nat} {a : Addr} {kvs : List (AK × AV)} (ea : ρ[n]? = some a) (e : lockD n A = some kvs) :
    (∃ kv od, RK E ρ H kvs kv ∧ H a = some (.frz od (.dK kv))) ∨ ∃ kv od, RT E ρ H kvs kv ∧ kvs ≠ [] ∧ H a = some (.frz od (.dT kv)) := by
  rcases hh.at_ n _ a (lockD_eq e) ea with ⟨kv, r, od, w, _⟩ | ⟨kv, r, od, w, ne⟩
  · exact .inl ⟨kv, od, r, w⟩
  · refine .inr ⟨kv, od, r, ?_, w⟩
    rintro rfl
    cases r
    exact ne rfl
theorem jok_dk {n : Nat} {a : Addr} {o : Obj} {kv : List (Key × V)} {ρ0 : List Addr} {H0 : Hp} (ea : ρ0[n]? = some a) (w0 : H0 a = some (.frz o (.dK kv))) : JOk E (Itk a o kv) (srcDk n) ρ0 H0 := by
  intro ρ A H i x hh
  have w := x.fx a _ w0 rfl
  unfold srcDk
  cases e : lockD n A with
  | none => exact ⟨fun z => (nomatch z), fun _ z => (nomatch z)⟩
  | some kvs =>
    rcases lock_at hh (x.pre n a ea) e with ⟨kv2, od, r, w2⟩ | ⟨kv2, od, r, _, w2⟩
    · rw [w] at w2
      cases w2
      constructor
      · intro z
        have z : kvs[i]?.map (fun p => keyV p.1) = none := Option.some.inj z
        refine ⟨w, ?_⟩
        rw [rk_len r]
        exact List.getElem?_eq_none_iff.mp (Option.map_eq_none_iff.mp z)
      · intro v z
        have z : kvs[i]?.map (fun p => keyV p.1) = some v := Option.some.inj z
        obtain ⟨⟨q, u⟩, h1, h2⟩ := Option.map_eq_some_iff.mp z
        obtain ⟨k', v', g1, rfl, g3⟩ := rk_at r h1
        refine ⟨⟨w, (List.getElem?_eq_some_iff.mp g1).1⟩, ?_⟩
        rintro x' H' ⟨rfl, k2, v2, g4, rfl⟩
        rw [g1] at g4
        cases g4
        cases h2
        exact ⟨hh, Ext.refl _ _, key1V_rv k'⟩
    · rw [w] at w2; cases w2
theorem jok_dkt {n : Nat} {a : Addr} {o : Obj} {kv : List (List Key × V)} {ρ0 : List Addr} {H0 : Hp} (ea : ρ0[n]? = some a) (w0 : H0 a = some (.frz o (.dT kv))) : JOk E (Itkt a o kv) (srcDk n) ρ0 H0 := by
  intro ρ A H i x hh
  have w := x.fx a _ w0 rfl
  unfold srcDk
  cases e : lockD n A with
  | none => exact ⟨fun z => (nomatch z), fun _ z => (nomatch z)⟩
  | some kvs =>
    rcases lock_at hh (x.pre n a ea) e with ⟨kv2, od, r, w2⟩ | ⟨kv2, od, r, _, w2⟩
    · rw [w] at w2; cases w2
    · rw [w] at w2
      cases w2
      constructor
      · intro z
        have z : kvs[i]?.map (fun p => keyV p.1) = none := Option.some.inj z
        refine ⟨w, ?_⟩
        rw [rt_len r]
        exact List.getElem?_eq_none_iff.mp (Option.map_eq_none_iff.mp z)
      · intro v z
        have z : kvs[i]?.map (fun p => keyV p.1) = some v := Option.some.inj z
        obtain ⟨⟨q, u⟩, h1, h2⟩ := Option.map_eq_some_iff.mp z
        obtain ⟨k', v', g1, rfl, g3⟩ := rt_at r h1
        refine ⟨⟨w, (List.getElem?_eq_some_iff.mp g1).1⟩, ?_⟩
        rintro x' H' ⟨rfl, k2, v2, q2, g4, rfl, g5⟩
        rw [g1] at g4
        cases g4
        cases h2
        exact ⟨hh, Ext.refl _ _, q2, _, rfl, g5, keysV_rv k'⟩
theorem jok_dv {n : Nat} {a : Addr} {o : Obj} {kv : List (Key × V)} {ρ0 : List Addr} {H0 : Hp} (ea : ρ0[n]? = some a) (w0 : H0 a = some (.frz o (.dK kv))) : JOk E (Itd a o kv) (srcDv n) ρ0 H0 := by
  intro ρ A H i x hh
  have w := x.fx a _ w0 rfl
  unfold srcDv
  cases e : lockD n A with
  | none => exact ⟨fun z => (nomatch z), fun _ z => (nomatch z)⟩
  | some kvs =>
    rcases lock_at hh (x.pre n a ea) e with ⟨kv2, od, r, w2⟩ | ⟨kv2, od, r, _, w2⟩
    · rw [w] at w2
      cases w2
      constructor
      · intro z
        have z : kvs[i]?.map (fun p => p.2) = none := Option.some.inj z
        refine ⟨w, ?_⟩
        rw [rk_len r]
        exact List.getElem?_eq_none_iff.mp (Option.map_eq_none_iff.mp z)
      · intro v z
        have z : kvs[i]?.map (fun p => p.2) = some v := Option.some.inj z
        obtain ⟨⟨q, u⟩, h1, h2⟩ := Option.map_eq_some_iff.mp z
        obtain ⟨k', v', g1, rfl, g3⟩ := rk_at r h1
        refine ⟨⟨w, (List.getElem?_eq_some_iff.mp g1).1⟩, ?_⟩
        rintro x' H' ⟨rfl, k2, g4⟩
        rw [g1] at g4
        cases g4
        cases h2
        exact ⟨hh, Ext.refl _ _, g3⟩
    · rw [w] at w2; cases w2
theorem jok_di {n : Nat} {a : Addr} {o : Obj} {kv : List (Key × V)} {ρ0 : List Addr} {H0 : Hp} (ea : ρ0[n]? = some a) (w0 : H0 a = some (.frz o (.dK kv))) : JOk E (Iti a o kv) (srcDi n) ρ0 H0 := by
  intro ρ A H i x hh
  have w := x.fx a _ w0 rfl
  unfold srcDi
  cases e : lockD n A with
  | none => exact ⟨fun z => (nomatch z), fun _ z => (nomatch z)⟩
  | some kvs =>
    rcases lock_at hh (x.pre n a ea) e with ⟨kv2, od, r, w2⟩ | ⟨kv2, od, r, _, w2⟩
    · rw [w] at w2
      cases w2
      constructor
      · intro z
        have z : kvs[i]?.map (fun p => AV.tup [keyV p.1, p.2]) = none := Option.some.inj z
        refine ⟨w, ?_⟩
        rw [rk_len r]
        exact List.getElem?_eq_none_iff.mp (Option.map_eq_none_iff.mp z)
      · intro v z
        have z : kvs[i]?.map (fun p => AV.tup [keyV p.1, p.2]) = some v := Option.some.inj z
        obtain ⟨⟨q, u⟩, h1, h2⟩ := Option.map_eq_some_iff.mp z
        obtain ⟨k', v', g1, rfl, g3⟩ := rk_at r h1
        refine ⟨⟨w, (List.getElem?_eq_some_iff.mp g1).1⟩, ?_⟩
        rintro x' H' ⟨T, k2, v2, g4, rfl, hT, rfl⟩
        rw [g1] at g4
        cases g4
        cases h2
        exact newTup hh hT ⟨_, _, rfl, key1V_rv k', _, _, rfl, g3, rfl⟩
    · rw [w] at w2; cases w2
/-- a walk over a locked dict -/
def iDict (src : Nat → Src) (f : Den AV) : IDen := fun σ A => (f σ A).bind fun v A1 => match v with
  | .ref n => (match lockD n A1 with
    | some kvs => .ok (src n, kvs.length + 1) A1
    | none => .bad)
  | _ => .bad
theorem idict_rd {src : Nat → Src} {f : Den AV} {σ : St} {R : It → Hp → Prop} (h : rdI E (iDict src f) W σ H R) :
    rd E (RV E) f W σ H fun x H1 => ∃ ρ n a kvs A, x = .ref a ∧ ρ[n]? = some a ∧ RH E ρ H1 A ∧ lockD n A = some kvs ∧ ∀ J, JOk E J (src n) ρ H1 → R J H1 := by
  obtain ⟨ρ, σa, A, hs, hh, q⟩ := h
  refine ⟨ρ, σa, A, hs, hh, ?_⟩
  unfold iDict at q
  cases e : f σa A with
  | err c i A1 => rw [e] at q; exact q
  | bad => rw [e] at q; exact q
  | ok v A1 =>
    rw [e] at q
    dsimp only [Res.bind] at q
    intro ρ1 H1 b x rh rv
    cases v with
    | ref n =>
      dsimp only at q
      cases e1 : lockD n A1 with
      | none => rw [e1] at q; exact q.elim
      | some kvs =>
        rw [e1] at q
        obtain ⟨a, ea, eb⟩ := rv
        exact ⟨ρ1, n, a, kvs, A1, eb, ea, rh, e1, fun J jk => q ρ1 H1 J x rh jk⟩
    | _ => exact q.elim
theorem si_keys {tg e : Expr} {f : Den AV} (he : SE E X W e f) : SI E X W tg e (iDict srcDk f) := by
  refine ⟨fun pins s σ H R I h => (pi_keys he).run pins s σ H R I ?_⟩
  refine rd_mono (idict_rd h) fun x H1 ⟨ρ, n, a, kvs, A, ex, ea, hh, el, k⟩ => ?_
  rcases lock_at hh ea el with ⟨kv, od, r, w⟩ | ⟨kv, od, r, _, w⟩
  · exact ⟨a, od, ex, .inl ⟨kv, w, k _ (jok_dk ea w)⟩⟩
  · exact ⟨a, od, ex, .inr ⟨kv, w, k _ (jok_dkt ea w)⟩⟩
/-- all keys plain -/
def plainKs (kvs : List (AK × AV)) : Bool := kindA kvs (.k (.inl 0))
def iDictK (src : Nat → Src) (f : Den AV) : IDen := fun σ A => (f σ A).bind fun v A1 => match v with
  | .ref n => (match lockD n A1 with
    | some kvs => if plainKs kvs = true then .ok (src n, kvs.length + 1) A1 else .bad
    | none => .bad)
  | _ => .bad
theorem idictK_rd {src : Nat → Src} {f : Den AV} {σ : St} {R : It → Hp → Prop} (h : rdI E (iDictK src f) W σ H R) :
    rd E (RV E) f W σ H fun x H1 => ∃ ρ n a kv od, x = .ref a ∧ ρ[n]? = some a ∧ H1 a = some (.frz od (.dK kv)) ∧ ∀ J, JOk E J (src n) ρ H1 → R J H1 := by
  obtain ⟨ρ, σa, A, hs, hh, q⟩ := h
  refine ⟨ρ, σa, A, hs, hh, ?_⟩
  unfold iDictK at q
  cases e : f σa A with
  | err c i A1 => rw [e] at q; exact q
  | bad => rw [e] at q; exact q
  | ok v A1 =>
    rw [e] at q
    dsimp only [Res.bind] at q
    intro ρ1 H1 b x rh rv
    cases v with
    | ref n =>
      dsimp only at q
      cases e1 : lockD n A1 with
      | none => rw [e1] at q; exact q.elim
      | some kvs =>
        rw [e1] at q
        dsimp only at q
        by_cases hk : plainKs kvs = true
        · rw [if_pos hk] at q
          obtain ⟨a, ea, eb⟩ := rv
          rcases lock_at rh ea e1 with ⟨kv, od, r, w⟩ | ⟨kv, od, r, ne, w⟩
          · exact ⟨ρ1, n, a, kv, od, eb, ea, w, fun J jk => q ρ1 H1 J x rh jk⟩
          · exact absurd (kind_noneT r hk) ne
        · rw [if_neg hk] at q
          exact q.elim
    | _ => exact q.elim
theorem si_vals {tg e : Expr} {f : Den AV} {apos cpos : Pos} (he : SE E X W e f) (hb : attributeBase e "values" X.env (eval e X.env) = eval e X.env) (hl : (apos.endLine == cpos.line) = true) : SI E X W tg (.Call (.Attribute e "values" apos) [] [] cpos) (iDictK srcDv f) := by
  refine ⟨fun pins s σ H R I h => (pi_values he hb hl).run pins s σ H R I ?_⟩
  exact rd_mono (idictK_rd h) fun x H1 ⟨ρ, n, a, kv, od, ex, ea, w, k⟩ => ⟨a, od, kv, ex, w, k _ (jok_dv ea w)⟩
theorem si_keysM {tg e : Expr} {f : Den AV} {apos cpos : Pos} (he : SE E X W e f) (hb : attributeBase e "keys" X.env (eval e X.env) = eval e X.env) (hl : (apos.endLine == cpos.line) = true) : SI E X W tg (.Call (.Attribute e "keys" apos) [] [] cpos) (iDictK srcDk f) := by
  refine ⟨fun pins s σ H R I h => (pi_keysM he hb hl).run pins s σ H R I ?_⟩
  exact rd_mono (idictK_rd h) fun x H1 ⟨ρ, n, a, kv, od, ex, ea, w, k⟩ => ⟨a, od, kv, ex, w, k _ (jok_dk ea w)⟩
theorem si_items {e : Expr} {elts : List Expr} {kk : Nat} {tpos : Pos} {f : Den AV} {apos cpos : Pos} (he : SE E X W e f) (hb : attributeBase e "items" X.env (eval e X.env) = eval e X.env) (hl : (apos.endLine == cpos.line) = true) : SI E X W (.Tuple elts kk tpos) (.Call (.Attribute e "items" apos) [] [] cpos) (iDictK srcDi f) := by
  refine ⟨fun pins s σ H R I h => (pi_items he hb hl).run pins s σ H R I ?_⟩
  exact rd_mono (idictK_rd h) fun x H1 ⟨ρ, n, a, kv, od, ex, ea, w, k⟩ => ⟨a, od, kv, ex, w, k _ (jok_di ea w)⟩
/-! ### the lock -/
theorem RH.unlock {A : AHp} (h : RH E ρ H A) {n : Nat} {a : Addr} {kvs : List (AK × AV)} {u : HO} {od : Obj} (e : lockD n A = some kvs) (ea : ρ[n]? = some a) (w : H a = some (.frz od u)) :
    RH E ρ (upd H a u) (A.set n (.dict kvs false)) := by
  have el := lockD_eq e
  have hlt := (List.getElem?_eq_some_iff.mp el).1
  have notv : fixv a (.frz od u) = false := by
    rcases lock_at h ea e with ⟨kv, od2, r, w2⟩ | ⟨kv, od2, r, _, w2⟩ <;> (rw [w] at w2; cases w2; rfl)
  have x : ExtV ρ H ρ (upd H a u) := ⟨fun _ _ e => e, fun b o eb f => by
    by_cases hb : b = a
    · subst hb
      rw [w] at eb
      cases eb
      rw [notv] at f
      cases f
    · rw [upd_ne hb]; exact eb⟩
  refine ⟨by rw [List.length_set]; exact h.len, h.nd, fun m o b q1 q2 => ?_⟩
  by_cases hm : m = n
  · subst hm
    rw [ea] at q2; cases q2
    rw [List.getElem?_set_self hlt] at q1
    cases q1
    rcases lock_at h ea e with ⟨kv, od2, r, w2⟩ | ⟨kv, od2, r, _, w2⟩
    · rw [w] at w2; cases w2
      exact .inl ⟨kv, RK.extV x r, upd_same⟩
    · rw [w] at w2; cases w2
      exact .inr ⟨kv, RT.extV x r, upd_same⟩
  · rw [List.getElem?_set_ne (Ne.symm hm)] at q1
    have hb : b ≠ a := fun z => by
      subst z
      exact hm (RH.write.nodup_addr h.nd q2 ea)
    exact RO_extV x (upd_ne hb) (h.at_ m o b q1 q2)
theorem RS.unlock {σa : ASt} {σ : St} {a : Addr} {u : HO} {od : Obj} (h : RS E ρ H σa σ) (w : H a = some (.frz od u)) (nv : fixv a (.frz od u) = false) : RS E ρ (upd H a u) σa σ :=
  h.extV ⟨fun _ _ e => e, fun b o eb f => by
    by_cases hb : b = a
    · subst hb
      rw [w] at eb
      cases eb
      rw [nv] at f
      cases f
    · rw [upd_ne hb]; exact eb⟩
def unlA (n : Nat) (A : AHp) : Option AHp := (lockD n A).map fun kvs => A.set n (.dict kvs false)
def unlockS (n : Nat) (q : SR) : SR := match q with
  | .nx σ A => (match unlA n A with
    | some A2 => .nx σ A2
    | none => .bad)
  | .rt v A => (match unlA n A with
    | some A2 => .rt v A2
    | none => .bad)
  | .bk σ A => (match unlA n A with
    | some A2 => .bk σ A2
    | none => .bad)
  | .ct σ A => (match unlA n A with
    | some A2 => .ct σ A2
    | none => .bad)
  | .er σ c r A => .er σ c r A
  | .bad => .bad
/-- the dict that is to be walked -/
def dictAt (o : Res AV) (A : AHp) : Option (Nat × List (AK × AV)) := match o with
  | .ok (.ref n) _ => (match A[n]? with
    | some (.dict kvs false) => some (n, kvs)
    | _ => none)
  | _ => none
def sLock (fo : Den AV) (f : SDen) : SDen := fun σ A => match dictAt (fo σ A) A with
  | some (n, kvs) => unlockS n (f σ (A.set n (.dict kvs true)))
  | none => .bad
theorem dictAt_eq {o : Res AV} {A : AHp} {n : Nat} {kvs : List (AK × AV)} (h : dictAt o A = some (n, kvs)) : A[n]? = some (.dict kvs false) := by
  unfold dictAt at h
  split at h
  · split at h
    · rename_i e; cases h; exact e
    · cases h
  · cases h
/-- a dict is put under lock -/
theorem lock_in {A : AHp} {pins : List (Addr × Obj)} {σ : St} {s : Shared} (I : Inv X pins σ H s) (hh : RH E ρ H A) {n : Nat} {kvs : List (AK × AV)} (e : A[n]? = some (.dict kvs false)) :
    ∃ H' a u, ρ[n]? = some a ∧ Inv X pins σ H' s ∧ Ext ρ H ρ H' ∧ H' a = some u ∧ Mut (some u) ∧ (∀ od, fixv a (.frz od u) = false) ∧ (∀ b o, H b = some o → fixd b o = true → b ≠ a) ∧ ∀ od, RH E ρ (upd H' a (.frz od u)) (A.set n (.dict kvs true)) ∧ Ext ρ H ρ (upd H' a (.frz od u)) := by
  obtain ⟨a0, ea0, w0⟩ := hh.get e
  have nfx : ∀ b o, H b = some o → fixd b o = true → b ≠ a0 := fun b o eb f z => by
    subst z
    rw [RO_notFix (o := .dict kvs false) rfl w0 eb] at f
    cases f
  by_cases hk : kvs = []
  · subst hk
    obtain ⟨H', a, ea, I', hh', xt, kv, r, w⟩ := toKind I hh e (.k (.inl 0)) rfl (fun z => nomatch z)
    rw [ea0] at ea
    cases ea
    cases r
    have w : H' a0 = some (.dK []) := w
    refine ⟨H', a0, _, ea0, I', xt, w, trivial, fun _ => rfl, nfx, fun od => ?_⟩
    obtain ⟨z1, z2⟩ := hh'.write (H' := upd H' a0 (.frz od (.dK []))) (o' := .dict [] true) e ea0 (fun b hb => upd_ne hb) fun x => .inl ⟨[], rfl, od, upd_same, fun z => nomatch z⟩
    exact ⟨z1, xt.trans z2⟩
  · rcases w0 with ⟨kv, r, w⟩ | ⟨kv, r, w⟩
    · have w : H a0 = some (.dK kv) := w
      refine ⟨H, a0, _, ea0, I, Ext.refl _ _, w, trivial, fun _ => rfl, nfx, fun od => ?_⟩
      exact hh.write (H' := upd H a0 (.frz od (.dK kv))) (o' := .dict kvs true) e ea0 (fun b hb => upd_ne hb) fun x => .inl ⟨kv, r.ext x, od, upd_same, fun z => nomatch z⟩
    · have w : H a0 = some (.dT kv) := w
      refine ⟨H, a0, _, ea0, I, Ext.refl _ _, w, trivial, fun _ => rfl, nfx, fun od => ?_⟩
      refine hh.write (H' := upd H a0 (.frz od (.dT kv))) (o' := .dict kvs true) e ea0 (fun b hb => upd_ne hb) fun x => .inr ⟨kv, r.ext x, od, upd_same, fun z => ?_⟩
      cases z
      cases kvs with
      | nil => exact hk rfl
      | cons p l => obtain ⟨_, _, _, z, _⟩ := r; cases z
/-- .. and freed -/
theorem lock_out {A2 : AHp} {ρ0 ρ2 : List Addr} {H0 H1 H2 : Hp} {n : Nat} {a : Addr} {u : HO} {od : Obj} {kvs : List (AK × AV)} (ea : ρ0[n]? = some a) (x1 : Ext ρ0 H0 ρ0 (upd H1 a (.frz od u))) (nf : ∀ b o, H0 b = some o → fixd b o = true → b ≠ a) (xt : Ext ρ0 (upd H1 a (.frz od u)) ρ2 H2)
    (rh : RH E ρ2 H2 A2) (e : lockD n A2 = some kvs) : H2 a = some (.frz od u) ∧ RH E ρ2 (upd H2 a u) (A2.set n (.dict kvs false)) ∧ Ext ρ0 H0 ρ2 (upd H2 a u) := by
  have w2 : H2 a = some (.frz od u) := xt.fx a _ upd_same rfl
  refine ⟨w2, rh.unlock e (xt.pre n a ea) w2, fun m b eb => xt.pre m b eb, fun b o eb f => ?_⟩
  have hb := nf b o eb f
  rw [upd_ne hb]
  exact xt.fx b o (x1.fx b o eb f) f
theorem ss_lock {st : Stmt} {fo : Den AV} {f : SDen} (h : SS E X W st f) : SS E X W st (sLock fo f) := by
  refine ⟨fun pins s σ H D I hq => ?_⟩
  obtain ⟨ρ, σa, A, hs, hh, q⟩ := hq
  unfold sLock at q
  cases e : dictAt (fo σa A) A with
  | none => rw [e] at q; exact q.elim
  | some p =>
    obtain ⟨n, kvs⟩ := p
    rw [e] at q
    have q : PostS E (unlockS n (f σa (A.set n (.dict kvs true)))) ρ H D W := q
    obtain ⟨H', a, u, ea, I', x0, w, mu, nv, nf, hl⟩ := lock_in I hh (dictAt_eq e)
    refine (ps_lock h).run pins s σ H' D I' ⟨a, u, w, mu, fun od => ?_⟩
    obtain ⟨rh1, x1⟩ := hl od
    refine ⟨ρ, σa, _, hs.ext x1, rh1, ?_⟩
    cases e1 : f σa (A.set n (.dict kvs true)) with
    | bad => rw [e1] at q; exact q.elim
    | er σ1 c r A2 => rw [e1] at q; exact fun ρ2 H2 σ2 d xt rh rs rx => q ρ2 H2 σ2 d (x1.trans xt) rh rs rx
    | nx σ1 A2 =>
      rw [e1] at q
      unfold unlockS unlA at q
      dsimp only at q
      cases e2 : lockD n A2 with
      | none => rw [e2] at q; exact q.elim
      | some kv2 =>
        rw [e2] at q
        intro ρ2 H2 σ2 xt rh rs
        obtain ⟨g1, g2, g3⟩ := lock_out ea x1 nf xt rh e2
        exact ⟨g1, q ρ2 _ σ2 g3 g2 (rs.unlock g1 (nv od))⟩
    | bk σ1 A2 =>
      rw [e1] at q
      unfold unlockS unlA at q
      dsimp only at q
      cases e2 : lockD n A2 with
      | none => rw [e2] at q; exact q.elim
      | some kv2 =>
        rw [e2] at q
        intro ρ2 H2 σ2 xt rh rs
        obtain ⟨g1, g2, g3⟩ := lock_out ea x1 nf xt rh e2
        exact ⟨g1, q ρ2 _ σ2 g3 g2 (rs.unlock g1 (nv od))⟩
    | ct σ1 A2 =>
      rw [e1] at q
      unfold unlockS unlA at q
      dsimp only at q
      cases e2 : lockD n A2 with
      | none => rw [e2] at q; exact q.elim
      | some kv2 =>
        rw [e2] at q
        intro ρ2 H2 σ2 xt rh rs
        obtain ⟨g1, g2, g3⟩ := lock_out ea x1 nf xt rh e2
        exact ⟨g1, q ρ2 _ σ2 g3 g2 (rs.unlock g1 (nv od))⟩
    | rt v A2 =>
      rw [e1] at q
      unfold unlockS unlA at q
      dsimp only at q
      cases e2 : lockD n A2 with
      | none => rw [e2] at q; exact q.elim
      | some kv2 =>
        rw [e2] at q
        intro ρ2 H2 v' xt rh rv
        obtain ⟨g1, g2, g3⟩ := lock_out ea x1 nf xt rh e2
        refine ⟨g1, q ρ2 _ v' g3 g2 (rv.extV ⟨fun _ _ e => e, fun b o eb f => ?_⟩)⟩
        by_cases hb : b = a
        · subst hb
          rw [g1] at eb
          cases eb
          rw [nv od] at f
          cases f
        · rw [upd_ne hb]; exact eb
def dLock (fo : Den AV) (f : Den AV) : Den AV := fun σ A => match dictAt (fo σ A) A with
  | some (n, kvs) => (match f σ (A.set n (.dict kvs true)) with
    | .ok v A2 => (match unlA n A2 with
      | some A3 => .ok v A3
      | none => .bad)
    | .err c r A2 => .err c r A2
    | .bad => .bad)
  | none => .bad
theorem se_lock {e : Expr} {fo f : Den AV} (h : SE E X W e f) : SE E X W e (dLock fo f) := by
  refine ⟨fun pins s σ H Q I hq => ?_⟩
  obtain ⟨ρ, σa, A, hs, hh, q⟩ := hq
  unfold dLock at q
  cases e : dictAt (fo σa A) A with
  | none => rw [e] at q; exact q.elim
  | some p =>
    obtain ⟨n, kvs⟩ := p
    rw [e] at q
    dsimp only at q
    obtain ⟨H', a, u, ea, I', x0, w, mu, nv, nf, hl⟩ := lock_in I hh (dictAt_eq e)
    refine (pe_lock h).run pins s σ H' Q I' ⟨a, u, w, mu, fun od => ?_⟩
    obtain ⟨rh1, x1⟩ := hl od
    refine ⟨ρ, σa, _, hs.ext x1, rh1, ?_⟩
    cases e1 : f σa (A.set n (.dict kvs true)) with
    | bad => rw [e1] at q; exact q.elim
    | err c r A2 => rw [e1] at q; exact fun ρ2 H2 d xt rh rx => q ρ2 H2 d (x1.trans xt) rh rx
    | ok v A2 =>
      rw [e1] at q
      unfold unlA at q
      dsimp only at q
      cases e2 : lockD n A2 with
      | none => rw [e2] at q; exact q.elim
      | some kv2 =>
        rw [e2] at q
        intro ρ2 H2 v' xt rh rv
        obtain ⟨g1, g2, g3⟩ := lock_out ea x1 nf xt rh e2
        refine ⟨g1, q ρ2 _ v' g3 g2 (rv.extV ⟨fun _ _ e => e, fun b o eb f => ?_⟩)⟩
        by_cases hb : b = a
        · subst hb
          rw [g1] at eb
          cases eb
          rw [nv od] at f
          cases f
        · rw [upd_ne hb]; exact eb
end
end Ev
end
section
/-! Ev, twentieth part: sorted. -/
namespace PySem.W
open PySem PySem.SeqAt PyProof.Rows PySem.Calls
set_option autoImplicit false
section
variable {prog : Program} {w : World} {A : Around} {E : Value → Shared → Prop} {s : Shared}
/-- a tuple's own < , as a sort asks it -/
theorem ev_oneTup {xs ys : List PyData} {a b : Value} {as bs : List Addr} {Q : Bool → Shared → Prop} (ra : Reads s.heap a (.tuple xs) as) (rb : Reads s.heap b (.tuple ys) bs) (hal : alikeAll xs ys = true)
    (hu : A.units + min (PyData.tuple xs).depth (PyData.tuple ys).depth < cLine) (hq : Q (dataLt (.tuple xs) (.tuple ys)) s) : wpAny (model prog w) A (oneLt' true a b) Q E s := by
  cases ra with
  | @tuple l o vs n _ as₁ h1 h2 h3 h4 =>
    cases rb with
    | @tuple l' o' vs' n' _ bs₁ k1 k2 k3 k4 =>
      have n1 : vs.size = xs.length := by simpa using ReadsAll.length _ _ _ h4
      have n2 : vs'.size = ys.length := by simpa using ReadsAll.length _ _ _ k4
      rw [dataLt_tuple, ← firstLt_toks xs ys hal, ← n1, ← n2] at hq
      rw [oneLt'_eq]
      simp only [if_true]
      obtain ⟨oc, od, oda, osl⟩ := o
      obtain ⟨oc', od', oda', osl'⟩ := o'
      dsimp only at h2 h3 k2 k3
      subst h2 h3 k2 k3
      refine wpAny_bind (wpAny_cRoomFor (room_here hu) ?_)
      refine wpAny_bind (wpAny_callSpecialIfBound?_slot (T := "tuple") ⟨_, h1, rfl⟩ F.slot_tuple_lt ?_)
      refine call_meets F.slot_tuple_lt ⟨_, h1, rfl⟩ F.entry_tuple_lt (F.args_tuple_lt_2 _ _) (tuple_ltAt l l' vs vs' n n' od od' osl osl' (pairEq xs ys) (fun j => dataLt (xs.getD j .none) (ys.getD j .none))) ⟨h1, k1, fun j j1 j2 => ?_, fun j j1 j2 hj => ?_, ?_⟩
      · have := eqAt_alikeAll xs ys A.in1 s vs.toList vs'.toList _ _ h4 k4 hal (room_in hu) j (by simpa using j1) (by simpa using j2)
        simpa using this
      · have := rcLt_alikeAll xs ys A.in1 s vs.toList vs'.toList _ _ h4 k4 hal (room_in hu) j (by simpa using j1) (by simpa using j2) hj
        simpa using this
      · exact wpAny_truthy_bool hq
def isNil : PyData → Bool
  | .tuple [] => true
  | _ => false
/-- the first items, where there are any -/
theorem ev_firsts : ∀ {vs : List Value} {ds : List PyData}, EachIs (fun v d => ∃ as, Reads s.heap v d as) vs ds → (∀ d ∈ ds, ∃ xs, d = PyData.tuple xs) →
    ∃ fs : List (Option Value), fs.map (·.isSome) = ds.map (fun d => !isNil d) ∧ ∀ (M : Model) (A : Around) (E : Value → Shared → Prop) (Q : List (Option Value) → Shared → Prop), Q fs s → wpAny M A (vs.mapM firstOfTuple') Q E s
  | _, _, .nil, _ => ⟨[], rfl, fun M A E Q h => by rw [List.mapM_nil]; exact wpAny_pure h⟩
  | _, _, .cons (b := d) ⟨as, r⟩ t, ht => by
    obtain ⟨fs, h1, h2⟩ := ev_firsts t fun d hd => ht d (List.mem_cons_of_mem _ hd)
    obtain ⟨xs, rfl⟩ := ht d List.mem_cons_self
    cases r with
    | @tuple a o us n _ _ ho hc hd hr =>
      refine ⟨us[0]? :: fs, ?_, fun M A E Q h => ?_⟩
      · rw [List.map_cons, List.map_cons, h1]
        congr 1
        have hl : us.size = xs.length := by simpa using ReadsAll.length _ _ _ hr
        cases xs with
        | nil => rw [Array.getElem?_eq_none (by rw [hl]; exact Nat.zero_le _)]; rfl
        | cons x xs => rw [Array.getElem?_eq_getElem (by rw [hl]; exact Nat.succ_pos _)]; rfl
      · rw [List.mapM_cons]
        refine wpAny_bind ?_
        rw [kas_first_eq]
        refine wpAny_bind (Looks.here (show Looks M s.heap (typeOf (.ref a)) o.cls from (Looks.ld ho).andThen .now) ?_)
        rw [hc, if_neg (by first | decide | simp)]
        refine wpAny_bind (listItems_at ho hd (wpAny_pure ?_))
        exact wpAny_bind (h2 M A E (fun bs s' => wpAny M A (pure (us[0]? :: bs)) Q E s') (wpAny_pure h))
theorem ev_sortsTup {vs : List Value} {ds : List PyData} (e : EachIs (fun v d => ∃ as, Reads s.heap v d as) vs ds) (hal : AllAlike ds) (ht : ∀ d ∈ ds, ∃ xs, d = PyData.tuple xs) (hu : ∀ d, d ∈ ds → A.units + d.depth < cLine) : SortsAt prog w A s (dataKind s.heap ds) vs := by
  by_cases hall : ∀ d, d ∈ ds → ∃ x r, d = PyData.tuple (x :: r)
  · exact SortsAt.data e hal (.inl hall) hu
  · have room : ∀ {d d' : PyData}, d ∈ ds → A.units + min d.depth d'.depth < cLine := fun {d d'} hd => Nat.lt_of_le_of_lt (Nat.add_le_add_left (Nat.min_le_left _ _) _) (hu d hd)
    have some_nil : ∃ d ∈ ds, isNil d = true := by
      apply Classical.byContradiction
      intro no
      refine hall fun d hd => ?_
      obtain ⟨xs, rfl⟩ := ht d hd
      cases xs with
      | nil => exact absurd ⟨_, hd, rfl⟩ no
      | cons x r => exact ⟨x, r, rfl⟩
    obtain ⟨fs, f1, f2⟩ := ev_firsts e ht
    have notall : (fs.toArray.all fun x => x.isSome) = false := by
      obtain ⟨d, hd, hn⟩ := some_nil
      rw [List.all_toArray, Bool.eq_false_iff]
      intro hall2
      have q : (fs.map (·.isSome)).all id = true := by rw [List.all_map]; exact hall2
      rw [f1, List.all_map] at q
      have q2 := List.all_eq_true.mp q d hd
      simp [hn] at q2
    refine ⟨fun v hv => ?_, ?_⟩
    · obtain ⟨d, hd, as, r⟩ := e.left v hv
      exact ⟨_, dataKind_some hal hd r⟩
    · cases ds with
      | nil => obtain ⟨d, hd, _⟩ := some_nil; cases hd
      | cons d₀ ds₀ =>
        cases hn : isNil d₀ with
        | false =>
          refine ⟨general', ?_, fun h2 E Q hq => ?_⟩
          · intro E x y a b Q ha hb hq
            obtain ⟨d, as, hd, ra, rfl⟩ := dataKind_inv ha
            obtain ⟨d', as', hd', rb, rfl⟩ := dataKind_inv hb
            refine (show wpAny (model prog w) A (oneLt' false x y) Q E s from ?_)
            refine oneLt_alike (fun z => nomatch z) ra rb (hal d hd d' hd') ?_ (room hd) hq
            obtain ⟨xs, rfl⟩ := ht d hd
            exact fun z => nomatch z
          · rw [keyKind'_eq, List.mapM_toArray, map_eq_pure_bind]
            refine wpAny_bind (wpAny_bind (f2 _ _ _ _ (wpAny_pure ?_)))
            rw [if_neg (by rw [notall]; decide)]
            have h0 : (fs.toArray[0]?.bind id).isSome = true := by
              cases fs with
              | nil => simp at f1
              | cons f fr =>
                simp [hn] at f1
                simp [f1.1]
            rw [if_pos h0]
            exact wpAny_pure hq
        | true =>
          refine ⟨oneType', ?_, fun h2 E Q hq => ?_⟩
          · intro E x y a b Q ha hb hq
            obtain ⟨d, as, hd, ra, rfl⟩ := dataKind_inv ha
            obtain ⟨d', as', hd', rb, rfl⟩ := dataKind_inv hb
            have hdd := hal d hd d' hd'
            have hr := room (d' := d') hd
            obtain ⟨xs, rfl⟩ := ht d hd
            obtain ⟨ys, rfl⟩ := ht d' hd'
            rw [keyLt'_oneType]
            exact ev_oneTup ra rb (by simpa [alike] using hdd) hr hq
          · rw [keyKind'_eq, List.mapM_toArray, map_eq_pure_bind]
            refine wpAny_bind (wpAny_bind (f2 _ _ _ _ (wpAny_pure ?_)))
            rw [if_neg (by rw [notall]; decide)]
            have h0 : ¬ (fs.toArray[0]?.bind id).isSome = true := by
              cases fs with
              | nil => simp at f1
              | cons f fr =>
                simp [hn] at f1
                simp [f1.1]
            rw [if_neg h0]
            rw [oneTypeOnly'_eq, List.mapM_toArray, map_eq_pure_bind]
            refine wpAny_bind (wpAny_bind (wpAny_bind (kas_mapM (r := Value.type "tuple") _ (fun v hv Q' hq => ?_) (wpAny_pure ?_))))
            · obtain ⟨d, hd, as, r⟩ := e.left v hv
              obtain ⟨xs, rfl⟩ := ht d hd
              exact (looks_reads r).here hq
            · cases vs with
              | nil => simp at h2
              | cons v vs =>
                have hall2 : ((List.map (fun _ => Value.type "tuple") (v :: vs)).toArray.all fun x => x == Value.type "tuple") = true := by
                  simp only [List.all_toArray, List.all_map, List.all_eq_true]
                  intro _ _
                  rfl
                have h1 : (List.map (fun _ => Value.type "tuple") (v :: vs)).toArray[0]? = some (Value.type "tuple") := by simp
                rw [h1]
                simp only [hall2, if_true]
                exact wpAny_pure (wpAny_pure hq)
end
end PySem.W
end
section
/-! Ev, part 21: sorted(..). -/
namespace Ev
open PySem PySem.Spec L2
set_option autoImplicit false
def okSort (ds : List PyData) : Bool := (ds.all fun d => ds.all fun d' => PySem.W.alike d d') && ds.all fun d => decide (d.depth ≤ 40) && (match d with
  | .none => false
  | _ => true)
noncomputable def sortL (xs : List AV) (ds : List PyData) : List AV := ((xs.zip ds).mergeSort (PySem.W.dataLe false Prod.snd)).map Prod.fst
noncomputable def sortAV (A : AHp) (xs : List AV) : Option (List AV) := match toDs 40 A xs with
  | some ds => if okSort ds = true then some (sortL xs ds) else none
  | none => none
section
variable {E : En} {X : Cx} {W : WX} {k : Nat} {ρ : List Addr} {H : Hp}
/-- what stands for an item -/
def SRel (E : En) (ρ : List Addr) (H : Hp) (v : Value) (b : AV × PyData) : Prop := ∃ x, RelV x v ∧ RV E ρ H b.1 x
theorem each_of : ∀ {xs : List AV} {us : List V} {vs : List Value} {ds : List PyData}, RVs E ρ H xs us → Vals us vs → ds.length = xs.length → PySem.W.EachIs (SRel E ρ H) vs (xs.zip ds)
  | [], _, _, _, r, v, _ => by cases r; cases v; exact .nil
  | x :: xs, _, _, ds, r, v, hl => by
    obtain ⟨y, ys, rfl, r1, r2⟩ := r
    cases v with
    | cons v1 v2 =>
      cases ds with
      | nil => simp at hl
      | cons d ds => exact .cons ⟨y, v1, r1⟩ (each_of r2 v2 (by simpa using hl))
theorem of_each : ∀ {bs : List (AV × PyData)} {vs : List Value}, PySem.W.EachIs (SRel E ρ H) vs bs → ∃ ws, RVs E ρ H (bs.map Prod.fst) ws ∧ Vals ws vs
  | _, _, .nil => ⟨[], rfl, .nil⟩
  | _, _, .cons ⟨x, h1, h2⟩ t => by
    obtain ⟨ws, g1, g2⟩ := of_each t
    exact ⟨x :: ws, ⟨x, ws, rfl, h2, g1⟩, .cons h1 g2⟩
theorem each_reads {h : Heap} : ∀ {xs : List AV} {vs : List Value} {ds : List PyData} {as : List Addr}, ReadsAll h vs ds as → ds.length = xs.length → PySem.W.EachIs (fun v (b : AV × PyData) => ∃ as, Reads h v b.2 as) vs (xs.zip ds)
  | [], _, _, _, r, hl => by
    cases r with
    | nil => exact .nil
    | cons _ _ => simp at hl
  | x :: xs, _, _, _, r, hl => by
    cases r with
    | nil => simp at hl
    | cons r1 r2 => exact .cons ⟨_, r1⟩ (each_reads r2 (by simpa using hl))
theorem mapO_len {α β : Type} {f : α → Option β} : ∀ {l : List α} {m : List β}, mapO f l = some m → m.length = l.length
  | [], _, e => by cases e; rfl
  | x :: l, m, e => by
    unfold mapO at e
    cases e1 : f x with
    | none => rw [e1] at e; cases e
    | some y =>
      cases e2 : mapO f l with
      | none => rw [e1, e2] at e; cases e
      | some ys =>
        rw [e1, e2] at e
        cases e
        rw [List.length_cons, List.length_cons, mapO_len e2]
theorem sort_at {A : AHp} {pins : List (Addr × Obj)} {σ : St} {s : Shared} (I : Inv X pins σ H s) (hK : X.K = E.K) (hh : RH E ρ H A) {xs ys : List AV} {us : List V} {vs : List Value} (rv : RVs E ρ H xs us) (vl : Vals us vs) (e : sortAV A xs = some ys) {s2 : Shared} (keep : ∀ b o, s.heap.get? b = some o → s2.heap.get? b = some o)
    {A2 : Around} (hu : A2.units + 40 < cLine) : ∃ ds, PySem.W.SortsAt X.prog X.w A2 s2 (PySem.W.dataKind s2.heap ds) vs ∧ ∃ ws, RVs E ρ H ys ws ∧ Vals ws (PySem.W.sortVals (PySem.W.dataKind s2.heap ds) false vs vs) := by
  unfold sortAV at e
  cases e1 : toDs 40 A xs with
  | none => rw [e1] at e; cases e
  | some ds =>
    rw [e1] at e
    dsimp only at e
    split at e
    · rename_i hok
      cases e
      have hl : ds.length = xs.length := mapO_len e1
      have dp := toDs_ok (X := X) hK (k := 40) (A := A) (H := H) (ρ := ρ) (E := E) (fun v v' d e r => toD_ok1 hK hh 40 v v' d e r) _ _ _ e1 rv
      obtain ⟨as, rd⟩ := Dp.readsAll I ds us vs dp vl
      have zs : (xs.zip ds).map Prod.snd = ds := List.map_snd_zip (by omega)
      have er : PySem.W.EachIs (fun v (b : AV × PyData) => ∃ as, Reads s2.heap v b.2 as) vs (xs.zip ds) := PySem.W.EachIs.mono (fun v b ⟨as, r⟩ => ⟨as, PyProof.Rows.Reads.keeps (fun b o q => keep b o q) r⟩) (each_reads rd hl)
      have er2 : PySem.W.EachIs (fun v d => ∃ as, Reads s2.heap v d as) vs ds := by
        have z := PySem.W.each_map (R := fun v d => ∃ as, Reads s2.heap v d as) Prod.snd er
        rw [zs] at z
        exact z
      unfold okSort at hok
      rw [Bool.and_eq_true] at hok
      have hal : PySem.W.AllAlike ds := fun d hd d' hd' => List.all_eq_true.mp (List.all_eq_true.mp hok.1 d hd) d' hd'
      have h2 : ∀ d ∈ ds, d.depth ≤ 40 ∧ d ≠ .none := fun d hd => by
        have z := List.all_eq_true.mp hok.2 d hd
        rw [Bool.and_eq_true] at z
        refine ⟨of_decide_eq_true z.1, ?_⟩
        rintro rfl
        cases z.2
      have hdep : ∀ d, d ∈ ds → A2.units + d.depth < cLine := fun d hd => by have := (h2 d hd).1; omega
      refine ⟨ds, ?_, ?_⟩
      · by_cases ht : ∃ d ∈ ds, ∃ zs, d = PyData.tuple zs
        · obtain ⟨d, hd, zs, rfl⟩ := ht
          refine PySem.W.ev_sortsTup er2 hal (fun d' hd' => ?_) hdep
          have z := hal _ hd d' hd'
          cases d' <;> first | exact ⟨_, rfl⟩ | (simp [PySem.W.alike] at z)
        · exact PySem.W.SortsAt.data er2 hal (.inr fun d hd => ⟨(h2 d hd).2, fun zs ez => ht ⟨d, hd, zs, ez⟩⟩) hdep
      · have z := PySem.W.sortVals_data (enc := Prod.snd) false (each_of rv vl hl) er (by rw [zs]; exact hal)
        rw [zs] at z
        exact of_each z
    · cases e
/-- the keys of a dict, as values -/
def keysA (kvs : List (AK × AV)) : List AV := kvs.map fun p => keyV p.1
noncomputable def fSorted : OpN := fun as A => match as with
  | [.ref n] => (match A[n]? with
    | some (.lst xs _) => (sortAV A xs).map fun ys => (.ref A.length, A ++ [.lst ys false])
    | some (.dict kvs _) => (sortAV A (keysA kvs)).map fun ys => (.ref A.length, A ++ [.lst ys false])
    | _ => none)
  | _ => none
theorem sorted_list {A : AHp} {pins : List (Addr × Obj)} {σ : St} {s : Shared} (c : Ctx E k X W) (I : Inv X pins σ H s) (hh : RH E ρ H A) {xs ys : List AV} {us : List V} {a : Addr} {Q : VK} (rv : RVs E ρ H xs us) (hs : SqL X.K H a us) (e : sortAV A xs = some ys)
    (q : ∀ p ws, H p = none → RVs E ρ H ys ws → Q (.ref p) (upd H p (.lst ws))) : wpAny (model X.prog X.w) X.A (call (.builtin "sorted") [.ref a]) (EP X pins σ Q) X.xe s := by
  obtain ⟨its, vl, hl, hz⟩ := I.list hs
  have hz2 : its.length ≤ sizeLine := by rw [← vl.length]; exact hz
  obtain ⟨ds, S, ws, r1, r2⟩ := sort_at I c.hK hh rv vl e (s2 := { s with heap := PySem.W.sortingHeap (PySem.W.copyHeap s.heap its) (s.heap.objs.size + 1) its }) (fun b o q => PySem.W.sorting_copy_old q) (A2 := X.A.in1.in1) (by
    have := c.hu
    show X.A.units + 1 + 1 + 40 < cLine
    omega)
  have wl : ws.length ≤ sizeLine := by
    rw [r2.length]
    unfold PySem.W.sortVals
    rw [List.length_map, List.length_mergeSort, List.length_zip, Nat.min_self]
    exact hz2
  refine PySem.W.sorted_vals hl.isList S hz2 ?_
  obtain ⟨n, hn⟩ := PyProof.Rows.sortedAll_at s.heap its (PySem.W.sortVals (PySem.W.dataKind (PySem.W.sortingHeap (PySem.W.copyHeap s.heap its) (s.heap.objs.size + 1) its) ds) false its its).toArray
  exact ⟨.ref (s.heap.objs.size + 1), upd H (s.heap.objs.size + 1) (.lst ws), I.laid (t' := s.toks) (fun b o e => PyProof.Rows.sortedAll_old e) (Nat.le_succ _) ⟨wl, _, n, r2, hn⟩, rfl, q _ ws (I.hok.fresh (Nat.le_succ _)) r1⟩
theorem sorted_src {A : AHp} {pins : List (Addr × Obj)} {σ : St} {s : Shared} {r d n : Nat} {T : String} {P : Nat → Value → Prop} {OK : Heap → Prop} (c : Ctx E k X W) (I : Inv X pins σ H s) (hh : RH E ρ H A) (src : PySem.W.KdlSrc X.prog X.w T r d n P OK) (hok : OK s.heap) (hn : n ≤ sizeLine) {xs ys : List AV} {us : List V} {Q : VK}
    (rv : RVs E ρ H xs us) (hv : ∀ acc : Array Value, ItemsOf P acc n → Vals us acc.toList) (e : sortAV A xs = some ys)
    (q : ∀ p ws, H p = none → RVs E ρ H ys ws → Q (.ref p) (upd H p (.lst ws))) : wpAny (model X.prog X.w) X.A (call (.builtin "sorted") [.ref r]) (EP X pins σ Q) X.xe s := by
  refine Calls.call_function_entry PyProof.Rows.kind_sorted PyProof.Rows.plain_sorted PyProof.Rows.entry_sorted (PyProof.Rows.args_sorted1 _) ?_
  unfold Builtin.«sorted»
  refine wpAny_bind (m := checkCount "sorted" 1 1 _) (wpAny_pure ?_)
  refine wpAny_bind (PySem.W.kdu_collect (A := X.A.in1) src (I.ok.hd c.calm) hok hn fun h' tk acc keep items => ?_)
  have vl := hv acc items
  have len : acc.toList.length ≤ sizeLine := by rw [Array.length_toList, items.1]; exact hn
  have I1 : Inv X pins σ H { s with heap := h', toks := tk } := I.kept keep
  refine wpAny_bind (wpAny_newList ?_ len)
  have at_ : (h'.push (PyProof.Rows.seqObj "list" acc.toList.toArray 0)).get? h'.objs.size = some (PyProof.Rows.seqObj "list" acc.toList.toArray 0) := Heap.get?_push_size _ rfl
  have old : ∀ b o, s.heap.get? b = some o → b ≠ h'.objs.size ∧ (h'.push (PyProof.Rows.seqObj "list" acc.toList.toArray 0)).get? b = some o := fun b o e1 => ⟨Nat.ne_of_lt (Heap.lt_size (keep b o e1)), Heap.get?_push_of_some _ (keep b o e1)⟩
  obtain ⟨ds, S, ws, r1, r2⟩ := sort_at I c.hK hh rv vl e (s2 := { s with heap := PySem.W.sortingHeap (h'.push (PyProof.Rows.seqObj "list" acc.toList.toArray 0)) h'.objs.size acc.toList, toks := tk }) (fun b o e1 => PySem.W.sortingHeap_old (old b o e1).1 (old b o e1).2) (A2 := X.A.in1.in1) (by
    have := c.hu
    show X.A.units + 1 + 1 + 40 < cLine
    omega)
  have wl : ws.length ≤ sizeLine := by
    rw [r2.length]
    unfold PySem.W.sortVals
    rw [List.length_map, List.length_mergeSort, List.length_zip, Nat.min_self]
    exact len
  show wpAny _ _ _ _ _ { s with heap := h'.push (PyProof.Rows.seqObj "list" acc.toList.toArray 0), toks := tk }
  refine wpAny_bind (wpAny_holding (wpAny_call_entry PyProof.Rows.slot_list_sort ⟨_, at_, rfl⟩ PyProof.Rows.entry_list_sort
    (PySem.W.list_sort_vals (s := { s with heap := h'.push (PyProof.Rows.seqObj "list" acc.toList.toArray 0), toks := tk }) at_ S len ⟨_, rfl, ?_⟩) (PyProof.Rows.args_list_sort _)))
  obtain ⟨m, hm⟩ := PyProof.Rows.sortedHeap_at (vs := acc.toList) (out := (PySem.W.sortVals (PySem.W.dataKind (PySem.W.sortingHeap (h'.push (PyProof.Rows.seqObj "list" acc.toList.toArray 0)) h'.objs.size acc.toList) ds) false acc.toList acc.toList).toArray) at_
  refine wpAny_pure ⟨_, rfl, .ref h'.objs.size, upd H h'.objs.size (.lst ws), I1.laid (t' := tk) (fun b u e1 => ?_) (Nat.le_refl _) ⟨wl, _, m, r2, hm⟩, rfl, q _ ws (I1.hok.fresh (Nat.le_refl _)) r1⟩
  have hb : b < h'.objs.size := Heap.lt_size e1
  rw [PyProof.Rows.sortedHeap_old (Nat.ne_of_lt hb) (by rw [PyProof.Rows.size_push']; exact Nat.lt_succ_of_lt hb)]
  exact Heap.get?_push_of_some _ e1
theorem rt_keysV : ∀ {l : List (AK × AV)} {m : List (List Key × V)} {bs : List Addr}, RT E ρ H l m → IsKeys H m bs → RVs E ρ H (keysA l) (bs.map V.ref)
  | [], _, _, r, h => by cases r; cases h; rfl
  | (a, b) :: l, _, _, r, h => by
    obtain ⟨k', v', r', rfl, rfl, _, q2⟩ := r
    cases h with
    | cons h1 h2 => exact ⟨_, _, rfl, ⟨_, _, rfl, h1, keysV_rv k'⟩, rt_keysV q2 h2⟩
theorem cs_sorted (c : Ctx E k X W) : CallS E X (.builtin "sorted") fSorted := by
  intro pins s σ H xs us Q I rs h
  obtain ⟨ρ, A, as, hh, r, q⟩ := h
  unfold fSorted at q
  split at q
  · rename_i n
    obtain ⟨y, rfl, ry⟩ := rvs1 r
    obtain ⟨u, rfl, ru⟩ := vals1 rs
    have fin : ∀ {ys : List AV}, PostO E (some (.ref A.length, A ++ [.lst ys false])) ρ H Q → ∀ p ws, H p = none → RVs E ρ H ys ws → Q (.ref p) (upd H p (.lst ws)) := by
      intro ys q p ws hp rw'
      obtain ⟨z1, z2, z3⟩ := newLst hh hp rw'
      exact q _ _ _ z2 z1 z3
    cases e1 : A[n]? with
    | none => rw [e1] at q; exact q.elim
    | some o => cases o with
      | ins _ _ => rw [e1] at q; exact q.elim
      | dn _ => rw [e1] at q; exact q.elim
      | lst zs ro =>
        rw [e1] at q
        dsimp only at q
        cases e2 : sortAV A zs with
        | none => rw [e2] at q; exact q.elim
        | some ys =>
          rw [e2] at q
          obtain ⟨a, ws, ea, rv, w, _⟩ := hh.lst e1
          have ex := RVref ry ea
          subst ex
          obtain rfl : u = Value.ref a := ru
          exact sorted_list c I hh rv (.inl w) e2 (fin q)
      | dict kvs lk =>
        rw [e1] at q
        dsimp only at q
        cases e2 : sortAV A (keysA kvs) with
        | none => rw [e2] at q; exact q.elim
        | some ys =>
          rw [e2] at q
          obtain ⟨a, ea, w⟩ := hh.get e1
          have ex := RVref ry ea
          subst ex
          obtain rfl : u = Value.ref a := ru
          rcases w with ⟨kv, rk, w⟩ | ⟨kv, rt, w⟩
          · have hd := AtD.rd w
            obtain ⟨z, lo, vs, rel, dd⟩ := dk_rd I.hok hd
            obtain ⟨ep, hat⟩ := dd.dictAt
            have hl : kv.length = vs.length := Paired.length rel
            refine sorted_src c I hh (PySem.W.kdl_dict (knd := mixKind X.prog X.w) (kvs := vs) (ep := ep) lo) hat (by rw [← hl]; exact z) (rk_keys rk) (fun acc items => ?_) e2 (fin q)
            have el : acc.toList.length = acc.size := by simp
            refine vals_of_at (by rw [List.length_map, el, items.1, hl]) fun j x w h1 h2 => ?_
            obtain ⟨k1, y1, hky, hi⟩ := items.2 j w (by rw [← Array.getElem?_toList]; exact h2)
            have g1 : (kv.map (·.1))[j]? = some k1 := by
              rw [KV.keys rel, List.getElem?_map, hky]
              rfl
            rw [List.getElem?_map] at h1 g1
            cases g0 : kv[j]? with
            | none => rw [g0] at g1; cases g1
            | some pr =>
              rw [g0] at h1 g1
              cases g1
              cases h1
              exact keyIs_rel hi
          · have hd := AtD.rd w
            obtain ⟨z, lo, ks, pr, o, es, ep, ho, hx, hdt, he, hn⟩ := (show ObjOk X.prog X.w H s.heap a (.dT kv) from hd.ok I.hok)
            have l1 : es.size = ks.length := size_of_entries he
            have l2 : kv.length = ks.length := Paired.length pr
            refine sorted_src c I hh (kdl_raw lo hx hdt) ho (by omega) (rt_keysV rt (isKeys_of pr)) (fun acc items => ?_) e2 (fin q)
            have ea2 : acc.toList = (ks.map fun x => x.2.1).map Value.ref := by
              have hl : acc.toList.length = ks.length := by rw [Array.length_toList, items.1]; exact l1
              apply List.ext_getElem?
              intro j
              rw [List.getElem?_map, List.getElem?_map]
              cases hj : acc.toList[j]? with
              | none =>
                have h1 := List.getElem?_eq_none_iff.mp hj
                rw [List.getElem?_eq_none (by omega)]
                rfl
              | some v =>
                obtain ⟨en, hen, hv⟩ := items.2 j v (by rw [← Array.getElem?_toList]; exact hj)
                have qe := entry_at he j
                rw [hen] at qe
                cases hb : ks[j]? with
                | none => rw [hb] at qe; cases qe
                | some b =>
                  rw [hb] at qe
                  cases qe
                  rw [hv]
                  rfl
            rw [ea2]
            exact vals_refs _
  · exact q.elim
end
end Ev
end
section
/-! Ev, part 22: d.update(pairs). -/
namespace Ev
open PySem PySem.Spec L2
set_option autoImplicit false
/-- the tuples of an abstract heap alone -/
def tupsOf (H : Hp) : Hp := fun a => match H a with
  | some (.tup xs) => some (.tup xs)
  | _ => none
theorem tupsOf_at {H : Hp} {a : Addr} {xs : List V} (e : H a = some (.tup xs)) : tupsOf H a = some (.tup xs) := by
  unfold tupsOf
  rw [e]
theorem tupsOf_eq {H : Hp} {a : Addr} {o : HO} (e : tupsOf H a = some o) : ∃ xs, o = .tup xs ∧ H a = some (.tup xs) := by
  unfold tupsOf at e
  split at e
  · rename_i e1; cases e; exact ⟨_, rfl, e1⟩
  · cases e
theorem tups_ok {P : Program} {w : World} {H : Hp} {h : Heap} (ok : HOk P w H h) : HOk P w (tupsOf H) h := by
  intro a o e
  obtain ⟨xs, rfl, e1⟩ := tupsOf_eq e
  exact ok a _ e1
theorem tups_keep {P : Program} {w : World} {H : Hp} {h h' : Heap} (ok : HOk P w (tupsOf H) h) (k : ∀ a o xs, H a = some (.tup xs) → h.get? a = some o → h'.get? a = some o) : HOk P w (tupsOf H) h' := by
  intro a o e
  obtain ⟨xs, rfl, e1⟩ := tupsOf_eq e
  obtain ⟨z, its, r, oo, h1, h2, n, h3⟩ := ok a _ e
  exact ⟨z, its, r, oo, k a oo xs e1 h1, h2, n, h3⟩
theorem kt_mem {H : Hp} : ∀ {kvs : List (List Key × V)} {xs : List (List Key × Addr × Value)}, KT H kvs xs → ∀ x ∈ xs, H x.2.1 = some (.tup (x.1.map kV))
  | _, _, .nil, _, h => by cases h
  | _, _, .cons (a := p) (b := q) h t, x, hx => by
    rcases List.mem_cons.mp hx with rfl | hx
    · rw [← h.1]; exact h.2.1
    · exact kt_mem t x hx
section
variable {prog : Program} {w : World} {A : Around}
/-- the loop of update over tuple keys -/
theorem updT_loop {H : Hp} {R : Result → Shared → Prop} {S I l : Addr} {items : Array Value} {res : Value} (hh : A.handled = none) (hu : A.units + 1 < cLine) (hlI : l ≠ I) (hSI : S ≠ I) (hSl : S ≠ l) (nS : ∀ a xs, H a = some (.tup xs) → a ≠ S) (nI : ∀ a xs, H a = some (.tup xs) → a ≠ I) :
    ∀ (rest : List (List Key × V)) (i : Nat) (kvs : List (List Key × V)) (xs : List (List Key × Addr × Value)) (ix : Int) (t : Tok) (s : Shared), items.size = i + rest.length → kvs.length + rest.length ≤ sizeLine → KT H kvs xs →
      (∀ (j : Nat) (q : List Key × V), rest[j]? = some q → ∃ (b ka : Addr), items[i + j]? = some (.ref b) ∧ H b = some (.tup [.ref ka, q.2]) ∧ H ka = some (.tup (q.1.map kV))) →
      HOk prog w (tupsOf H) s.heap → s.heap.IsListIter I l i → s.heap.IsList l items → s.heap.DictOfH (tupleKind (mixKind prog w)) S xs →
      (∀ h' tk ys, KT H (rest.foldl (fun acc q => putK acc q.1 q.2) kvs) ys → h'.DictOfH (tupleKind (mixKind prog w)) S ys → (∀ b o, b ≠ S → b ≠ I → s.heap.get? b = some o → h'.get? b = some o) → R (.ok (.ret res)) { s with heap := h', toks := tk }) →
      codeAny (model prog w) A (.builtin "dict.update.loop" ⟨[.ref S, .ref I, .int ix t, res], []⟩) R s
  | [], i, kvs, xs, ix, t, s, hsz, hln, rel, ht, ok, hit, hl, hm, hR => by
    refine codeAny_builtin ud_entry ?_
    rw [Around.under_plainId ud_plain _]
    show wpAny _ A.in1 (pyNext (.ref I) >>= _) _ _ s
    have past : items[i]? = none := Array.getElem?_eq_none (by rw [hsz]; exact Nat.le_refl _)
    refine wpAny_bind (wpAny_pyNext_list_end (A := A.in1) hh hit hl past fun h' he => ?_)
    show wpAny _ A.in1 (Builtin.Dict.addKeywords S [] >>= _) _ _ _
    refine wpAny_bind (wpAny_pure (wpAny_pure ?_))
    refine hR h' s.toks xs rel ?_ fun b o _ hb e => he b o hb e
    obtain ⟨o, es, ep, h1, h2, h3, h4, h5, h6⟩ := hm
    refine ⟨o, es, ep, he S o hSI h1, h2, h3, h4, fun x hx => ?_, h6⟩
    exact key_of (tups_keep ok fun a o xs e q => he a o (nI a xs e) q) (tupsOf_at (kt_mem rel x hx))
  | q :: rest, i, kvs, xs, ix, t, s, hsz, hln, rel, ht, ok, hit, hl, hm, hR => by
    obtain ⟨b, ka, hb, ht1, hk1⟩ := ht 0 q rfl
    rw [List.length_cons] at hsz hln
    refine codeAny_builtin ud_entry ?_
    rw [Around.under_plainId ud_plain _]
    show wpAny _ A.in1 (pyNext (.ref I) >>= _) _ _ s
    refine wpAny_bind (wpAny_pyNext_list_item (x := .ref b) hit hl (by simpa using hb) fun h1 hit1 but1 => ?_)
    have ok1 : HOk prog w (tupsOf H) h1 := tups_keep ok fun a o xs e q => (but1.2 a (nI a xs e)).trans q
    have hl1 : h1.IsList l items := hl.extBut but1.extBut hlI
    have hm1 : h1.DictOfH (tupleKind (mixKind prog w)) S xs := by
      obtain ⟨o, es, ep, g1, g2, g3, g4, g5, g6⟩ := hm
      exact ⟨o, es, ep, (but1.2 S hSI).trans g1, g2, g3, g4, fun x hx => key_of ok1 (tupsOf_at (kt_mem rel x hx)), g6⟩
    obtain ⟨_, its, rv, o, ho, hc, n, hd⟩ := ok1 b _ (tupsOf_at ht1)
    obtain ⟨u1, u, rfl, r1, ru⟩ := vals2 rv
    obtain rfl : u1 = Value.ref ka := r1
    show wpAny _ A.in1 (holding [Value.ref b] _ >>= _) _ _ _
    refine wpAny_bind (wpAny_holding ?_)
    refine wpAny_bind (wpAny_tryCatch ?_)
    unfold Builtin.Dict.pairItems
    refine wpAny_bind (wpAny_typeOf (T := "tuple") ⟨o, ho, hc⟩ ?_)
    rw [if_pos (by first | decide | rfl | simp)]
    refine wpAny_bind (wpAny_seqItems ho hd (wpAny_pure ?_))
    show wpAny _ A.in1 (holding [Value.ref ka, u] (dictSet S (.ref ka) u)) _ _ _
    have lx : xs.length = kvs.length := (Paired.length rel).symm
    refine wpAny_holding (wpAny_dictSet_heap (k := q.1) (xs := xs) (tupleKind_room_in1 hu) (key_of ok1 (tupsOf_at hk1)) hm1 (fun h2 hm2 but2 => ?_) (by omega))
    have ok2 : HOk prog w (tupsOf H) h2 := tups_keep ok1 fun a o xs e q => (but2.2 a (nS a xs e)).trans q
    refine wpAny_pure ⟨plainId_quiet ud_plain _, updT_loop (items := items) hh hu hlI hSI hSl nS nI rest (i + 1) (putK kvs q.1 q.2) (storedH xs q.1 ka u) (ix + 1) 0 _ (show items.size = i + 1 + rest.length by omega) ?_ (rel.put q.1 hk1 ru) (fun j q' e => ?_) ok2 ?_ ?_ hm2 fun h' tk ys hr hd' k => ?_⟩
    · have z := length_putK kvs q.1 q.2
      omega
    · obtain ⟨b', ka', hb', x1, x2⟩ := ht (j + 1) q' (by simpa using e)
      refine ⟨b', ka', ?_, x1, x2⟩
      rw [show i + 1 + j = i + (j + 1) by omega]
      exact hb'
    · exact hit1.at fun o' e => (but2.2 I (Ne.symm hSI)).trans e
    · exact hl1.extBut but2.extBut (Ne.symm hSl)
    · exact hR h' tk ys hr hd' fun c oc h3 h4 e => k c oc h3 h4 ((but2.2 c h3).trans ((but1.2 c h4).trans e))
end
/-- pairs, as update and dict take them -/
def pairsA : List AV → Option (List (AK × AV))
  | [] => some []
  | x :: xs => match x with
    | .tup [a, b] => (match keyOf a, pairsA xs with
      | some k, some r => some ((k, b) :: r)
      | _, _ => none)
    | _ => none
def updA (kvs ps : List (AK × AV)) : List (AK × AV) := ps.foldl (fun acc p => putA acc p.1 p.2) kvs
def mUpd : OpM := fun o as A => match o, as with
  | .ref n, [.ref m] => (match A[n]?, A[m]? with
    | some (.dict kvs false), some (.lst xs false) => (match pairsA xs with
      | some ps => if (ps.all fun p => kindA (kvs ++ ps) p.1) = true ∧ kvs.length + ps.length ≤ sizeLine then some (.non, A.set n (.dict (updA kvs ps) false)) else none
      | none => none)
    | _, _ => none)
  | _, _ => none
section
variable {E : En} {X : Cx} {W : WX} {k : Nat} {ρ : List Addr} {H : Hp}
theorem pairsA_len : ∀ {xs : List AV} {ps : List (AK × AV)}, pairsA xs = some ps → ps.length = xs.length
  | [], _, e => by cases e; rfl
  | x :: xs, ps, e => by
    unfold pairsA at e
    split at e
    · split at e
      · rename_i e2
        cases e
        rw [List.length_cons, List.length_cons, pairsA_len e2]
      · cases e
    · cases e
/-- the pairs where they stand: T keys -/
def PairT (H : Hp) (q : List Key × V) (y : V) : Prop := ∃ b ka, y = .ref b ∧ H b = some (.tup [.ref ka, q.2]) ∧ H ka = some (.tup (q.1.map kV))
def PairK (H : Hp) (q : Key × V) (y : V) : Prop := ∃ b, y = .ref b ∧ H b = some (.tup [kV q.1, q.2])
theorem pairs_t : ∀ {xs : List AV} {us : List V} {ps : List (AK × AV)}, pairsA xs = some ps → RVs E ρ H xs us → (∀ p ∈ ps, ∃ ks, p.1 = .t ks) → ∃ qs : List (List Key × V), Paired (PairT H) qs us ∧ RT E ρ H ps qs
  | [], _, _, e, r, _ => by cases r; cases e; exact ⟨[], .nil, rfl⟩
  | x :: xs, _, ps, e, r, hk => by
    obtain ⟨y, ys, rfl, r1, r2⟩ := r
    unfold pairsA at e
    split at e
    · rename_i a b
      split at e
      · rename_i k1 r0 e1 e2
        cases e
        obtain ⟨ks, ek⟩ := hk _ List.mem_cons_self
        have ek : k1 = .t ks := ek
        subst ek
        obtain ⟨qs, g1, g2⟩ := pairs_t e2 r2 fun p hp => hk p (List.mem_cons_of_mem _ hp)
        obtain ⟨c, zs, rfl, hc, r3⟩ := r1
        obtain ⟨y1, y2, rfl, r4, r5⟩ := rvs2 r3
        obtain ⟨ka, rfl, hka⟩ := keyOf_t e1 r4
        exact ⟨(ks, y2) :: qs, .cons ⟨c, ka, rfl, hc, hka⟩ g1, ks, y2, qs, rfl, rfl, r5, g2⟩
      · cases e
    · cases e
theorem pairs_k : ∀ {xs : List AV} {us : List V} {ps : List (AK × AV)}, pairsA xs = some ps → RVs E ρ H xs us → (∀ p ∈ ps, ∃ ks, p.1 = .k ks) → ∃ qs : List (Key × V), Paired (PairK H) qs us ∧ RK E ρ H ps qs
  | [], _, _, e, r, _ => by cases r; cases e; exact ⟨[], .nil, rfl⟩
  | x :: xs, _, ps, e, r, hk => by
    obtain ⟨y, ys, rfl, r1, r2⟩ := r
    unfold pairsA at e
    split at e
    · rename_i a b
      split at e
      · rename_i k1 r0 e1 e2
        cases e
        obtain ⟨ks, ek⟩ := hk _ List.mem_cons_self
        have ek : k1 = .k ks := ek
        subst ek
        obtain ⟨qs, g1, g2⟩ := pairs_k e2 r2 fun p hp => hk p (List.mem_cons_of_mem _ hp)
        obtain ⟨c, zs, rfl, hc, r3⟩ := r1
        obtain ⟨y1, y2, rfl, r4, r5⟩ := rvs2 r3
        have ey := keyOf_k e1 r4
        subst ey
        exact ⟨(ks, y2) :: qs, .cons ⟨c, rfl, hc⟩ g1, ks, y2, qs, rfl, rfl, r5, g2⟩
      · cases e
    · cases e
theorem paired_at {α β : Type} {F : α → β → Prop} : ∀ {l : List α} {m : List β} {j : Nat} {a : α}, Paired F l m → l[j]? = some a → ∃ b, m[j]? = some b ∧ F a b
  | _, _, j, a, .nil, e => by simp at e
  | _, _, 0, a, .cons h t, e => by simp at e; subst e; exact ⟨_, rfl, h⟩
  | _, _, j + 1, a, .cons h t, e => by
    obtain ⟨b, h1, h2⟩ := paired_at (j := j) t (by simpa using e)
    exact ⟨b, by simpa using h1, h2⟩
theorem rk_upd : ∀ {ps : List (AK × AV)} {qs : List (Key × V)} {kvs : List (AK × AV)} {m : List (Key × V)}, RK E ρ H ps qs → RK E ρ H kvs m → RK E ρ H (updA kvs ps) (qs.foldl (fun acc q => putK acc q.1 q.2) m)
  | [], _, _, _, r, h => by cases r; exact h
  | (a, b) :: ps, _, _, _, r, h => by
    obtain ⟨k', v', r', rfl, rfl, q1, q2⟩ := r
    exact (show RK E ρ H (updA (putA _ (.k k') b) ps) (r'.foldl (fun acc q => putK acc q.1 q.2) (putK _ k' v')) from rk_upd q2 (rk_putA h k' q1))
theorem rt_upd : ∀ {ps : List (AK × AV)} {qs : List (List Key × V)} {kvs : List (AK × AV)} {m : List (List Key × V)}, RT E ρ H ps qs → RT E ρ H kvs m → RT E ρ H (updA kvs ps) (qs.foldl (fun acc q => putK acc q.1 q.2) m)
  | [], _, _, _, r, h => by cases r; exact h
  | (a, b) :: ps, _, _, _, r, h => by
    obtain ⟨k', v', r', rfl, rfl, q1, q2⟩ := r
    exact (show RT E ρ H (updA (putA _ (.t k') b) ps) (r'.foldl (fun acc q => putK acc q.1 q.2) (putK _ k' v')) from rt_upd q2 (rt_putA h k' q1))
/-- d.update(l) up to the loop -/
theorem upd_enter {pins : List (Addr × Obj)} {σ : St} {s : Shared} (hc : X.calm = true) (I : Inv X pins σ H s) {d l : Addr} {us : List V} {Q : VK} (hT : ∀ (s1 : Shared), (∀ b o, s.heap.get? b = some o → s1.heap.get? b = some o) → s1.TypeIs (.ref d) "dict") (hl : H l = some (.lst us))
    (go : ∀ (hp : Heap) (tk : Nat) (It : Addr) (its : List Value), Vals us its → H It = none → (∀ b o, s.heap.get? b = some o → b ≠ It) → hp.IsListIter It l 0 → hp.IsList l its.toArray → (∀ b o, s.heap.get? b = some o → hp.get? b = some o) →
      codeAny (model X.prog X.w) X.A (.builtin "dict.update.loop" ⟨[.ref d, .ref It, .int 0 0, .none], []⟩) (fun r s' => match r with
        | .ok (.ret v) => EP X pins σ Q v s'
        | .ok _ => False
        | .error e => X.xe e s') { s with heap := hp, toks := tk }) :
    wpAny (model X.prog X.w) X.A (call (.builtin "dict.update") [.ref d, .ref l]) (EP X pins σ Q) X.xe s := by
  have hT0 := hT s fun _ _ e => e
  obtain ⟨z, its, n, rv, ho⟩ := (show ObjOk X.prog X.w H s.heap l (.lst us) from I.hok l _ hl)
  refine wpAny_call (codeAny_call_builtin PySem.F.slot_dict_update.plain PySem.F.entry_dict_update (PySem.F.slot_dict_update.check _ _ _ _ _ _ _ _ hT0 (PySem.F.args_dict_update_2 _ _) ?_))
  unfold Builtin.«dict.update»
  refine wpAny_bind ?_
  unfold Builtin.Dict.selfAndRest
  refine wpAny_bind (wpAny_notOrdered_dict hT0 ?_)
  show wpAny _ _ (pure (d, [Value.ref l])) _ _ _
  refine wpAny_pure ?_
  show wpAny _ _ (Builtin.Dict.updateFrom "dict.update" d (.ref l) [] .none) _ _ _
  unfold Builtin.Dict.updateFrom
  refine wpAny_bind (wpAny_typeOf (T := "list") ⟨_, ho, rfl⟩ ?_)
  rw [if_pos (by first | decide | rfl | simp)]
  refine wpAny_bind (miss_list ho rfl rfl rfl (I.ok.hd hc) fun h1 tk1 k1 => ?_)
  rw [if_pos (show (none : Option Value).isNone = true from rfl)]
  refine wpAny_bind (wpAny_rule ?_)
  have l1 : h1.IsList l its.toArray := ⟨_, k1 _ _ ho, rfl, n, rfl⟩
  refine wpAny_bind (wpAny_pyIter_list l1 ?_)
  have k2 : ∀ b o, h1.get? b = some o → (h1.push { cls := .type "list_iterator", data := .fields #[.ref l, .int 0 0] }).get? b = some o := fun b o e => Heap.get?_push_of_some _ e
  have I1 : Inv X pins σ H { s with heap := h1, toks := tk1 } := I.kept k1
  have key := go (h1.push { cls := .type "list_iterator", data := .fields #[.ref l, .int 0 0] }) tk1 h1.objs.size its rv (I1.hok.fresh (Nat.le_refl _)) (fun b o e => Nat.ne_of_lt (Heap.lt_size (k1 b o e))) ⟨_, Heap.get?_push_size _ rfl, rfl, rfl⟩ (l1.at fun o e => k2 _ _ e) fun b o e => k2 _ _ (k1 _ _ e)
  first
    | exact wpAny_pure ⟨plainId_quiet ud_plain _, key⟩
    | exact wpAny_bind (wpAny_pure (wpAny_pure ⟨plainId_quiet ud_plain _, key⟩))
theorem upd_T {pins : List (Addr × Obj)} {σ : St} {s : Shared} (c : Ctx E k X W) (I : Inv X pins σ H s) {d l : Addr} {kv qs : List (List Key × V)} {us : List V} {Q : VK} (w : H d = some (.dT kv)) (wl : H l = some (.lst us)) (pq : Paired (PairT H) qs us) (hz : kv.length + qs.length ≤ sizeLine)
    (q : Q .non (upd H d (.dT (qs.foldl (fun acc q => putK acc q.1 q.2) kv)))) : wpAny (model X.prog X.w) X.A (call (.builtin "dict.update") [.ref d, .ref l]) (EP X pins σ Q) X.xe s := by
  obtain ⟨z, hd, xs, rel, o, es, ep, h1, h2, h3, h4, h5, h6⟩ := dt_of I.hok w
  refine upd_enter c.calm I (fun s1 keep => ⟨o, keep _ _ h1, h2.1⟩) wl fun hp tk It its vl nIt oldNe it il keep => ?_
  have okT : HOk X.prog X.w (tupsOf H) hp := tups_keep (tups_ok I.hok) fun a o xs _ e => keep a o e
  have ol : ∃ o, s.heap.get? l = some o := let ⟨_, its, n, _, e⟩ := (show ObjOk X.prog X.w H s.heap l (.lst us) from I.hok l _ wl); ⟨_, e⟩
  obtain ⟨ol, hol⟩ := ol
  refine updT_loop (H := H) (I.ok.hd c.calm) c.hu1 (oldNe l ol hol) (oldNe d o h1) (ne_of w wl fun z => nomatch z) (fun a xs e => ne_of e w fun z => nomatch z) (fun a xs e => ne_of_none e nIt) qs 0 kv xs 0 0 { s with heap := hp, toks := tk } ?_ hz rel ?_ okT it il
    ⟨o, es, ep, keep _ _ h1, h2, h3, h4, fun x hx => key_of okT (tupsOf_at (kt_mem rel x hx)), h6⟩ fun h' tk' ys hr hd' kk => ?_
  · rw [List.size_toArray, ← vl.length, ← Paired.length pq, Nat.zero_add]
  · intro j p e
    obtain ⟨y, ey, b, ka, rfl, e1, e2⟩ := paired_at pq e
    obtain ⟨u, eu, ru⟩ := vl.get ey
    obtain rfl : u = Value.ref b := ru
    exact ⟨b, ka, by rw [Nat.zero_add, List.getElem?_toArray]; exact eu, e1, e2⟩
  · obtain ⟨o', es', ep', g1, g2, g3, g4, _, g6⟩ := hd'
    refine ⟨.non, _, I.write (x := d) (e := d) (t' := tk') (h' := h') (by rw [w]; exact True.intro) (.inl rfl) (fun b u hb e => kk b u hb (oldNe b u e) (keep b u e)) ⟨o', g1⟩ (show ObjOk X.prog X.w (upd H d (.dT (qs.foldl (fun acc q => putK acc q.1 q.2) kv))) h' d (.dT (qs.foldl (fun acc q => putK acc q.1 q.2) kv)) from ⟨?_, hd, ys, KT.keeps hr fun c ys ec => ?_, o', es', ep', g1, g2, g3, g4, g6⟩), rfl, q⟩
    · have : ∀ (l : List (List Key × V)) (m : List (List Key × V)), (l.foldl (fun acc q => putK acc q.1 q.2) m).length ≤ m.length + l.length := by
        intro l
        induction l with
        | nil => intro m; exact Nat.le_refl _
        | cons a l ih =>
          intro m
          have h1 := ih (putK m a.1 a.2)
          have h2 := length_putK m a.1 a.2
          rw [List.foldl_cons, List.length_cons]
          omega
      exact Nat.le_trans (this qs kv) hz
    · rw [upd_ne (ne_of ec w (fun z => nomatch z))]
      exact ec
theorem upd_K {pins : List (Addr × Obj)} {σ : St} {s : Shared} (c : Ctx E k X W) (I : Inv X pins σ H s) {d l : Addr} {kv qs : List (Key × V)} {us : List V} {Q : VK} (w : H d = some (.dK kv)) (wl : H l = some (.lst us)) (pq : Paired (PairK H) qs us) (hz : kv.length + qs.length ≤ sizeLine)
    (q : Q .non (upd H d (.dK (qs.foldl (fun acc q => putK acc q.1 q.2) kv)))) : wpAny (model X.prog X.w) X.A (call (.builtin "dict.update") [.ref d, .ref l]) (EP X pins σ Q) X.xe s := by
  obtain ⟨z, hd, vs, rel, dd⟩ := dk_of I.hok w
  obtain ⟨o, es, ep, h1, h2, h3⟩ := id dd
  refine upd_enter c.calm I (fun s1 keep => ⟨o, keep _ _ h1, h2.1⟩) wl fun hp tk It its vl nIt oldNe it il keep => ?_
  have ol : ∃ o, s.heap.get? l = some o := let ⟨_, its, n, _, e⟩ := (show ObjOk X.prog X.w H s.heap l (.lst us) from I.hok l _ wl); ⟨_, e⟩
  obtain ⟨ol, hol⟩ := ol
  have ddp : hp.DictOf (mixKind X.prog X.w) d vs := dd.at fun o e => keep _ _ e
  -- the pairs as values
  have prs : ∀ {qs : List (Key × V)} {us : List V} {its : List Value}, Paired (PairK H) qs us → Vals us its → ∃ prs : List (Key × Value), KV qs prs ∧ prs.length = its.length ∧ ∀ (j : Nat) (p : Key × Value), prs[j]? = some p → ∃ (b : Addr) (u : Value), its[j]? = some (.ref b) ∧ (∃ xs, H b = some (.tup xs)) ∧ PyProof.Rows.IsTup s.heap b #[u, p.2] ∧ keyIs p.1 u = true := by
    intro qs us its hp
    induction hp generalizing its with
    | nil => intro v; cases v; exact ⟨[], .nil, rfl, fun j p e => by simp at e⟩
    | @cons q0 y0 qs us h t ih =>
      intro v
      cases v with
      | cons v1 v2 =>
        rename_i u0 us0
        obtain ⟨prs, g1, g2, g3⟩ := ih v2
        obtain ⟨b, rfl, hb⟩ := h
        obtain rfl : u0 = Value.ref b := v1
        obtain ⟨_, its2, r2, isT⟩ := (show ObjOk X.prog X.w H s.heap b (.tup [kV q0.1, q0.2]) from I.hok b _ hb)
        obtain ⟨w1, w2, rfl, r3, r4⟩ := vals2 r2
        refine ⟨(q0.1, w2) :: prs, .cons ⟨rfl, r4⟩ g1, by rw [List.length_cons, List.length_cons, g2], fun j p e => ?_⟩
        cases j with
        | zero =>
          have e' : (q0.1, w2) = p := Option.some.inj e
          subst e'
          exact ⟨b, w1, rfl, ⟨_, hb⟩, isT, kV_is (P := X.prog) (w := X.w) r3⟩
        | succ j =>
          obtain ⟨b', u', x1, x2, x3, x4⟩ := g3 j p (by simpa using e)
          exact ⟨b', u', by simpa using x1, x2, x3, x4⟩
  obtain ⟨ps, g1, g2, g3⟩ := prs pq vl
  have lq : qs.length = ps.length := Paired.length g1
  have lk : kv.length = vs.length := rel.length
  refine upd_loop (prog := X.prog) (w := X.w) (A := X.A) (S := d) (I := It) (l := l) (items := its.toArray) (res := Value.none) (I.ok.hd c.calm) (oldNe l ol hol) (oldNe d o h1) (ne_of w wl fun z => nomatch z) ps 0 vs 0 0 { s with heap := hp, toks := tk } ?_ (by omega) ?_ it il ddp fun h' tk' hd' kk => ?_
  · rw [List.size_toArray, g2, Nat.zero_add]
  · intro j p e
    obtain ⟨b, u, x1, ⟨xs, x2⟩, x3, x4⟩ := g3 j p e
    exact ⟨b, u, by rw [Nat.zero_add, List.getElem?_toArray]; exact x1, ne_of x2 w (fun z => nomatch z), ne_of_none x2 nIt, x3.keeps fun c o e => keep c o e, x4⟩
  · have hl : ∀ (l m : List (Key × V)), (l.foldl (fun acc q => putK acc q.1 q.2) m).length ≤ m.length + l.length := by
      intro l
      induction l with
      | nil => intro m; exact Nat.le_refl _
      | cons a l ih =>
        intro m
        have h1 := ih (putK m a.1 a.2)
        have h2 := length_putK m a.1 a.2
        rw [List.foldl_cons, List.length_cons]
        omega
    have mg : ∀ {qs : List (Key × V)} {ps : List (Key × Value)} {kv : List (Key × V)} {vs : List (Key × Value)}, KV qs ps → KV kv vs → KV (qs.foldl (fun acc q => putK acc q.1 q.2) kv) (merged vs ps) := by
      intro qs ps kv vs h
      induction h generalizing kv vs with
      | nil => intro r; exact r
      | @cons a b qs ps h t ih =>
        intro r
        obtain ⟨ka, va⟩ := a
        obtain ⟨kb, vb⟩ := b
        obtain ⟨e1, e2⟩ := h
        have e1 : ka = kb := e1
        subst e1
        exact ih (r.put ka e2)
    have he : ∃ q, h'.get? d = some q := let ⟨q, _, _, hq, _⟩ := hd'; ⟨q, hq⟩
    exact ⟨.non, _, I.write (x := d) (e := d) (t' := tk') (h' := h') (by rw [w]; exact True.intro) (.inl rfl) (fun b u hb e => kk b u hb (oldNe b u e) (keep b u e)) he (dk_new (Nat.le_trans (hl qs kv) hz) hd (mg g1 rel) hd'), rfl, q⟩
theorem kind_cons {kvs ps : List (AK × AV)} {p0 : AK × AV} (h : ((p0 :: ps).all fun p => kindA (kvs ++ p0 :: ps) p.1) = true) : kindA kvs p0.1 = true ∧ ∀ p ∈ p0 :: ps, (∀ ks, p0.1 = .t ks → ∃ ks', p.1 = .t ks') ∧ ∀ ks, p0.1 = .k ks → ∃ ks', p.1 = .k ks' := by
  have h0 := List.all_eq_true.mp h p0 List.mem_cons_self
  unfold kindA at h0
  rw [List.all_append, Bool.and_eq_true] at h0
  refine ⟨h0.1, fun p hp => ?_⟩
  have z := List.all_eq_true.mp h0.2 p hp
  cases e2 : p0.1 with
  | k a => cases e1 : p.1 with
    | k b => exact ⟨fun _ q => (nomatch q), fun _ _ => ⟨_, rfl⟩⟩
    | t b => rw [e1, e2] at z; cases z
  | t a => cases e1 : p.1 with
    | t b => exact ⟨fun _ _ => ⟨_, rfl⟩, fun _ q => (nomatch q)⟩
    | k b => rw [e1, e2] at z; cases z
theorem ms_upd (c : Ctx E k X W) : MtS E X "dict.update" mUpd := by
  intro pins s σ H x xs v us Q I rx rs hq
  obtain ⟨ρ, A, a, as, hh, ra, r, q⟩ := hq
  unfold mUpd at q
  split at q
  · rename_i n m
    split at q
    · rename_i kvs xs1 e1 e2
      split at q
      · rename_i ps ep
        split at q
        · rename_i hz
          obtain ⟨y, rfl, ry⟩ := rvs1 r
          obtain ⟨u1, rfl, g1⟩ := vals1 rs
          have lps := pairsA_len ep
          have main : ∀ {H1 : Hp} {a1 : Addr} (ky : AK), (∀ p ∈ ps, (∀ ks, ky = .t ks → ∃ ks', p.1 = .t ks') ∧ ∀ ks, ky = .k ks → ∃ ks', p.1 = .k ks') → ρ[n]? = some a1 → Inv X pins σ H1 s → RH E ρ H1 A → Ext ρ H ρ H1 → AsK E ρ H1 kvs ky a1 false →
              wpAny (model X.prog X.w) X.A (call (.builtin "dict.update") [v, u1]) (EP X pins σ Q) X.xe s := by
            intro H1 a1 ky hky ea I1 hh1 xt as
            have ex := RVref ra ea
            subst ex
            obtain rfl : v = Value.ref a1 := rx
            obtain ⟨a2, us2, ea2, rv2, _, w2⟩ := hh1.lst e2
            have ey := RVref (ry.ext xt) ea2
            subst ey
            obtain rfl : u1 = Value.ref a2 := g1
            have w2 := w2 rfl
            cases ky with
            | k k1 =>
              obtain ⟨kv, rk, w⟩ := as
              have w : H1 a1 = some (.dK kv) := w
              obtain ⟨qs, p1, p2⟩ := pairs_k ep rv2 fun p hp => (hky p hp).2 _ rfl
              refine upd_K c I1 w w2 p1 (by rw [rk_len rk, rk_len p2]; exact hz.2) ?_
              obtain ⟨z1, z2⟩ := hh1.write (H' := upd H1 a1 (.dK (qs.foldl (fun (acc : List (Key × V)) (q : Key × V) => putK acc q.1 q.2) kv))) (o' := .dict (updA kvs ps) false) e1 ea (fun b hb => upd_ne hb) fun x => .inl ⟨_, rk_upd (p2.ext x) (rk.ext x), upd_same⟩
              exact q ρ _ _ (xt.trans z2) z1 rfl
            | t k1 =>
              obtain ⟨kv, rt, w⟩ := as
              have w : H1 a1 = some (.dT kv) := w
              obtain ⟨qs, p1, p2⟩ := pairs_t ep rv2 fun p hp => (hky p hp).1 _ rfl
              refine upd_T c I1 w w2 p1 (by rw [rt_len rt, rt_len p2]; exact hz.2) ?_
              obtain ⟨z1, z2⟩ := hh1.write (H' := upd H1 a1 (.dT (qs.foldl (fun (acc : List (List Key × V)) (q : List Key × V) => putK acc q.1 q.2) kv))) (o' := .dict (updA kvs ps) false) e1 ea (fun b hb => upd_ne hb) fun x => .inr ⟨_, rt_upd (p2.ext x) (rt.ext x), upd_same⟩
              exact q ρ _ _ (xt.trans z2) z1 rfl
          cases ps with
          | nil =>
            obtain ⟨a1, ea, w⟩ := hh.get e1
            rcases w with ⟨kv, rk, w⟩ | ⟨kv, rt, w⟩
            · exact main (.k (.inl 0)) (fun p hp => nomatch hp) ea I hh (Ext.refl _ _) ⟨kv, rk, w⟩
            · exact main (.t []) (fun p hp => nomatch hp) ea I hh (Ext.refl _ _) ⟨kv, rt, w⟩
          | cons p0 pr =>
            obtain ⟨k1, k2⟩ := kind_cons hz.1
            obtain ⟨H1, a1, ea, I1, hh1, xt, as⟩ := toKind I hh e1 p0.1 k1 (fun hl => by cases hl)
            exact main p0.1 k2 ea I1 hh1 xt as
        · exact q.elim
      · exact q.elim
    · exact q.elim
  · exact q.elim
end
end Ev
end
section
/-! Ev, part 23: max, min, sum, index, dict(pairs), clear, enumerate. -/
namespace Ev
open PySem PySem.Spec L2
set_option autoImplicit false
def intsA : List AV → Option (List Int)
  | [] => some []
  | v :: vs => match v, intsA vs with
    | .int i, some r => some (i :: r)
    | _, _ => none
def maxI : Int → List Int → Int
  | m, [] => m
  | m, i :: r => maxI (max m i) r
def minI : Int → List Int → Int
  | m, [] => m
  | m, i :: r => minI (min m i) r
theorem maxI_ge : ∀ (l : List Int) (m : Int), m ≤ maxI m l ∧ ∀ y ∈ l, y ≤ maxI m l
  | [], m => ⟨Int.le_refl _, fun y h => by cases h⟩
  | i :: r, m => by
    obtain ⟨h1, h2⟩ := maxI_ge r (max m i)
    refine ⟨Int.le_trans (Int.le_max_left m i) h1, fun y hy => ?_⟩
    rcases List.mem_cons.mp hy with rfl | hy
    · exact Int.le_trans (Int.le_max_right m _) h1
    · exact h2 y hy
theorem maxI_mem : ∀ (l : List Int) (m : Int), maxI m l = m ∨ maxI m l ∈ l
  | [], m => .inl rfl
  | i :: r, m => by
    have e : maxI m (i :: r) = maxI (max m i) r := rfl
    rw [e]
    rcases maxI_mem r (max m i) with h | h
    · rw [h]
      rcases Int.le_total m i with z | z
      · rw [Int.max_eq_right z]; exact .inr List.mem_cons_self
      · rw [Int.max_eq_left z]; exact .inl rfl
    · exact .inr (List.mem_cons_of_mem _ h)
theorem minI_le : ∀ (l : List Int) (m : Int), minI m l ≤ m ∧ ∀ y ∈ l, minI m l ≤ y
  | [], m => ⟨Int.le_refl _, fun y h => by cases h⟩
  | i :: r, m => by
    obtain ⟨h1, h2⟩ := minI_le r (min m i)
    refine ⟨Int.le_trans h1 (Int.min_le_left m i), fun y hy => ?_⟩
    rcases List.mem_cons.mp hy with rfl | hy
    · exact Int.le_trans h1 (Int.min_le_right m _)
    · exact h2 y hy
theorem minI_mem : ∀ (l : List Int) (m : Int), minI m l = m ∨ minI m l ∈ l
  | [], m => .inl rfl
  | i :: r, m => by
    have e : minI m (i :: r) = minI (min m i) r := rfl
    rw [e]
    rcases minI_mem r (min m i) with h | h
    · rw [h]
      rcases Int.le_total m i with z | z
      · rw [Int.min_eq_left z]; exact .inl rfl
      · rw [Int.min_eq_right z]; exact .inr List.mem_cons_self
    · exact .inr (List.mem_cons_of_mem _ h)
section
variable {E : En} {X : Cx} {W : WX} {k : Nat} {ρ : List Addr} {H : Hp}
theorem ints_ok : ∀ {as : List AV} {xs : List V} {is : List Int}, intsA as = some is → RVs E ρ H as xs → xs = is.map V.int
  | [], _, _, e, r => by cases r; cases e; rfl
  | v :: vs, _, _, e, r => by
    obtain ⟨y, ys, rfl, r1, r2⟩ := r
    unfold intsA at e
    cases v with
    | int b =>
      cases e2 : intsA vs with
      | none => rw [e2] at e; cases e
      | some l =>
        rw [e2] at e
        cases e
        cases r1
        rw [ints_ok e2 r2, List.map_cons]
    | _ => cases e
def intsAt (A : AHp) (v : AV) : Option (List Int) := match v with
  | .ref n => (lstAt A n).bind intsA
  | _ => none
theorem intsAt_ok {A : AHp} (hh : RH E ρ H A) {v : AV} {is : List Int} (e : intsAt A v = some is) {x : V} (r : RV E ρ H v x) : ∃ a, x = .ref a ∧ SqL X.K H a (is.map V.int) := by
  unfold intsAt at e
  cases v with
  | ref n =>
    dsimp only at e
    cases e1 : lstAt A n with
    | none => rw [e1] at e; cases e
    | some xs =>
      rw [e1] at e
      obtain ⟨a, ys, rfl, rv, w⟩ := lstAt_ok hh e1 r
      refine ⟨a, rfl, ?_⟩
      rw [← ints_ok (show intsA xs = some is from e) rv]
      exact .inl w
  | _ => cases e
def fMax1 : OpN := fun as A => match as with
  | [v] => (match intsAt A v with
    | some (i :: r) => some (.int (maxI i r), A)
    | _ => none)
  | _ => none
theorem cs_max1 (c : Ctx E k X W) : CallS E X (.builtin "max") fMax1 := by
  intro pins s σ H xs us Q I rs h
  obtain ⟨ρ, A, as, hh, r, q⟩ := h
  unfold fMax1 at q
  split at q
  · obtain ⟨y, rfl, ry⟩ := rvs1 r
    split at q
    · rename_i i l e
      obtain ⟨a, rfl, w⟩ := intsAt_ok (X := X) hh e ry
      refine cr_max c.calm pins s σ H _ us Q I rs ⟨a, i :: l, rfl, w, Nat.succ_pos _, fun m hm hge => ?_⟩
      have e : m = maxI i l := by
        obtain ⟨h1, h2⟩ := maxI_ge l i
        apply Int.le_antisymm
        · rcases List.mem_cons.mp hm with rfl | z
          · exact h1
          · exact h2 m z
        · rcases maxI_mem l i with z | z
          · rw [z]; exact hge i List.mem_cons_self
          · exact hge _ (List.mem_cons_of_mem _ z)
      rw [e]
      exact q.pure hh rfl
    · exact q.elim
  · exact q.elim
/-- the int keys of a dict -/
def ikeysA : List (AK × AV) → Option (List Int)
  | [] => some []
  | (q, _) :: r => match q, ikeysA r with
    | .k (.inl i), some l => some (i :: l)
    | _, _ => none
theorem ikeys_ok : ∀ {l : List (AK × AV)} {m : List (Key × V)} {is : List Int}, ikeysA l = some is → RK E ρ H l m → m.map (·.1) = is.map Sum.inl
  | [], _, _, e, r => by cases r; cases e; rfl
  | (a, b) :: l, _, is, e, r => by
    obtain ⟨k', v', r', rfl, rfl, _, q2⟩ := r
    unfold ikeysA at e
    cases k' with
    | inr x => cases e
    | inl i =>
      cases e2 : ikeysA l with
      | none => rw [e2] at e; cases e
      | some is2 =>
        rw [e2] at e
        cases e
        rw [List.map_cons, List.map_cons, ikeys_ok e2 q2]
def fMin1 : OpN := fun as A => match as with
  | [.ref n] => (match A[n]? with
    | some (.lst xs _) => (match intsA xs with
      | some (i :: r) => some (.int (minI i r), A)
      | _ => none)
    | some (.dict kvs false) => (match ikeysA kvs with
      | some (i :: r) => some (.int (minI i r), A)
      | _ => none)
    | _ => none)
  | _ => none
theorem min_is {i m : Int} {l : List Int} (hm : m ∈ i :: l) (hge : ∀ y ∈ i :: l, m ≤ y) : m = minI i l := by
  obtain ⟨h1, h2⟩ := minI_le l i
  apply Int.le_antisymm
  · rcases minI_mem l i with z | z
    · rw [z]; exact hge i List.mem_cons_self
    · exact hge _ (List.mem_cons_of_mem _ z)
  · rcases List.mem_cons.mp hm with rfl | z
    · exact h1
    · exact h2 m z
theorem cs_min1 (c : Ctx E k X W) : CallS E X (.builtin "min") fMin1 := by
  intro pins s σ H xs us Q I rs h
  obtain ⟨ρ, A, as, hh, r, q⟩ := h
  unfold fMin1 at q
  split at q
  · rename_i n
    obtain ⟨y, rfl, ry⟩ := rvs1 r
    split at q
    · rename_i zs ro e1
      split at q
      · rename_i i l e
        obtain ⟨a, ys, ea, rv, w, _⟩ := hh.lst e1
        have ex := RVref ry ea
        subst ex
        refine cr_min c.calm pins s σ H _ us Q I rs ⟨a, i :: l, rfl, by rw [← ints_ok e rv]; exact .inl w, Nat.succ_pos _, fun m hm hge => ?_⟩
        rw [min_is hm hge]
        exact q.pure hh rfl
      · exact q.elim
    · rename_i kvs e1
      split at q
      · rename_i i l e
        obtain ⟨a, ea, w⟩ := hh.get e1
        have ex := RVref ry ea
        subst ex
        rcases w with ⟨kv, rk, w⟩ | ⟨kv, rt, w⟩
        · have w : H a = some (.dK kv) := w
          refine cr_minK c.calm pins s σ H _ us Q I rs ⟨a, kv, i :: l, rfl, w, ikeys_ok e rk, (fun z => nomatch z), fun m hm hge => ?_⟩
          rw [min_is hm hge]
          exact q.pure hh rfl
        · cases kvs with
          | nil => cases e
          | cons p l2 =>
            obtain ⟨k', v', r', _, e3, _⟩ := rt
            obtain ⟨pa, pb⟩ := p
            have e3 : pa = .t k' := e3
            subst e3
            cases e
      · exact q.elim
    · exact q.elim
  · exact q.elim
def fSum : OpN := fun as A => match as with
  | [v] => (intsAt A v).map fun is => (.int is.sum, A)
  | _ => none
theorem cs_sum (c : Ctx E k X W) : CallS E X (.builtin "sum") fSum := by
  intro pins s σ H xs us Q I rs h
  obtain ⟨ρ, A, as, hh, r, q⟩ := h
  unfold fSum at q
  split at q
  · obtain ⟨y, rfl, ry⟩ := rvs1 r
    cases e : intsAt A _ with
    | none => rw [e] at q; exact q.elim
    | some is =>
      rw [e] at q
      obtain ⟨a, rfl, w⟩ := intsAt_ok (X := X) hh e ry
      exact cr_sum c.calm pins s σ H _ us Q I rs ⟨a, is, rfl, w, q.pure hh rfl⟩
  · exact q.elim
/-- the place of the first item that is v -/
def idxA (v : AV) : List AV → Option Nat
  | [] => none
  | x :: xs => if inB.eqFlat x v then some 0 else (idxA v xs).map (· + 1)
theorem idxA_ok {v : AV} : ∀ {xs : List AV} {j : Nat}, idxA v xs = some j → (∃ x, xs[j]? = some x ∧ inB.eqFlat x v = true) ∧ ∀ m x, m < j → xs[m]? = some x → inB.eqFlat x v = false
  | [], _, e => by cases e
  | x :: xs, j, e => by
    unfold idxA at e
    split at e
    · rename_i h
      cases e
      exact ⟨⟨x, rfl, h⟩, fun m x hm => absurd hm (Nat.not_lt_zero _)⟩
    · rename_i h
      obtain ⟨i, h1, rfl⟩ := Option.map_eq_some_iff.mp e
      obtain ⟨⟨y, g1, g2⟩, g3⟩ := idxA_ok h1
      refine ⟨⟨y, by simpa using g1, g2⟩, fun m z hm hz => ?_⟩
      cases m with
      | zero =>
        simp at hz
        subst hz
        simpa using h
      | succ m => exact g3 m z (by omega) (by simpa using hz)
def mIndex : OpM := fun o as A => match o, as with
  | .ref n, [v] => (match lstAt A n with
    | some xs => if inB.flatA v && xs.all inB.flatA then (idxA v xs).map fun j => (.int (j : Nat), A) else none
    | none => none)
  | .ktup xs, [v] => if inB.flatA v && xs.all inB.flatA then none else none
  | _, _ => none
theorem ms_index : MtS E X "list.index" mIndex := by
  intro pins s σ H x xs v us Q I rx rs hq
  obtain ⟨ρ, A, a, as, hh, ra, r, q⟩ := hq
  unfold mIndex at q
  split at q
  · rename_i n w
    obtain ⟨y, rfl, ry⟩ := rvs1 r
    split at q
    · rename_i zs e1
      split at q
      · rename_i hf
        rw [Bool.and_eq_true] at hf
        cases e2 : idxA w zs with
        | none => rw [e2] at q; exact q.elim
        | some j =>
          rw [e2] at q
          obtain ⟨⟨z, g1, g2⟩, g3⟩ := idxA_ok e2
          obtain ⟨a1, ys, rfl, rv, wr⟩ := lstAt_ok hh e1 ra
          obtain ⟨u, gu, ru⟩ := rv.get g1
          have hz := List.all_eq_true.mp hf.2
          refine mt_index pins s σ H _ _ v us Q I rx rs ⟨a1, ys, y, j, u, rfl, rfl, .inl wr, flat_rv hf.1 ry, flats_rv hf.2 rv, gu, ?_, fun m z' hm hz' => ?_, q.pure hh rfl⟩
          · rw [eqFlat_rv (hz z (List.mem_of_getElem? g1)) hf.1 ru ry]
            exact g2
          · have hlt : m < zs.length := by rw [← rv.length]; exact (List.getElem?_eq_some_iff.mp hz').1
            obtain ⟨u', gu', ru'⟩ := rv.get (List.getElem?_eq_getElem hlt)
            rw [hz'] at gu'
            cases gu'
            rw [eqFlat_rv (hz _ (List.getElem_mem hlt)) hf.1 ru' ry]
            exact g3 m _ hm (List.getElem?_eq_getElem hlt)
      · exact q.elim
    · exact q.elim
  · split at q <;> exact q.elim
  · exact q.elim
def mClear : OpM := fun o as A => match o, as with
  | .ref n, [] => (match A[n]? with
    | some (.lst _ false) => some (.non, A.set n (.lst [] false))
    | _ => none)
  | _, _ => none
theorem ms_clear : MtS E X "list.clear" mClear := by
  intro pins s σ H x xs v us Q I rx rs hq
  obtain ⟨ρ, A, a, as, hh, ra, r, q⟩ := hq
  unfold mClear at q
  split at q
  · rename_i n
    split at q
    · rename_i zs e1
      obtain ⟨a1, ys, ea, rv, _, w⟩ := hh.lst e1
      have ex := RVref ra ea
      subst ex
      cases r
      obtain rfl : v = Value.ref a1 := rx
      refine mt_clear pins s σ H (.ref a1) [] (.ref a1) us Q I rfl rs ⟨a1, ys, rfl, rfl, w rfl, ?_⟩
      obtain ⟨z1, z2⟩ := setLst hh e1 ea (ys := []) (us := []) rfl
      exact q ρ _ _ z2 z1 rfl
    · exact q.elim
  · exact q.elim
/-! ### dict(..) -/
def fDict : OpN := fun as A => match as with
  | [.ref n] => (match A[n]? with
    | some (.lst xs _) => (match pairsA xs with
      | some ps => if (ps.all fun p => kindA [p] (.k (.inl 0))) = true then some (.ref A.length, A ++ [.dict (updA [] ps) false]) else none
      | none => none)
    | some (.dict kvs _) => if plainKs kvs = true then some (.ref A.length, A ++ [.dict kvs false]) else none
    | _ => none)
  | _ => none
theorem pairK_sq {us : List V} {qs : List (Key × V)} (h : Paired (PairK H) qs us) : ∃ ps : List Addr, us = ps.map V.ref ∧ Paired (fun p kv => SqT X.K H p [kV kv.1, kv.2]) ps qs := by
  induction h with
  | nil => exact ⟨[], rfl, .nil⟩
  | cons h t ih =>
    obtain ⟨ps, rfl, r⟩ := ih
    obtain ⟨b, rfl, hb⟩ := h
    exact ⟨b :: ps, rfl, .cons (.inl (.inl hb)) r⟩
theorem newD {A : AHp} (h : RH E ρ H A) {p : Addr} (hp : H p = none) {kvs : List (AK × AV)} {kv : List (Key × V)} (r : RK E ρ H kvs kv) : RH E (ρ ++ [p]) (upd H p (.dK kv)) (A ++ [.dict kvs false]) ∧ Ext ρ H (ρ ++ [p]) (upd H p (.dK kv)) ∧ RV E (ρ ++ [p]) (upd H p (.dK kv)) (.ref A.length) (.ref p) := by
  obtain ⟨a, b, c⟩ := h.alloc (H' := upd H p (.dK kv)) (o := .dict kvs false) (fun a u e => by rw [upd_ne (ne_of_none e hp)]; exact e) hp fun x => .inl ⟨kv, r.ext x, upd_same⟩
  exact ⟨a, b, p, c, rfl⟩
theorem cs_dict (c : Ctx E k X W) : CallS E X (.type "dict") fDict := by
  intro pins s σ H xs us Q I rs h
  obtain ⟨ρ, A, as, hh, r, q⟩ := h
  unfold fDict at q
  split at q
  · rename_i n
    obtain ⟨y, rfl, ry⟩ := rvs1 r
    split at q
    · rename_i zs ro e1
      split at q
      · rename_i ps ep
        split at q
        · rename_i hk
          obtain ⟨a, ys, ea, rv, w, _⟩ := hh.lst e1
          have ex := RVref ry ea
          subst ex
          obtain ⟨qs, p1, p2⟩ := pairs_k ep rv fun p hp => by
            have z := List.all_eq_true.mp hk p hp
            unfold kindA at z
            obtain ⟨pa, pb⟩ := p
            cases pa with
            | k x => exact ⟨x, rfl⟩
            | t x => simp at z
          obtain ⟨as2, rfl, p3⟩ := pairK_sq (X := X) p1
          refine call_dictP c.calm pins s σ H _ us Q I rs ⟨a, as2, qs, rfl, .inl w, p3, fun p hp => ?_⟩
          obtain ⟨z1, z2, z3⟩ := newD hh hp (rk_upd p2 (kvs := []) (m := []) rfl)
          exact q _ _ _ z2 z1 z3
        · exact q.elim
      · exact q.elim
    · rename_i kvs lk e1
      split at q
      · rename_i hk
        obtain ⟨a, ea, w⟩ := hh.get e1
        have ex := RVref ry ea
        subst ex
        cases lk with
        | true =>
          rcases w with ⟨kv, rk, w⟩ | ⟨kv, rt, w⟩
          · refine call_dictD pins s σ H _ us Q I rs ⟨a, kv, rfl, AtD.rd w, fun p hp => ?_⟩
            obtain ⟨z1, z2, z3⟩ := newD hh hp rk
            exact q _ _ _ z2 z1 z3
          · have e0 := kind_noneT rt hk
            subst e0
            cases rt
            obtain ⟨od, _, w⟩ := w
            exact absurd rfl w
        | false =>
          obtain ⟨H1, a1, ea1, I1, hh1, xt, kv, rk, w⟩ := toKind I hh e1 (.k (.inl 0)) hk (fun z => nomatch z)
          rw [ea] at ea1
          cases ea1
          refine call_dictD pins s σ H1 _ us Q I1 rs ⟨a, kv, rfl, AtD.rd w, fun p hp => ?_⟩
          obtain ⟨z1, z2, z3⟩ := newD hh1 hp rk
          exact q _ _ _ (xt.trans z2) z1 z3
      · exact q.elim
    · exact q.elim
  · exact q.elim
/-! ### enumerate -/
def srcE (s : Src) : Src := fun i A => (s i A).map fun o => o.map fun x => .tup [.int (i : Nat), x]
theorem jok_enum {n : Nat} {a : Addr} {ρ0 : List Addr} {H0 : Hp} (K : PySem.W.Frag) (ea : ρ0[n]? = some a) : JOk E (Ite K a) (srcE (srcL n)) ρ0 H0 := by
  intro ρ A H i x hh
  have ea' := x.pre n a ea
  unfold srcE
  cases e : srcL n i A with
  | none => exact ⟨fun z => (nomatch z), fun _ z => (nomatch z)⟩
  | some o =>
    obtain ⟨xs, ro, e1, e2⟩ := srcL_at e
    obtain ⟨p0, ys, p1, rv, w0, _⟩ := hh.lst e1
    rw [ea'] at p1
    cases p1
    have sq : SqL K H a ys := .inl w0
    cases o with
    | none =>
      refine ⟨fun _ => ⟨ys, sq, ?_⟩, fun v z => by cases z⟩
      rw [rv.length]
      exact List.getElem?_eq_none_iff.mp e2
    | some v0 =>
      refine ⟨fun z => (nomatch z), fun v z => ?_⟩
      cases z
      obtain ⟨u, eu, ru⟩ := rv.get e2
      refine ⟨⟨ys, u, sq, eu⟩, ?_⟩
      rintro x' H' ⟨T, u2, rfl, hT, rfl, f1⟩
      have z1 := f1 ys sq
      rw [eu] at z1
      cases z1
      exact newTup hh hT ⟨_, _, rfl, rfl, _, _, rfl, ru, rfl⟩
def enumOf (vs : List AV) (A : AHp) : Res (Src × Nat) := match vs with
  | [.ref n] => (match A[n]? with
    | some (.lst xs _) => .ok (srcE (srcL n), xs.length + 1) A
    | _ => .bad)
  | _ => .bad
def iEnu (f : Den (List AV)) : IDen := fun σ A => (f σ A).bind fun vs A1 => enumOf vs A1
theorem si_enum {e : Expr} {f : Den (List AV)} {p pos tpos : Pos} {elts : List Expr} {kk : Nat} (hg : Gl X "enumerate") (hm : X.mg "enumerate" = none) (ha : SA E X W [e] f) (hs : starEach [e] X.env = [(false, eval e X.env)]) :
    SI E X W (.Tuple elts kk tpos) (.Call (.Name "enumerate" p) [e] [] pos) (iEnu f) := by
  refine ⟨fun pins s σ H R I h => ?_⟩
  refine (pi_enum hg hm ha hs).run pins s σ H R I ?_
  obtain ⟨ρ, σa, A, hs', hh, q⟩ := h
  refine ⟨ρ, σa, A, hs', hh, ?_⟩
  unfold iEnu at q
  cases e1 : f σa A with
  | err c i A2 => rw [e1] at q; exact q
  | bad => rw [e1] at q; exact q
  | ok vs A1 =>
    rw [e1] at q
    have q : match enumOf vs A1 with
      | .ok (src, _) A1 => ∀ ρ' H' J, Ext ρ H ρ' H' → RH E ρ' H' A1 → JOk E J src ρ' H' → R J H'
      | .err c x A1 => ∀ ρ' H' d, Ext ρ H ρ' H' → RH E ρ' H' A1 → RX E H' c x d → W (.ref (E.cad c)) d σ H'
      | .bad => False := q
    intro ρ1 H1 b x rh rb
    unfold enumOf at q
    rcases vs with _ | ⟨v1, _ | ⟨v2, rest⟩⟩
    · exact q.elim
    · cases v1 with
      | ref n =>
        dsimp only at q
        cases e2 : A1[n]? with
        | none => rw [e2] at q; exact q.elim
        | some o => cases o with
          | lst xs ro =>
            rw [e2] at q
            obtain ⟨y, rfl, r1⟩ := rvs1 rb
            obtain ⟨a, ys, ea, rv, w, _⟩ := rh.lst e2
            have ex := RVref r1 ea
            subst ex
            exact ⟨a, ys, rfl, .inl w, q ρ1 H1 _ x rh (jok_enum _ ea)⟩
          | dict _ _ => rw [e2] at q; exact q.elim
          | ins _ _ => rw [e2] at q; exact q.elim
          | dn _ => rw [e2] at q; exact q.elim
      | _ => exact q.elim
    · cases v1 <;> exact q.elim
end
end Ev
end
section
/-! Ev, between W and X: what is looked at of an exception with an __init__ of its own. -/
namespace Ev
open PySem PySem.Spec L2
set_option autoImplicit false
def oexB (K : PySem.W.Frag) (C : Addr) : Bool := match K.lookup C with
  | some ⟨.type "type", _, .cls cd, sl⟩ => (match cd.mro, sl.toList with
    | .ref C' :: bm, [_, _, _, _, some (.builtin m), _] => decide (C' = C) && (decide (m = "ValueError.__new__") && (!cd.hasDel && (cd.hasDict && PySem.HandSPX.refsVE bm)))
    | _, _ => false)
  | _ => false
theorem oexB_ok {K : PySem.W.Frag} {C : Addr} (h : oexB K C = true) : ∃ nm q N bs bm sn sub ab col dd k0 k1 k2 k3 k5, K.lookup C = some (excClassObj nm q C N bs bm true sn sub ab col dd k0 k1 k2 k3 k5 "ValueError.__new__") ∧ PySem.HandSPX.refsVE bm = true := by
  unfold oexB at h
  split at h
  · rename_i dd cd sl hl
    split at h
    · rename_i C' bm k0 k1 k2 k3 m k5 hm hs
      obtain ⟨h1, h⟩ := He.ba h
      obtain ⟨h2, h⟩ := He.ba h
      obtain ⟨h3, h⟩ := He.ba h
      obtain ⟨h4, h5⟩ := He.ba h
      cases of_decide_eq_true h1
      cases of_decide_eq_true h2
      obtain ⟨z1, z2, z3, z4, z5, z6, z7, z8, z9, z10, z11⟩ := cd
      obtain ⟨l⟩ := sl
      dsimp only at hm hs h3 h4
      subst hm h4
      have h3' : z11 = false := by cases z11 with
        | false => rfl
        | true => cases h3
      subst h3'
      subst hs
      exact ⟨_, _, _, _, _, _, _, _, _, _, _, _, _, _, _, hl, h5⟩
    · cases h
  · cases h
/-- the class, its __init__, its field, its base -/
structure XiF (K : PySem.W.Frag) (C : Addr) (fI : Addr) (f : Str) (B : Addr) : Prop where
  oex : OexC K C
  ini : PySem.W.findIn K (.ref C) "__init__" = some (some (.ref fI))
  tI : PySem.W.typeIn K (.ref fI) = some (.type "function")
  nof : PySem.W.findIn K (.ref C) f = some none
  hd : PySem.W.hasDictIn K C = true
  sp : PySem.W.specialIn K (.ref B) "__getattribute__" = some (some (.builtin "type.__getattribute__"))
  tB : PySem.W.typeIn K (.ref B) = some (.type "type")
  rB : PySem.W.readsIn K B (.type "type") = true
  fB : PySem.W.findCls K (.ref B) (.type "type") "__init__" = some (.val (.builtin "ValueError.__init__"))
def isVal (o : Option PySem.W.CFound) (v : Value) : Bool := match o with
  | some (.val w) => decide (w = v)
  | _ => false
theorem isVal_ok {o : Option PySem.W.CFound} {v : Value} (h : isVal o v = true) : o = some (.val v) := by
  unfold isVal at h
  split at h
  · rw [of_decide_eq_true h]
  · cases h
def xiB (K : PySem.W.Frag) (C : Addr) (fI : Addr) (f : Str) (B : Addr) : Bool := oexB K C && (He.eqO (PySem.W.findIn K (.ref C) "__setattr__") (some (some (.builtin "object.__setattr__"))) && (decide (PySem.W.subIn K (.ref C) (.type "BaseException") = some true) &&
  (decide (PySem.W.typeIn K (.ref C) = some (.type "type")) && (PySem.W.keepIn K (.ref C) && (He.eqO (PySem.W.findIn K (.ref C) "__init__") (some (some (.ref fI))) && (decide (PySem.W.typeIn K (.ref fI) = some (.type "function")) &&
  (He.eqO (PySem.W.findIn K (.ref C) f) (some none) && (PySem.W.hasDictIn K C && (He.eqO (PySem.W.specialIn K (.ref B) "__getattribute__") (some (some (.builtin "type.__getattribute__"))) && (decide (PySem.W.typeIn K (.ref B) = some (.type "type")) &&
  (PySem.W.readsIn K B (.type "type") && isVal (PySem.W.findCls K (.ref B) (.type "type") "__init__") (.builtin "ValueError.__init__"))))))))))))
theorem xiB_ok {K : PySem.W.Frag} {C fI B : Addr} {f : Str} (h : xiB K C fI f B = true) : XiF K C fI f B := by
  obtain ⟨h1, h⟩ := He.ba h
  obtain ⟨h2, h⟩ := He.ba h
  obtain ⟨h3, h⟩ := He.ba h
  obtain ⟨h4, h⟩ := He.ba h
  obtain ⟨h5, h⟩ := He.ba h
  obtain ⟨h6, h⟩ := He.ba h
  obtain ⟨h7, h⟩ := He.ba h
  obtain ⟨h8, h⟩ := He.ba h
  obtain ⟨h8b, h⟩ := He.ba h
  obtain ⟨h9, h⟩ := He.ba h
  obtain ⟨h10, h⟩ := He.ba h
  obtain ⟨h11, h12⟩ := He.ba h
  exact ⟨⟨oexB_ok h1, He.eqO_ok h2, of_decide_eq_true h3, of_decide_eq_true h4, h5⟩, He.eqO_ok h6, of_decide_eq_true h7, He.eqO_ok h8, h8b, He.eqO_ok h9, of_decide_eq_true h10, h11, isVal_ok h12⟩
end Ev
end
section
/-! Ev, twenty-fourth part: several handlers; the program's names; what is read of the module. -/
namespace Ev
open PySem PySem.Spec L2
set_option autoImplicit false
section
variable {E : En} {X : Cx} {W : WX} {k : Nat} {ρ : List Addr} {H : Hp}
/-! ### except A: .. except B: .. -/
abbrev Hds := List ((Nat → Option Bool) × SDen)
def noEr (q : SR) : SR := match q with
  | .er _ _ _ _ => .bad
  | q => q
def tryKs : Hds → ASt → Nat → Option Int → AHp → SR
  | [], σ, c, r, A => .er σ c r A
  | (sub, fs) :: l, σ, c, r, A => match sub c with
    | some true => noEr (fs σ A)
    | some false => tryKs l σ c r A
    | none => .bad
def sTryM (l : Hds) (fb : SDen) : SDen := fun σ A => match fb σ A with
  | .er σ1 c r A1 => tryKs l σ1 c r A1
  | q => q
inductive HdsE (E : En) (k : Nat) (X : Cx) : List ExceptHandler → Hds → Prop
  | nil : HdsE E k X [] []
  | cons {x : Str} {cv : Value} {b₀ : Stmt} {suite : List Stmt} {np pos' : Pos} {hds : List ExceptHandler} {l : Hds} {sub : Nat → Option Bool} {fs : SDen} (hc : Names X x cv)
      (hsub : ∀ c b, sub c = some b → PySem.W.exmOne X.K (.ref (E.cad c)) cv = some b)
      (hsu : ∀ (a : Addr) (pn : List (Addr × Obj)), CtxH E k (X.suite a pn) → SSs E (X.suite a pn) W0 (b₀ :: suite) fs) (r : HdsE E k X hds l) : HdsE E k X (.ExceptHandler (some (.Name x np)) none (b₀ :: suite) pos' :: hds) ((sub, fs) :: l)
theorem hds_ok (c : Ctx E k X W) {hds : List ExceptHandler} {l : Hds} (h : HdsE E k X hds l) : ∃ l', L2N.HdsOk X hds l' ∧ ∀ (D : Ends) (σ1 : ASt) (cc : Nat) (r : Option Int) (A1 : AHp) (ρ1 : List Addr) (H1 : Hp), PostS E (tryKs l σ1 cc r A1) ρ1 H1 D W →
    ∀ ρ' H' σ' d, Ext ρ1 H1 ρ' H' → RH E ρ' H' A1 → RS E ρ' H' σ1 σ' → RX E H' cc r d → L2.wMany X.K W D l' (.ref (E.cad cc)) d σ' H' := by
  induction h with
  | nil => exact ⟨[], .nil, fun D σ1 cc r A1 ρ1 H1 p ρ' H' σ' d x rh rs rx => p ρ' H' σ' d x rh rs rx⟩
  | @cons x cv b₀ suite np pos' hds l sub fs hc hsub hsu r ih =>
    obtain ⟨l', g1, g2⟩ := ih
    refine ⟨(cv, fun _ _ _ => fun D σ H => rdS E fs W0 D σ H) :: l', .cons hc (fun a oe cls d pn hz hd => ?_) g1, fun D σ1 cc rr A1 ρ1 H1 p ρ' H' σ' d x rh rs rx => ?_⟩
    · obtain ⟨vs, hv⟩ := hd
      refine hsu a ((a, oe) :: pn) ⟨c.hK, ⟨c.room.dp, c.room.un⟩, c.hP, (a, oe), List.mem_cons_self, fun a' c' r' d' e => ?_, rfl, vs, hv, hz.2.2 vs hv⟩
      rw [c.h0] at e
      cases e
    · unfold tryKs at p
      cases e : sub cc with
      | none => rw [e] at p; exact p.elim
      | some b =>
        rw [e] at p
        refine ⟨b, hsub cc b e, fun hb a ha => ?_, fun hb => ?_⟩
        · subst hb
          dsimp only at p
          refine ⟨ρ', σ1, A1, rs, rh, ?_⟩
          have p := p.ext x
          cases e2 : fs σ1 A1 with
          | er _ _ _ _ => rw [e2] at p; exact p.elim
          | bad => rw [e2] at p; exact p.elim
          | nx _ _ => rw [e2] at p; exact p
          | rt _ _ => rw [e2] at p; exact p
          | bk _ _ => rw [e2] at p; exact p
          | ct _ _ => rw [e2] at p; exact p
        · subst hb
          exact g2 D σ1 cc rr A1 ρ1 H1 p ρ' H' σ' d x rh rs rx
theorem ss_tryM {body : List Stmt} {h₀ : ExceptHandler} {hds : List ExceptHandler} {pos : Pos} {fb : SDen} {l : Hds} (c : Ctx E k X W) (hs : X.stack = X.env :: X.outer) (hf : X.env.frame = some X.env.locals)
    (hb : ∀ (W' : WX) (pn : List (Addr × Obj)) (xe : Value → Shared → Prop), Ctx E k (X.tr pn xe) W' → SSs E (X.tr pn xe) W' body fb) (hh : HdsE E k X (h₀ :: hds) l) : SS E X W (.Try body (h₀ :: hds) [] [] pos) (sTryM l fb) := by
  obtain ⟨l', g1, g2⟩ := hds_ok c hh
  have main := L2N.ps_try_many (pos := pos) (tb := fun W' => rdS E fb W') hs hf c.tk (fun W' pn xe tk po => hb W' pn xe ⟨c.hK, c.calm, c.room, tk, po, c.h0, c.hP⟩) g1
  refine PS.imp main fun D σ H ⟨ρ, σa, A, hs', hh', p⟩ => ⟨ρ, σa, A, hs', hh', ?_⟩
  unfold sTryM at p
  cases e : fb σa A with
  | nx σ1 A1 => rw [e] at p; exact p
  | rt v A1 => rw [e] at p; exact p
  | bk σ1 A1 => rw [e] at p; exact p
  | ct σ1 A1 => rw [e] at p; exact p
  | bad => rw [e] at p; exact p.elim
  | er σ1 cc r A1 =>
    rw [e] at p
    exact g2 D σ1 cc r A1 ρ H p
/-! ### a tuple of texts at the top -/
theorem rvs_strs {ρ : List Addr} {H : Hp} : ∀ zs : List Str, RVs E ρ H (zs.map AV.str) (zs.map V.str)
  | [] => rfl
  | z :: zs => ⟨_, _, rfl, rfl, rvs_strs zs⟩
theorem se_gtup {x : Str} {zs ys : List Str} {pos : Pos} (hK : X.K = E.K) (hg : Gl X x) (hm : ∃ a, X.mg x = some (.ref a) ∧ ∀ H, SqT X.K H a (zs.map V.str)) (hd : (x == ("__debug__" : Str)) = false) (h : zs = ys) : SE E X W (.Name x pos) (dC (.ktup (ys.map .str))) := by
  subst h
  obtain ⟨a, hm, hs⟩ := hm
  exact se_glob (v' := V.ref a) hg hm rfl (fun ρ H => ⟨a, _, rfl, hK ▸ hs H, rvs_strs zs⟩) hd
end
/-! ### names -/
def nthN (l : List String) (i : Nat) : Str := match l[i]? with
  | some x => (x : Str)
  | none => ⟨#[i]⟩
def namesOk (l : List String) : Bool := (l.all fun x => decide ((x : Str).cps.size ≠ 1)) && decide (l.map PySem.Str.ofString).Nodup
theorem nthN_inj {l : List String} (h : namesOk l = true) (i j : Nat) (e : nthN l i = nthN l j) : i = j := by
  unfold namesOk at h
  rw [Bool.and_eq_true] at h
  obtain ⟨h1, h2⟩ := h
  have h2 := of_decide_eq_true h2
  have one : ∀ (a : String) (b : Nat), a ∈ l → (a : Str) ≠ ⟨#[b]⟩ := fun a b ha z => by
    have := of_decide_eq_true (List.all_eq_true.mp h1 a ha)
    rw [z] at this
    exact this rfl
  unfold nthN at e
  cases e1 : l[i]? with
  | none =>
    rw [e1] at e
    cases e2 : l[j]? with
    | none =>
      rw [e2] at e
      have := congrArg Str.cps e
      simpa using this
    | some b =>
      rw [e2] at e
      exact absurd e.symm (one b i (List.mem_of_getElem? e2))
  | some a =>
    rw [e1] at e
    cases e2 : l[j]? with
    | none =>
      rw [e2] at e
      exact absurd e (one a j (List.mem_of_getElem? e1))
    | some b =>
      rw [e2] at e
      have g1 : (l.map PySem.Str.ofString)[i]? = some (a : Str) := by rw [List.getElem?_map, e1]; rfl
      have g2 : (l.map PySem.Str.ofString)[j]? = some (b : Str) := by rw [List.getElem?_map, e2]; rfl
      have hi := (List.getElem?_eq_some_iff.mp g1).1
      refine (List.getElem?_inj hi h2).mp ?_
      rw [g1, g2]
      exact congrArg some e
/-- the names of a program's classes, fields, methods by their numbers; which are used; the tables of subclasses -/
structure Nm where
  cn : List String
  fn : List String
  mn : List String
  en : List (Nat × String)
  cs : List Nat
  xs : List Nat
  fs : List Nat
  sub : List (Nat × Nat × Bool)
  subB : List (Nat × String × Bool)
  bsub : List (String × Nat × Bool)
  exm : List (Nat × Nat × Bool)
  me : List (Nat × String × String × String)
  tp : List (String × List Str)
  ei : List (Nat × String × String × String) := []
def tabNN (l : List (Nat × Nat × Bool)) (a b : Nat) : Option Bool := match l with
  | [] => none
  | (x, y, z) :: r => if x = a ∧ y = b then some z else tabNN r a b
def tabNS (l : List (Nat × String × Bool)) (a : Nat) (b : String) : Option Bool := match l with
  | [] => none
  | (x, y, z) :: r => if x = a ∧ y = b then some z else tabNS r a b
def tabSN (l : List (String × Nat × Bool)) (a : String) (b : Nat) : Option Bool := match l with
  | [] => none
  | (x, y, z) :: r => if x = a ∧ y = b then some z else tabSN r a b
theorem tabNN_mem {l : List (Nat × Nat × Bool)} {a b : Nat} {z : Bool} (h : tabNN l a b = some z) : (a, b, z) ∈ l := by
  induction l with
  | nil => cases h
  | cons p r ih =>
    obtain ⟨x, y, w⟩ := p
    unfold tabNN at h
    split at h
    · rename_i hh
      obtain ⟨rfl, rfl⟩ := hh
      cases h
      exact List.mem_cons_self
    · exact List.mem_cons_of_mem _ (ih h)
theorem tabNS_mem {l : List (Nat × String × Bool)} {a : Nat} {b : String} {z : Bool} (h : tabNS l a b = some z) : (a, b, z) ∈ l := by
  induction l with
  | nil => cases h
  | cons p r ih =>
    obtain ⟨x, y, w⟩ := p
    unfold tabNS at h
    split at h
    · rename_i hh
      obtain ⟨rfl, rfl⟩ := hh
      cases h
      exact List.mem_cons_self
    · exact List.mem_cons_of_mem _ (ih h)
theorem tabSN_mem {l : List (String × Nat × Bool)} {a : String} {b : Nat} {z : Bool} (h : tabSN l a b = some z) : (a, b, z) ∈ l := by
  induction l with
  | nil => cases h
  | cons p r ih =>
    obtain ⟨x, y, w⟩ := p
    unfold tabSN at h
    split at h
    · rename_i hh
      obtain ⟨rfl, rfl⟩ := hh
      cases h
      exact List.mem_cons_self
    · exact List.mem_cons_of_mem _ (ih h)
def Nm.cnm (N : Nm) (c : Nat) : Str := (N.cn.getD c "" : Str)
def Nm.cad (N : Nm) (K : PySem.W.Frag) (c : Nat) : Addr := He.ga K (N.cnm c)
/-! ### what is looked at -/
def clsObj (K : PySem.W.Frag) (C : Addr) : Bool := He.eqO (PySem.W.findIn K (.ref C) "__class__") (some (some (.builtin "object.__class__"))) && (He.eqO (PySem.W.specialIn K (.builtin "object.__class__") "__get__") (some (some (.builtin "getset_descriptor.__get__"))) &&
  (decide (PySem.W.takesIn K (.builtin "object.__class__") = some true) && decide (PySem.W.mroIn K C (.type "object") = some true)))
theorem clsObj_ok {K : PySem.W.Frag} {C : Addr} (h : clsObj K C = true) : PySem.W.findIn K (.ref C) "__class__" = some (some (.builtin "object.__class__")) ∧ PySem.W.specialIn K (.builtin "object.__class__") "__get__" = some (some (.builtin "getset_descriptor.__get__")) ∧
    PySem.W.takesIn K (.builtin "object.__class__") = some true ∧ PySem.W.mroIn K C (.type "object") = some true := by
  obtain ⟨h1, h⟩ := He.ba h
  obtain ⟨h2, h⟩ := He.ba h
  obtain ⟨h3, h4⟩ := He.ba h
  exact ⟨He.eqO_ok h1, He.eqO_ok h2, of_decide_eq_true h3, of_decide_eq_true h4⟩
def excObj (K : PySem.W.Frag) (C : Addr) : Bool := (PySem.W.clsIn K C).isSome && (He.eqO (PySem.W.findIn K (.ref C) "__getattribute__") (some (some (.builtin "BaseException.__getattribute__"))) && (He.eqO (PySem.W.findIn K (.ref C) "__getattr__") (some none) &&
  (decide (PySem.W.subIn K (.ref C) (.type "BaseException") = some true) && (decide (PySem.W.typeIn K (.ref C) = some (.type "type")) && (PySem.W.keepIn K (.ref C) && clsObj K C)))))
theorem excObj_ok {K : PySem.W.Frag} {C : Addr} (h : excObj K C = true) : ExC K C := by
  obtain ⟨h1, h⟩ := He.ba h
  obtain ⟨h2, h⟩ := He.ba h
  obtain ⟨h3, h⟩ := He.ba h
  obtain ⟨h4, h⟩ := He.ba h
  obtain ⟨h5, h⟩ := He.ba h
  obtain ⟨h6, h⟩ := He.ba h
  obtain ⟨k1, k2, k3, k4⟩ := clsObj_ok h
  exact ⟨h1, He.eqO_ok h2, He.eqO_ok h3, of_decide_eq_true h4, k1, k2, k3, k4, of_decide_eq_true h5, h6⟩
def methB (K : PySem.W.Frag) (D : Addr) (m : Str) (f : Addr) : Bool := He.eqO (PySem.W.findIn K (.ref D) m) (some (some (.ref f))) && (PySem.W.isFn K (.ref f) && PySem.W.keepIn K (.ref f))
theorem methB_ok {K : PySem.W.Frag} {D : Addr} {m : Str} {f : Addr} (h : methB K D m f = true) : Meth K D m f := by
  obtain ⟨h1, h⟩ := He.ba h
  obtain ⟨h2, h3⟩ := He.ba h
  exact ⟨He.eqO_ok h1, h2, h3⟩
def Nm.b1 (N : Nm) (K : PySem.W.Frag) : Bool := N.cs.all fun c => (He.Fa.cls (N.cnm c)).ok K && clsObj K (N.cad K c) && PySem.W.keepIn K (.ref (N.cad K c))
def Nm.b2 (N : Nm) (K : PySem.W.Frag) : Bool := N.cs.all fun c => N.fs.all fun f => (He.Fa.noat (N.cnm c) (nthN N.fn f)).ok K
def Nm.b3 (N : Nm) (K : PySem.W.Frag) : Bool := N.xs.all fun c => excObj K (N.cad K c)
def Nm.b4 (N : Nm) (K : PySem.W.Frag) : Bool := N.sub.all fun p => decide (PySem.W.kitOne K (.ref (N.cad K p.1)) (.ref (N.cad K p.2.1)) = some p.2.2)
def Nm.b5 (N : Nm) (K : PySem.W.Frag) : Bool := N.subB.all fun p => decide (PySem.W.kitOne K (.ref (N.cad K p.1)) (.type p.2.1) = some p.2.2)
def Nm.b6 (N : Nm) (K : PySem.W.Frag) : Bool := N.bsub.all fun p => decide (PySem.W.kitOne K (.type p.1) (.ref (N.cad K p.2.1)) = some p.2.2)
def Nm.b7 (N : Nm) (K : PySem.W.Frag) : Bool := N.exm.all fun p => decide (PySem.W.exmOne K (.ref (N.cad K p.1)) (.ref (N.cad K p.2.1)) = some p.2.2)
def Nm.b8 (N : Nm) (K : PySem.W.Frag) : Bool := N.me.all fun p => methB K (N.cad K p.1) p.2.1 (He.fAd K (p.2.2.1, some p.2.2.2))
def Nm.b9 (N : Nm) (K : PySem.W.Frag) : Bool := N.tp.all fun p => He.eqO (PySem.W.nsIn K mainGlobals p.1) (some (some (.ref (He.ga K p.1)))) && He.tupB K p.1 (p.2.map .str)
/-- exceptions with an __init__: class, its name, its field, its base -/
def Nm.b10 (N : Nm) (K : PySem.W.Frag) : Bool := N.ei.all fun p => xiB K (N.cad K p.1) (He.fAd K (p.2.1, some "__init__")) p.2.2.1 (He.ga K p.2.2.2)
def Nm.ok (N : Nm) (K : PySem.W.Frag) : Bool := N.b1 K && (N.b2 K && (N.b3 K && (N.b4 K && (N.b5 K && (N.b6 K && (N.b7 K && (N.b8 K && (N.b9 K && N.b10 K))))))))
structure NmOk (N : Nm) (K : PySem.W.Frag) : Prop where
  b1 : N.b1 K = true
  b2 : N.b2 K = true
  b3 : N.b3 K = true
  b4 : N.b4 K = true
  b5 : N.b5 K = true
  b6 : N.b6 K = true
  b7 : N.b7 K = true
  b8 : N.b8 K = true
  b9 : N.b9 K = true
  b10 : N.b10 K = true
theorem Nm.ok_ok {N : Nm} {K : PySem.W.Frag} (h : N.ok K = true) : NmOk N K := by
  obtain ⟨h1, h⟩ := He.ba h
  obtain ⟨h2, h⟩ := He.ba h
  obtain ⟨h3, h⟩ := He.ba h
  obtain ⟨h4, h⟩ := He.ba h
  obtain ⟨h5, h⟩ := He.ba h
  obtain ⟨h6, h⟩ := He.ba h
  obtain ⟨h7, h⟩ := He.ba h
  obtain ⟨h8, h⟩ := He.ba h
  obtain ⟨h9, h10⟩ := He.ba h
  exact ⟨h1, h2, h3, h4, h5, h6, h7, h8, h9, h10⟩
/-- what the names themselves keep -/
structure NmW (N : Nm) : Prop where
  f : namesOk N.fn = true
  m : (N.fs.all fun f => (nthN N.fn f).cps.size != 1 && N.mn.all fun x => decide (nthN N.fn f ≠ (x : Str))) = true
theorem NmW.mnf {N : Nm} (h : NmW N) (m f : Nat) (hf : N.fs.contains f = true) : nthN N.fn f ≠ nthN N.mn m := by
  obtain ⟨h1, h2⟩ := Bool.and_eq_true_iff.mp (List.all_eq_true.mp h.m f (List.contains_iff_mem.mp hf))
  intro z
  cases e : N.mn[m]? with
  | some x =>
    have e2 : nthN N.mn m = (x : Str) := by unfold nthN; rw [e]
    rw [e2] at z
    exact of_decide_eq_true (List.all_eq_true.mp h2 x (List.mem_of_getElem? e)) z
  | none =>
    have e2 : nthN N.mn m = ⟨#[m]⟩ := by unfold nthN; rw [e]
    rw [e2] at z
    rw [z] at h1
    cases h1
def Nm.efl (N : Nm) (c : Nat) : Str := match N.en.lookup c with
  | some x => (x : Str)
  | none => ⟨#[]⟩
section
variable {N : Nm} {K : PySem.W.Frag}
theorem NmOk.cls (h : NmOk N K) (c : Nat) (hc : N.cs.contains c = true) : Cls K (N.cad K c) ∧ clsObj K (N.cad K c) = true ∧ PySem.W.keepIn K (.ref (N.cad K c)) = true := by
  have q : ((He.Fa.cls (N.cnm c)).ok K && clsObj K (N.cad K c) && PySem.W.keepIn K (.ref (N.cad K c))) = true := List.all_eq_true.mp h.b1 c (List.contains_iff_mem.mp hc)
  obtain ⟨q1, q2⟩ := He.ba q
  obtain ⟨q3, q4⟩ := He.ba q1
  exact ⟨He.cls_ok q3, q4, q2⟩
theorem NmOk.noat (h : NmOk N K) (c f : Nat) (hc : N.cs.contains c = true) (hf : N.fs.contains f = true) : NoAttr K (N.cad K c) (nthN N.fn f) := by
  have q : (N.fs.all fun f => (He.Fa.noat (N.cnm c) (nthN N.fn f)).ok K) = true := List.all_eq_true.mp h.b2 c (List.contains_iff_mem.mp hc)
  have q2 : (He.Fa.noat (N.cnm c) (nthN N.fn f)).ok K = true := List.all_eq_true.mp q f (List.contains_iff_mem.mp hf)
  exact He.noat_ok q2
theorem NmOk.sub (h : NmOk N K) (c c' : Nat) (b : Bool) (e : tabNN N.sub c c' = some b) : PySem.W.kitOne K (.ref (N.cad K c)) (.ref (N.cad K c')) = some b := by
  have q := List.all_eq_true.mp h.b4 (c, c', b) (tabNN_mem e)
  dsimp only at q
  exact of_decide_eq_true q
theorem NmOk.subB (h : NmOk N K) (c : Nat) (n : String) (b : Bool) (e : tabNS N.subB c n = some b) : PySem.W.kitOne K (.ref (N.cad K c)) (.type n) = some b := by
  have q := List.all_eq_true.mp h.b5 (c, n, b) (tabNS_mem e)
  dsimp only at q
  exact of_decide_eq_true q
theorem NmOk.bsub (h : NmOk N K) (n : String) (c : Nat) (b : Bool) (e : tabSN N.bsub n c = some b) : PySem.W.kitOne K (.type n) (.ref (N.cad K c)) = some b := by
  have q := List.all_eq_true.mp h.b6 (n, c, b) (tabSN_mem e)
  dsimp only at q
  exact of_decide_eq_true q
theorem NmOk.exm (h : NmOk N K) (c c' : Nat) (b : Bool) (e : tabNN N.exm c c' = some b) : PySem.W.exmOne K (.ref (N.cad K c)) (.ref (N.cad K c')) = some b := by
  have q := List.all_eq_true.mp h.b7 (c, c', b) (tabNN_mem e)
  dsimp only at q
  exact of_decide_eq_true q
theorem NmOk.exc (h : NmOk N K) (c : Nat) (hc : N.xs.contains c = true) : ExC K (N.cad K c) := excObj_ok (List.all_eq_true.mp h.b3 c (List.contains_iff_mem.mp hc))
end
/-- the program's names over what was read -/
def mkEn (N : Nm) (w : NmW N) (K : PySem.W.Frag) (h : NmOk N K) (Pz : Program) (wz : World) : En where
  K := K
  P := Pz
  w := wz
  cad := N.cad K
  fnm := nthN N.fn
  finj := nthN_inj w.f
  efl := N.efl
  hot := none
  isC := fun c => N.cs.contains c
  isF := fun f => N.fs.contains f
  isX := fun c => N.xs.contains c
  clsOk := fun c hc => (h.cls c hc).1
  noat := h.noat
  mnm := nthN N.mn
  mnf := w.mnf
  sub := tabNN N.sub
  subB := tabNS N.subB
  bsub := tabSN N.bsub
  subOk := h.sub
  subBOk := h.subB
  bsubOk := h.bsub
  insF := fun c hc => clsObj_ok (h.cls c hc).2.1
  excOk := h.exc
section
variable {N : Nm} {w : NmW N} {K : PySem.W.Frag} {h : NmOk N K} {Pz : Program} {wz : World}
theorem mkEn_kp {c : Nat} (hc : N.cs.contains c = true) : PySem.W.keepIn K (.ref ((mkEn N w K h Pz wz).cad c)) = true := (h.cls c hc).2.2
theorem mkEn_exm {c c' : Nat} {b : Bool} (e : tabNN N.exm c c' = some b) : PySem.W.exmOne K (.ref ((mkEn N w K h Pz wz).cad c)) (.ref ((mkEn N w K h Pz wz).cad c')) = some b := h.exm c c' b e
theorem mkEn_me {c : Nat} {m C m' : String} (e : (c, m, C, m') ∈ N.me) : Meth K ((mkEn N w K h Pz wz).cad c) m (He.fAd K (C, some m')) := by
  have q : methB K (N.cad K c) m (He.fAd K (C, some m')) = true := List.all_eq_true.mp h.b8 _ e
  exact methB_ok q
theorem mkEn_xi {c : Nat} {C f B : String} (e : (c, C, f, B) ∈ N.ei) : XiF K ((mkEn N w K h Pz wz).cad c) (He.fAd K (C, some "__init__")) f (He.ga K B) := by
  have q : xiB K (N.cad K c) (He.fAd K (C, some "__init__")) f (He.ga K B) = true := List.all_eq_true.mp h.b10 _ e
  exact xiB_ok q
theorem mkEn_tp (h : NmOk N K) {P : Heap} {mg : Str → Option Value} (X : K.In P) (G : P.Ns mainGlobals mg) {x : String} {zs : List Str} (e : (x, zs) ∈ N.tp) : ∃ a, mg x = some (.ref a) ∧ ∀ H, SqT K H a (zs.map V.str) := by
  have q : (He.eqO (PySem.W.nsIn K mainGlobals x) (some (some (.ref (He.ga K x)))) && He.tupB K x (zs.map .str)) = true := List.all_eq_true.mp h.b9 _ e
  obtain ⟨h1, h2⟩ := He.ba q
  refine ⟨_, PySem.W.mg_of X G (He.eqO_ok h1), fun H => ?_⟩
  have := He.tupB_ok h2 H
  rw [List.map_map] at this
  exact this
end
/-! ### the Hook -/
def obsM (N : Nm) (fa : List He.Fa) (fn : List He.DefD) (K : PySem.W.Frag) : He.AlD × Bool := (He.obsD fa fn K, N.ok K)
/-- what is looked at: the module's names, what its defs and classes name -/
def refsFn (g : Addr → Option Obj) (b : Addr) : List Addr := match g b with
  | some ⟨_, _, .func fd, _⟩ => He.refV fd.code
  | _ => []
def refsNs (g : Addr → Option Obj) (b : Addr) : List Addr := match g b with
  | some ⟨_, _, .dict es _, _⟩ => es.toList.flatMap fun e => match e.val with
    | .ref m => m :: refsFn g m
    | _ => []
  | _ => []
/-- the classes and their names first: they are looked up most -/
def refsCls (g : Addr → Option Obj) (a : Addr) : List Addr := match g a with
  | some ⟨_, _, .cls cd, _⟩ => [a, cd.ns]
  | _ => []
def refsOne (g : Addr → Option Obj) (a : Addr) : List Addr := match g a with
  | some ⟨_, _, .func fd, _⟩ => [a] ++ He.refV fd.code
  | some ⟨_, _, .cls cd, _⟩ => refsNs g cd.ns
  | some ⟨.type c, _, .seq _ _, _⟩ => if c = "tuple" then [a] else []
  | _ => []
def refsAll (f : Addr → List Addr) (es : List DictEntry) : List Addr := es.flatMap fun e => match e.val with
  | .ref a => f a
  | _ => []
def asM (g : Addr → Option Obj) : List Addr := match g mainGlobals with
  | some ⟨_, _, .dict es _, _⟩ => mainGlobals :: cStatics :: (refsAll (refsCls g) es.toList ++ refsAll (refsOne g) es.toList)
  | _ => []
def obsMG (n : Nat) (N : Nm) (fa : List He.Fa) (fn : List He.DefD) (g : Addr → Option Obj) : He.AlD × Bool := obsM N fa fn (He.frG g (asM g))
def hookM (n : Nat) (N : Nm) (fa : List He.Fa) (fn : List He.DefD) : PySem.W.Hook where
  α := He.AlD × Bool
  obs := fun s => obsMG n N fa fn s.heap.get?
  val := fun _ => (He.valD fn, true)
  says := fun _ h => ∃ K : PySem.W.Frag, K.In h ∧ He.SaysD fa fn K ∧ NmOk N K
  of := fun _ _ e => ⟨_, He.frG_in, (Prod.mk.inj e).1, Nm.ok_ok (Prod.mk.inj e).2⟩
  keeps := fun _ _ _ ⟨K, hK, c⟩ k => ⟨K, PySem.W.Frag.In.keeps hK k, c⟩
theorem obsMG_eq {n : Nat} {N : Nm} {fa : List He.Fa} {fn : List He.DefD} {g : Addr → Option Obj} {s : Shared} (h : ∀ a, g a = s.heap.get? a) : obsMG n N fa fn g = (hookM n N fa fn).obs s := by
  have e : g = s.heap.get? := funext h
  rw [e]
  rfl
/-! ### the table of defs, with classes -/
section
variable {E : En} {P : Program} {w : World} {K : PySem.W.Frag} {mg : Str → Option Value} {base : Heap} {k : Nat} {m : Str} {n : Nat}
theorem mth_nil : MthOk E P w K mg base k m n [] := fun c g h => by cases h
theorem mth_cons {c : Nat} {f : Addr} {g : List AV → M AV} {tb : MTb} (M : Meth K (E.cad c) m f) (C : Cal E P w K mg base k f (n + 1) g) (r : MthOk E P w K mg base k m n tb) : MthOk E P w K mg base k m n ((c, g) :: tb) := fun c' g' h => by
  unfold getM at h
  split at h
  · rename_i hc
    subst hc
    cases h
    exact ⟨f, M, C⟩
  · exact r c' g' h
end
end Ev
end
section
/-! Ev, twenty-fourth part and a half: exceptions with an __init__ of their own and a number. -/
namespace Ev
open PySem PySem.Spec L2
set_option autoImplicit false
/-- what the own __init__ of an exception does: one field -/
def spI (C : Addr) (f : Str) : Sp := fun vs H Q _ => ∃ (a : Addr) (m y : V), vs = [.ref a, m, y] ∧ H a = some (exo a C none) ∧ ∀ dx, H dx = none → dx ≠ a → Q .non (upd (upd H dx (exd dx [(f, y)])) a (exo a C (some dx)))
/-- Base.__init__(self, ..), Base a class of the program over ValueError -/
theorem pe_seinit {X : Cx} {x : Str} {B : Addr} {e : Expr} {es : List Expr} {ta : TA} {p1 p2 pos : Pos} {pl : Sem Bool} (hg : Gl X x) (hm : X.mg x = some (.ref B)) (hdb : (x == ("__debug__" : Str)) = false)
    (sp : PySem.W.specialIn X.K (.ref B) "__getattribute__" = some (some (.builtin "type.__getattribute__"))) (tB : PySem.W.typeIn X.K (.ref B) = some (.type "type")) (rB : PySem.W.readsIn X.K B (.type "type") = true)
    (fB : PySem.W.findCls X.K (.ref B) (.type "type") "__init__" = some (.val (.builtin "ValueError.__init__"))) (ha : PA X (e :: es) ta)
    (hc : eval (.Call (.Attribute (.Name x p1) "__init__" p2) (e :: es) [] pos) X.env = (eval (.Name x p1) X.env >>= fun ov => standAt p2.atName >>= fun _ => holding [ov] (getMethod ov "__init__" pl) >>= fun fx => callWith pos fx.1 fx.2 (backTo pos (starEach (e :: es) X.env)) (backToKw pos (keywordEach [] X.env))) := by rfl)
    (he : starEach (e :: es) X.env = (false, eval e X.env) :: starEach es X.env := by rfl) (hpl : (backTo pos (starEach es X.env)).any (·.1) = false := by rfl) :
    PE X (.Call (.Attribute (.Name x p1) "__init__" p2) (e :: es) [] pos) (tVeI X.K ta) := by
  refine ⟨fun pins s σ H Q I h => PySem.W.methodCall_KW (ld_glob I hg hm ?_ hdb) hc⟩
  obtain ⟨m, fr⟩ := I.fr
  refine PySem.W.method_of_cls fr I.ok.mod.kin sp (PySem.W.cls_val fr I.ok.mod.kin tB rB fB (by decide +kernel) ?_)
  show wpAny _ _ (callWith pos (Value.builtin "ValueError.__init__") [] (backTo pos (starEach (e :: es) X.env)) []) _ _ _
  refine PyProof.Rows.callWith_method1 (thn (ha.run pos pins _ σ H _ (I.tok _) h) fun us s1 z => ?_) he hpl
  obtain ⟨vs, H1, I1, r1, a, C, ws, rfl, hl, T, ea, q⟩ := z
  cases r1 with
  | @cons _ u0 _ ur ra rw' =>
    cases (show u0 = Value.ref a from ra)
    exact oinit_ok T I1 ea (by rw [← Paired.length rw', sizeLine_eq]; omega) fun s' J => ⟨.non, H1, J, rfl, q⟩
/-- what is known of such a class -/
structure XIn (E : En) (P : Program) (w : World) (K : PySem.W.Frag) (mg : Str → Option Value) (base : Heap) (c : Nat) : Prop where
  isX : E.isX c = true
  oex : OexC K (E.cad c)
  run : ∃ (fI : Addr) (fd : FuncData) (ps : List Str), PySem.W.findIn K (.ref (E.cad c)) "__init__" = some (some (.ref fI)) ∧ PySem.W.typeIn K (.ref fI) = some (.type "function") ∧ Binds K fd ps [] ∧ ∀ k, FnOk P w K mg base (L2N.CX P w) (k + 1) fI fd ps (spI (E.cad c) (E.efl c))
def raiseA (c : Nat) : List AV → M AV := fun as A => match as with
  | [_, .int i] => .err c (some i) A
  | _ => .bad
def XOk (E : En) (P : Program) (w : World) (K : PySem.W.Frag) (mg : Str → Option Value) (base : Heap) (k c : Nat) (g : List AV → M AV) : Prop := (∀ as A, g as A = .bad) ∨ ∃ k', k = k' + 2 ∧ g = raiseA c ∧ XIn E P w K mg base c
theorem xin_of {E : En} {P : Program} {w : World} {K : PySem.W.Frag} {mg : Str → Option Value} {base : Heap} {c : Nat} {x qual : Str} {params : Arguments} {body : List Stmt} {scope : Scope} {f B : Addr} {fd : FuncData} {N ps : List Str} (hX : E.isX c = true) (q : XiF K (E.cad c) f (E.efl c) B)
    (F : FunD K x qual params body scope [] [] f fd) (S : FnScope N ps scope) (hp : ps.length = 3) (hst : ∀ a b d : V, L2.start N [a, b, d] = [some a, some b, some d]) (b : Binds K fd ps [])
    (h : ∀ (cdv : Value) (A : Around) (outer : List Env) (s : Shared) (H : Hp) (Ex : XK), PSs (cxD P w K mg base N qual scope f cdv A outer s H Ex) body (tSeq (tDrop (tVeI K (tCons (tVar 0) (tCons (tVar 1) tNil)))) (tOst K (E.efl c) (tVar 0) (tVar 2)))) : XIn E P w K mg base c := by
  refine ⟨hX, q.oex, f, fd, ps, q.ini, q.tI, b, fun k => F.ok S (fun vs H Q Ex z => ?_) fun cdv A outer s H vs Q Ex _ z => ?_⟩
  · obtain ⟨a, m, y, rfl, _⟩ := z
    exact hp.symm
  · obtain ⟨a, m, y, rfl, z1, z2⟩ := z
    refine ⟨_, h cdv A outer s H Ex, ?_⟩
    rw [hst]
    exact ⟨_, rfl, _, rfl, a, E.cad c, [m], rfl, (show 1 ≤ 1000 by omega), q.oex, z1, _, rfl, _, rfl, a, E.cad c, rfl, q.oex, q.nof, .inl ⟨z1, z2⟩⟩
section
variable {E : En} {X : Cx} {W : WX} {k : Nat}
/-- C('..', e) made, raised: what is seen behind its __init__ -/
theorem mkN {c k' : Nat} {x : Str} {e : Expr} {es : List Expr} {ta : TA} {p pos : Pos} (hr : Room (k' + 2) X.A) (D : XIn E X.prog X.w X.K X.mg X.base c) (hg : Gl X x) (gC : X.mg x = some (.ref (E.cad c))) (ha : PA X (e :: es) ta) (hdb : (x == ("__debug__" : Str)) = false)
    (he : starEach (e :: es) X.env = (false, eval e X.env) :: starEach es X.env) (hpl : (backTo pos (starEach es X.env)).any (·.1) = false) :
    L2N.PMk X (.Call (.Name x p) (e :: es) [] pos) fun σ H Q => ta σ H fun vs H1 => ∃ m y, vs = [m, y] ∧ ∀ d a, H1 a = none → H1 d = none → d ≠ a → ∀ H2, H2 d = some (.xd [(E.efl c, y)]) → (∀ b, b ≠ d → H2 b = H1 b) → Q (.ref (E.cad c)) (some d) H2 := by
  intro pins s σ H Q I h
  obtain ⟨fI, fd, ps, iC, tI, hb, F0⟩ := D.run
  have F1 := F0 k'
  have T := D.oex
  obtain ⟨nm, q, N, bs, bm, sn, sub, ab, col, dd, k0, k1, k2, k3, k5, hC, hbm⟩ := T.cls
  refine wpAny_Call_Name_kw (ld_glob I hg gC (PySem.W.callWith_K (h₀ := X.base) I.ok.mod.kin T.kC (thn (ha.run pos pins s σ H _ I h) fun us s1 z => ?_) he hpl) hdb)
  obtain ⟨vs, H1, I1, r1, m, y, rfl, q1⟩ := z
  refine ⟨I1.kIn, ?_⟩
  show wpAny _ _ (call (.ref (E.cad c)) us) _ _ _
  obtain ⟨hp, g, dr, tk, os⟩ := s1
  obtain ⟨a, eA⟩ : ∃ a, a = hp.objs.size + 1 := ⟨_, rfl⟩
  have hsz : hp.objs.size ≤ a := by rw [eA]; exact Nat.le_succ _
  have hn : H1 a = none := I1.hok.fresh hsz
  have kk : ∀ b o, hp.get? b = some o → ((hp.push (PySem.W.kdv_tup us)).push (PySem.HandSPX.excO (E.cad c) hp.objs.size)).get? b = some o := fun b o e => Heap.get?_push_of_some _ (Heap.get?_push_of_some _ e)
  have hget : ((hp.push (PySem.W.kdv_tup us)).push (PySem.HandSPX.excO (E.cad c) hp.objs.size)).get? a = some (PySem.HandSPX.excO (E.cad c) hp.objs.size) := by rw [eA]; heap_get
  have I2 := I1.laid (t' := tk) (a := a) (o := exo a (E.cad c) none) (h' := (hp.push (PySem.W.kdv_tup us)).push (PySem.HandSPX.excO (E.cad c) hp.objs.size)) kk hsz (exo_ok hget)
  have r2 : Vals [V.ref a, m, y] (Value.ref a :: us) := .cons rfl r1
  have hq : spI (E.cad c) (E.efl c) [V.ref a, m, y] (upd H1 a (exo a (E.cad c) none)) (fun v H2 => v = .non ∧ ∃ d, H2 a = some (exo a (E.cad c) (some d)) ∧ H2 d = some (exd d [(E.efl c, y)]) ∧ H1 d = none ∧ Q (.ref (E.cad c)) (some d) (upd (del H2 a) d (.xd [(E.efl c, y)]))) (fun _ _ _ => False) := by
    refine ⟨a, m, y, rfl, upd_same, fun dx n ne => ?_⟩
    rw [upd_ne ne] at n
    refine ⟨rfl, dx, upd_same, by rw [upd_ne ne, upd_same], n, q1 dx a hn n ne _ upd_same fun b hb => ?_⟩
    rw [upd_ne hb]
    by_cases z : b = a
    · rw [z, del_same, hn]
    · rw [del_ne z, upd_ne z, upd_ne hb, upd_ne z]
  have hl : (Value.ref a :: us ++ []).length = ps.length := by
    rw [List.append_nil, ← r2.length]
    exact F1.len _ _ _ _ hq
  have b2 := hb _ (Value.ref a :: us) I2.kIn hl
  rw [List.append_nil] at b2
  have hus : us.length ≤ sizeLine := by
    rw [← Paired.length r1, sizeLine_eq]
    show 2 ≤ 16777216
    omega
  have hr1 : Room (k' + 1) (X.A.under (.builtin "type.__call__" ⟨.ref (E.cad c) :: us, []⟩)) := hr.make (E.cad c) us []
  subst eA
  refine wpAny_call (PySem.HandSPX.call_own F.excBase_ValueError (fun Y => PySem.HandSPX.refsVE_contains Y bm hbm) (I1.kIn _ _ hC) (PySem.W.looks_findIn I1.kIn iC) (fun self => PySem.W.bind_fn I1.kIn self tI) hus ?_)
  refine codeAny_mono (F1.run _ X.stack _ _ ⟨Value.ref (hp.objs.size + 1) :: us, []⟩ _ _ _ (fun _ _ _ => False) hr1 (I2.env0.make _ us []) b2 r2 hq) fun r s' hq' => ?_
  cases r with
  | error er =>
    obtain ⟨_, _, _, _, _, _, _, _, _, _, _, _, w⟩ := hq'
    exact w.elim
  | ok fl =>
    cases fl with
    | ret u =>
      obtain ⟨v, H2, os2, bare2, un2, hok2, rv, rfl, d, ea, ed, hd1, q2⟩ := hq'
      obtain ⟨h2, g2, d2, t2, os'⟩ := s'
      obtain ⟨t0, G, J, kG, ge, hoe, na⟩ := mk_end0 (d2 := d2) (t2 := t2) I1 hsz kk un2 hok2 os2 bare2 ea ed hd1
      exact ⟨rv, hp.objs.size + 1, _, _, ⟨G, g2, d2, t2, os'⟩, _, .ref (E.cad c), some d, rfl, J, kG, ge, hoe, ⟨rfl, rfl, fun vs hv => by cases hv; rfl⟩, rfl, rfl, na, rfl, bare2, raises_own T.exC T.tyC, q2⟩
    | next => exact hq'.elim
    | brk => exact hq'.elim
    | cont => exact hq'.elim
/-- where what is handed over never comes -/
theorem mk0 {C : Addr} {x : Str} {e : Expr} {es : List Expr} {ta : TA} {p pos : Pos} (kC : PySem.W.keepIn X.K (.ref C) = true) (hg : Gl X x) (gC : X.mg x = some (.ref C)) (ha : PA X (e :: es) ta) (hdb : (x == ("__debug__" : Str)) = false)
    (he : starEach (e :: es) X.env = (false, eval e X.env) :: starEach es X.env) (hpl : (backTo pos (starEach es X.env)).any (·.1) = false) : L2N.PMk X (.Call (.Name x p) (e :: es) [] pos) fun σ H _ => ta σ H fun _ _ => False := by
  intro pins s σ H Q I h
  refine wpAny_Call_Name_kw (ld_glob I hg gC (PySem.W.callWith_K (h₀ := X.base) I.ok.mod.kin kC (thn (ha.run pos pins s σ H _ I h) fun us s1 z => ?_) he hpl) hdb)
  obtain ⟨_, _, _, _, hF⟩ := z
  exact hF.elim
theorem exd_frz {e : Addr} {fs : List (Str × V)} {o : Obj} {u : HO} : exd e fs ≠ .frz o u := fun z => nomatch (show HO.ext _ = HO.frz o u from z)
theorem exd_tbl {e : Addr} {fs : List (Str × V)} {ps : Array Value} : exd e fs ≠ .tbl ps := fun z => nomatch (show HO.ext _ = HO.tbl ps from z)
/-- C('..', e) as a value -/
theorem vaN {c k' : Nat} {x : Str} {e : Expr} {es : List Expr} {ta : TA} {p pos : Pos} (hr : Room (k' + 2) X.A) (D : XIn E X.prog X.w X.K X.mg X.base c) (hg : Gl X x) (gC : X.mg x = some (.ref (E.cad c))) (ha : PA X (e :: es) ta) (hdb : (x == ("__debug__" : Str)) = false)
    (he : starEach (e :: es) X.env = (false, eval e X.env) :: starEach es X.env) (hpl : (backTo pos (starEach es X.env)).any (·.1) = false) :
    PE X (.Call (.Name x p) (e :: es) [] pos) fun σ H Q => ta σ H fun vs H1 => ∃ m y, vs = [m, y] ∧ ∀ d a, H1 a = none → H1 d = none → d ≠ a → ∀ H2, H2 a = some (exo a (E.cad c) (some d)) → H2 d = some (.xd [(E.efl c, y)]) → (∀ b, b ≠ d → b ≠ a → H2 b = H1 b) → Q (.ref a) H2 := by
  refine ⟨fun pins s σ H Q I h => ?_⟩
  obtain ⟨fI, fd, ps, iC, tI, hb, F0⟩ := D.run
  have F1 := F0 k'
  have T := D.oex
  obtain ⟨nm, q, N, bs, bm, sn, sub, ab, col, dd, k0, k1, k2, k3, k5, hC, hbm⟩ := T.cls
  refine wpAny_Call_Name_kw (ld_glob I hg gC (PySem.W.callWith_K (h₀ := X.base) I.ok.mod.kin T.kC (thn (ha.run pos pins s σ H _ I h) fun us s1 z => ?_) he hpl) hdb)
  obtain ⟨vs, H1, I1, r1, m, y, rfl, q1⟩ := z
  refine ⟨I1.kIn, ?_⟩
  show wpAny _ _ (call (.ref (E.cad c)) us) _ _ _
  obtain ⟨hp, g, dr, tk, os⟩ := s1
  obtain ⟨a, eA⟩ : ∃ a, a = hp.objs.size + 1 := ⟨_, rfl⟩
  have hsz : hp.objs.size ≤ a := by rw [eA]; exact Nat.le_succ _
  have hn : H1 a = none := I1.hok.fresh hsz
  have kk : ∀ b o, hp.get? b = some o → ((hp.push (PySem.W.kdv_tup us)).push (PySem.HandSPX.excO (E.cad c) hp.objs.size)).get? b = some o := fun b o e => Heap.get?_push_of_some _ (Heap.get?_push_of_some _ e)
  have hget : ((hp.push (PySem.W.kdv_tup us)).push (PySem.HandSPX.excO (E.cad c) hp.objs.size)).get? a = some (PySem.HandSPX.excO (E.cad c) hp.objs.size) := by rw [eA]; heap_get
  have I2 := I1.laid (t' := tk) (a := a) (o := exo a (E.cad c) none) (h' := (hp.push (PySem.W.kdv_tup us)).push (PySem.HandSPX.excO (E.cad c) hp.objs.size)) kk hsz (exo_ok hget)
  have r2 : Vals [V.ref a, m, y] (Value.ref a :: us) := .cons rfl r1
  have hq : spI (E.cad c) (E.efl c) [V.ref a, m, y] (upd H1 a (exo a (E.cad c) none)) (fun v H2 => v = .non ∧ ∃ d, d ≠ a ∧ H2 a = some (exo a (E.cad c) (some d)) ∧ H2 d = some (exd d [(E.efl c, y)]) ∧ H1 d = none ∧ Q (.ref a) (upd H2 d (.xd [(E.efl c, y)]))) (fun _ _ _ => False) := by
    refine ⟨a, m, y, rfl, upd_same, fun dx n ne => ?_⟩
    rw [upd_ne ne] at n
    refine ⟨rfl, dx, ne, upd_same, by rw [upd_ne ne, upd_same], n, q1 dx a hn n ne _ ?_ upd_same fun b hb hb2 => ?_⟩
    · rw [upd_ne (Ne.symm ne), upd_same]
    · rw [upd_ne hb, upd_ne hb2, upd_ne hb, upd_ne hb2]
  have hl : (Value.ref a :: us ++ []).length = ps.length := by
    rw [List.append_nil, ← r2.length]
    exact F1.len _ _ _ _ hq
  have b2 := hb _ (Value.ref a :: us) I2.kIn hl
  rw [List.append_nil] at b2
  have hus : us.length ≤ sizeLine := by
    rw [← Paired.length r1, sizeLine_eq]
    show 2 ≤ 16777216
    omega
  have hr1 : Room (k' + 1) (X.A.under (.builtin "type.__call__" ⟨.ref (E.cad c) :: us, []⟩)) := hr.make (E.cad c) us []
  subst eA
  refine wpAny_call (PySem.HandSPX.call_own F.excBase_ValueError (fun Y => PySem.HandSPX.refsVE_contains Y bm hbm) (I1.kIn _ _ hC) (PySem.W.looks_findIn I1.kIn iC) (fun self => PySem.W.bind_fn I1.kIn self tI) hus ?_)
  refine codeAny_mono (F1.run _ X.stack _ _ ⟨Value.ref (hp.objs.size + 1) :: us, []⟩ _ _ _ (fun _ _ _ => False) hr1 (I2.env0.make _ us []) b2 r2 hq) fun r s' hq' => ?_
  cases r with
  | error er =>
    obtain ⟨_, _, _, _, _, _, _, _, _, _, _, _, w⟩ := hq'
    exact w.elim
  | ok fl =>
    cases fl with
    | ret u =>
      obtain ⟨v, H2, os2, bare2, un2, hok2, rv, rfl, d, nda, ea, ed, hd1, q2⟩ := hq'
      obtain ⟨h2, g2, d2, t2, os'⟩ := s'
      obtain ⟨mA, hns, rel⟩ := exd_at hok2 ed
      have hok3 : HOk X.prog X.w (upd H2 d (.xd [(E.efl c, y)])) h2 := fun b o z => by
        by_cases hbd : b = d
        · subst hbd
          rw [upd_same] at z
          cases z
          exact ⟨mA, hns, rel⟩
        · rw [upd_ne hbd] at z
          exact (hok2 b o z).stay (fun c v _ y => y) (fun c hc => by rw [upd_ne (at_ne ed hc exd_own)]; exact hc) fun c xs hc => by rw [upd_ne (at_ne ed hc exd_tup)]; exact hc
      have U : Un (frs X.stack) [] (upd H1 (hp.objs.size + 1) (exo (hp.objs.size + 1) (E.cad c) none)) (upd H2 d (.xd [(E.efl c, y)])) ((hp.push (PySem.W.kdv_tup us)).push (PySem.HandSPX.excO (E.cad c) hp.objs.size)) h2 := {
        keep := un2.keep
        slot := un2.slot
        free := fun b o z n hx => by
          have w := un2.free b o z n hx
          rw [upd_ne fun q => by rw [q, ed] at w; cases w]
          exact w
        there := un2.there
        tups := fun b xs z => by have w := un2.tups b xs z; rw [upd_ne (at_ne ed w exd_tup)]; exact w
        frzs := fun b o v z => by have w := un2.frzs b o v z; rw [upd_ne (at_ne ed w exd_frz)]; exact w
        tbls := fun b ps z => by obtain ⟨qs, w⟩ := un2.tbls b ps z; exact ⟨qs, by rw [upd_ne (at_ne ed w exd_tbl)]; exact w⟩ }
      have J := I2.call' (ch := []) (s' := ⟨h2, g2, d2, t2, os'⟩) os2 U hok3 bare2 (fun b z => absurd z (by simp))
      exact ⟨rv, .ref (hp.objs.size + 1), _, J, rfl, q2⟩
    | next => exact hq'.elim
    | brk => exact hq'.elim
    | cont => exact hq'.elim
def errS (σ : ASt) (r : Res AV) : SR := match r with
  | .err c x A => .er σ c x A
  | _ => .bad
/-- raise C('..', e) -/
def sRaiseN (g : List AV → M AV) (fa : Den (List AV)) : SDen := fun σ A => (fa σ A).toS σ fun as A1 => errS σ (g as A1)
theorem ss_raiseN {c : Nat} {x : Str} {e : Expr} {es : List Expr} {fa : Den (List AV)} {g : List AV → M AV} {p pos pos' : Pos} (ct : Ctx E k X W) (hX : E.isX c = true) (hx : XOk E X.prog X.w X.K X.mg X.base k c g) (gC : X.mg x = some (.ref (E.cad c))) (hg : Gl X x) (ha : SA E X W (e :: es) fa) (hdb : (x == ("__debug__" : Str)) = false)
    (he : starEach (e :: es) X.env = (false, eval e X.env) :: starEach es X.env) (hpl : (backTo pos (starEach es X.env)).any (·.1) = false) :
    SS E X W (.Raise (some (.Call (.Name x p) (e :: es) [] pos)) none pos') (sRaiseN g fa) := by
  rcases hx with hx | ⟨k', rfl, rfl, D⟩
  · refine PS.imp (L2N.ps_raise ct.calm ct.tk (mk0 (pos := pos) (p := p) (C := E.cad c) (ct.hK ▸ (E.excOk c hX).kp) hg gC ha hdb he hpl)) fun D' σ H h => ?_
    refine rdS_step (f := fa) (g := fun σ as A1 => errS σ (g as A1)) h fun us H1 ρ σa A as hs hh hv q => ?_
    rw [hx] at q
    exact q
  · refine PS.imp (L2N.ps_raise ct.calm ct.tk (mkN (pos := pos) (p := p) ct.room D hg gC ha hdb he hpl)) fun D' σ H h => ?_
    refine rdS_step (f := fa) (g := fun σ as A1 => errS σ (raiseA c as A1)) h fun us H1 ρ σa A as hs hh hv q => ?_
    have key : ∃ v i, as = [v, .int i] := by
      revert q
      unfold raiseA
      split
      · intro _; exact ⟨_, _, rfl⟩
      · intro q; exact q.elim
    obtain ⟨v, i, rfl⟩ := key
    obtain ⟨m, r1, e1, hm, y, r2, e2, hy, e3⟩ := hv
    subst e1 e2 e3
    cases (show y = V.int i from hy)
    refine ⟨m, .int i, rfl, fun d a na nd ne H2 hd hk => ?_⟩
    obtain ⟨z1, z2⟩ := hh.keep (H' := H2) fun b u e => by rw [hk b (ne_of_none e nd)]; exact e
    exact q ρ H2 σ (some d) z2 z1 (hs.ext z2) ⟨d, rfl, hd⟩
/-- where what is handed over never comes: as a value -/
theorem va0 {C : Addr} {x : Str} {e : Expr} {es : List Expr} {ta : TA} {p pos : Pos} (kC : PySem.W.keepIn X.K (.ref C) = true) (hg : Gl X x) (gC : X.mg x = some (.ref C)) (ha : PA X (e :: es) ta) (hdb : (x == ("__debug__" : Str)) = false)
    (he : starEach (e :: es) X.env = (false, eval e X.env) :: starEach es X.env) (hpl : (backTo pos (starEach es X.env)).any (·.1) = false) : PE X (.Call (.Name x p) (e :: es) [] pos) fun σ H _ => ta σ H fun _ _ => False := by
  refine ⟨fun pins s σ H Q I h => ?_⟩
  refine wpAny_Call_Name_kw (ld_glob I hg gC (PySem.W.callWith_K (h₀ := X.base) I.ok.mod.kin kC (thn (ha.run pos pins s σ H _ I h) fun us s1 z => ?_) he hpl) hdb)
  obtain ⟨_, _, _, _, hF⟩ := z
  exact hF.elim
def excV (r : Res AV) : Res AV := match r with
  | .err c (some i) A => .ok (.exc c (some i)) A
  | _ => .bad
@[simp] theorem excV_err (c : Nat) (i : Int) (A : AHp) : excV (.err c (some i) A) = .ok (.exc c (some i)) A := (rfl)
@[simp] theorem errS_err (σ : ASt) (c : Nat) (x : Option Int) (A : AHp) : errS σ (.err c x A) = .er σ c x A := (rfl)
@[simp] theorem e_raiseA (c : Nat) (v : AV) (i : Int) (A : AHp) : raiseA c [v, .int i] A = .err c (some i) A := (rfl)
@[simp] theorem e_sRaiseN (g : List AV → M AV) (fa : Den (List AV)) (σ : ASt) (A : AHp) : sRaiseN g fa σ A = (fa σ A).toS σ fun as A1 => errS σ (g as A1) := (rfl)
/-- C('..', e), a value -/
def dExcN (g : List AV → M AV) (fa : Den (List AV)) : Den AV := fun σ A => (fa σ A).bind fun as A1 => excV (g as A1)
@[simp] theorem e_dExcN (g : List AV → M AV) (fa : Den (List AV)) (σ : ASt) (A : AHp) : dExcN g fa σ A = (fa σ A).bind fun as A1 => excV (g as A1) := (rfl)
theorem se_excN {c : Nat} {x : Str} {e : Expr} {es : List Expr} {fa : Den (List AV)} {g : List AV → M AV} {p pos : Pos} (ct : Ctx E k X W) (hX : E.isX c = true) (hx : XOk E X.prog X.w X.K X.mg X.base k c g) (gC : X.mg x = some (.ref (E.cad c))) (hg : Gl X x) (ha : SA E X W (e :: es) fa) (hdb : (x == ("__debug__" : Str)) = false)
    (he : starEach (e :: es) X.env = (false, eval e X.env) :: starEach es X.env) (hpl : (backTo pos (starEach es X.env)).any (·.1) = false) : SE E X W (.Call (.Name x p) (e :: es) [] pos) (dExcN g fa) := by
  rcases hx with hx | ⟨k', rfl, rfl, D⟩
  · refine PE.imp (va0 (pos := pos) (p := p) (C := E.cad c) (ct.hK ▸ (E.excOk c hX).kp) hg gC ha hdb he hpl) fun σ H Q h => ?_
    refine rd_step (f := fa) (g := fun σ as A1 => excV (g as A1)) h fun us H1 ρ σa A as hs hh hv q => ?_
    rw [hx] at q
    exact q
  · refine PE.imp (vaN (pos := pos) (p := p) ct.room D hg gC ha hdb he hpl) fun σ H Q h => ?_
    refine rd_step (f := fa) (g := fun σ as A1 => excV (raiseA c as A1)) h fun us H1 ρ σa A as hs hh hv q => ?_
    have key : ∃ v i, as = [v, .int i] := by
      revert q
      unfold raiseA
      split
      · intro _; exact ⟨_, _, rfl⟩
      · intro q; exact q.elim
    obtain ⟨v, i, rfl⟩ := key
    obtain ⟨m, r1, e1, hm, y, r2, e2, hy, e3⟩ := hv
    subst e1 e2 e3
    cases (show y = V.int i from hy)
    refine ⟨m, .int i, rfl, fun d a na nd ne H2 h2a h2d hk => ?_⟩
    obtain ⟨z1, z2⟩ := hh.keep (H' := H2) fun b u e => by rw [hk b (ne_of_none e nd) (ne_of_none e na)]; exact e
    exact q ρ H2 (.ref a) z2 z1 ⟨a, some d, _, rfl, h2a, fun h ⟨t1, ht⟩ => ⟨_, ht, rfl, rfl, _, rfl⟩, hX, d, rfl, h2d⟩
/-! ### the number of an exception -/
structure XfI (E : En) (K : PySem.W.Frag) (c : Nat) : Prop where
  nof : PySem.W.findIn K (.ref (E.cad c)) (E.efl c) = some none
  hd : PySem.W.hasDictIn K (E.cad c) = true
def xfA (cs : List Nat) (v : AV) (A : AHp) : Res AV := match v with
  | .exc c (some i) => if cs.contains c = true then .ok (.int i) A else .bad
  | .hx c (some i) => if cs.contains c = true then .ok (.int i) A else .bad
  | _ => .bad
def dXf (cs : List Nat) (fe : Den AV) : Den AV := fun σ A => (fe σ A).bind fun v A1 => xfA cs v A1
@[simp] theorem e_dXf (cs : List Nat) (fe : Den AV) (σ : ASt) (A : AHp) : dXf cs fe σ A = (fe σ A).bind fun v A1 => xfA cs v A1 := (rfl)
@[simp] theorem xfA_exc (cs : List Nat) (c : Nat) (i : Int) (A : AHp) : xfA cs (.exc c (some i)) A = if cs.contains c = true then .ok (.int i) A else .bad := (rfl)
@[simp] theorem xfA_hx (cs : List Nat) (c : Nat) (i : Int) (A : AHp) : xfA cs (.hx c (some i)) A = if cs.contains c = true then .ok (.int i) A else .bad := (rfl)
theorem xf_obj {pins : List (Addr × Obj)} {σ : St} {H : Hp} {s : Shared} {ρ : List Addr} (I : Inv X pins σ H s) (hot : HotX E X) {v : AV} {x : V} {c : Nat} {i : Int} (r : RV E ρ H v x) (e : v = .exc c (some i) ∨ v = .hx c (some i)) :
    ∃ a oe dd, x = .ref a ∧ s.heap.get? a = some oe ∧ oe.cls = .ref (E.cad c) ∧ oe.dict = some dd ∧ (∃ vs, oe.data = .fields vs) ∧ H dd = some (.xd [(E.efl c, V.int i)]) ∧ E.isX c = true := by
  rcases e with rfl | rfl
  · obtain ⟨a, d, φ, rfl, w, hφ, hX, dd, rfl, e2⟩ := r
    obtain ⟨h1, _, _⟩ := I.hok a _ w
    obtain ⟨oe, g1, g2, g3, g4⟩ := hφ _ h1
    exact ⟨a, oe, dd, rfl, g1, g2, g3, g4, e2, hX⟩
  · obtain ⟨a, d, eh, rfl, dd, rfl, e2⟩ := r
    obtain ⟨p, hp, hh⟩ := hot
    obtain ⟨ea, g2, g3, g4, hX⟩ := hh _ _ _ _ eh
    subst ea
    rcases hp with hp | hp
    · rw [hp] at eh; cases eh
    · exact ⟨p.1, p.2, dd, rfl, (I.pin p (List.mem_append_left _ hp)).1, g2, g3, g4, e2, hX⟩
theorem se_xf {cs : List Nat} {n : Str} {e : Expr} {fe : Den AV} {pos : Pos} (hK : X.K = E.K) (hot : HotX E X) (h : ∀ c, cs.contains c = true → XfI E X.K c ∧ E.efl c = n) (he : SE E X W e fe) (hb : attributeBase e n X.env (eval e X.env) = eval e X.env) : SE E X W (.Attribute e n pos) (dXf cs fe) := by
  refine ⟨fun pins s σ H Q I hq => attr_of hb (thn (he.run pins s σ H (fun x H1 => ∃ ρ v c i, RV E ρ H1 v x ∧ (v = .exc c (some i) ∨ v = .hx c (some i)) ∧ cs.contains c = true ∧ Q (.int i) H1) I ?_) fun u s1 z => ?_)⟩
  · refine rd_step (f := fe) (g := fun σ v A1 => xfA cs v A1) hq fun x H1 ρ σa A v hs hh hx q => ?_
    unfold xfA at q
    split at q
    · split at q
      · exact ⟨ρ, _, _, _, hx, .inl rfl, by assumption, q ρ H1 _ (Ext.refl _ _) hh rfl⟩
      · exact q.elim
    · split at q
      · exact ⟨ρ, _, _, _, hx, .inr rfl, by assumption, q ρ H1 _ (Ext.refl _ _) hh rfl⟩
      · exact q.elim
    · exact q.elim
  · obtain ⟨x, H1, I1, rx, ρ, v, c, i, rv, ev, hc, q⟩ := z
    obtain ⟨T, en⟩ := h c hc
    obtain ⟨a, oe, dd, rfl, g1, g2, g3, ⟨vs, g4⟩, hd, hX⟩ := xf_obj I1 hot rv ev
    obtain rfl : u = Value.ref a := rx
    obtain ⟨mA, hns, hr⟩ := (show ObjOk X.prog X.w H1 s1.heap dd (.xd _) from I1.hok dd _ hd)
    obtain ⟨od, ho, hl⟩ := lookIn_ns hns
    obtain ⟨u, hu, ru⟩ := RelO.some_of (v := V.int i) (o := mA n) (by rw [← en]; have := hr (E.efl c); rw [lookup_put, if_pos rfl] at this; exact this)
    have F := E.excOk c hX
    rw [← hK] at F
    have J : PySem.W.InstAt s1.heap a oe (E.cad c) (some od) := ⟨g1, g2, by unfold PySem.W.notCls; rw [g4] <;> rfl, by rw [g3]; exact ho⟩
    exact PySem.HandSPX.exc_get I1.kIn J F.ga F.gt F.sub (PySem.W.findObj_own T.hd (by rw [← en]; exact T.nof) rfl (by rw [hl, hu])) (handed_of ru) ⟨.int i, H1, I1.tok _, ru, q⟩
end
theorem xfl_nil {P : Nat → Prop} : ∀ c, ([] : List Nat).contains c = true → P c := fun c h => by simp at h
theorem xfl_cons {P : Nat → Prop} {a : Nat} {l : List Nat} (h : P a) (r : ∀ c, l.contains c = true → P c) : ∀ c, (a :: l).contains c = true → P c := fun c hc => by
  rw [List.contains_cons, Bool.or_eq_true] at hc
  rcases hc with hc | hc
  · rw [beq_iff_eq] at hc; rw [hc]; exact h
  · exact r c hc
end Ev
end
section
/-! Ev, twenty-fifth part: three names at once; the table of a program with classes. -/
namespace Ev
open PySem PySem.Spec L2
set_option autoImplicit false
section
variable {E : En} {X : Cx} {W : WX} {k : Nat} {ρ : List Addr} {H : Hp}
def sPar3 (i j l : Nat) (f : Den (List AV)) : SDen := fun σ A => (f σ A).toS σ fun vs A1 => match vs with
  | [v, w, u] => .nx (((σ.set i (some v)).set j (some w)).set l (some u)) A1
  | _ => .bad
theorem ss_par3 {i j l : Nat} {x y z : Str} {a b d : Expr} {f : Den (List AV)} {px py pz pt pos : Pos} {kt k2 : Nat} {pt2 : Pos} (c : Ctx E k X W) (hN : X.N.Nodup) (hi : X.N[i]? = some x) (hj : X.N[j]? = some y) (hl : X.N[l]? = some z) (hij : i ≠ j) (hil : i ≠ l) (hjl : j ≠ l)
    (hx : X.env.scope.names.lookup x = some .local) (hy : X.env.scope.names.lookup y = some .local) (hz : X.env.scope.names.lookup z = some .local) (ha : SA E X W [a, b, d] f)
    (hw : swappedStores [.Tuple [.Name x px, .Name y py, .Name z pz] kt pt] (.Tuple [a, b, d] k2 pt2) X.env = pure (some [x, y, z]))
    (hs : swapsWithSole [.Tuple [.Name x px, .Name y py, .Name z pz] kt pt] (.Tuple [a, b, d] k2 pt2) pos.line X.env = pure false) :
    SS E X W (.Assign [.Tuple [.Name x px, .Name y py, .Name z pz] kt pt] (.Tuple [a, b, d] k2 pt2) pos) (sPar3 i j l f) := by
  refine PS.imp (ps_par3 c.calm hN hi hj hl hij hil hjl hx hy hz ha hw hs) fun D σ H h => ?_
  refine rdS_step h fun x' H1 ρ σa A x hs hh hx q => ?_
  rcases x with _ | ⟨v, _ | ⟨w, _ | ⟨u, _ | ⟨t, r⟩⟩⟩⟩
  · exact q.elim
  · exact q.elim
  · exact q.elim
  · obtain ⟨y1, l1, rfl, r1, r2⟩ := hx
    obtain ⟨y2, y3, rfl, r2, r3⟩ := rvs2 r2
    exact ⟨y1, y2, y3, rfl, q ρ H1 _ (Ext.refl _ _) hh (((hs.set i r1).set j r2).set l r3)⟩
  · exact q.elim
@[simp] theorem e_sPar3 (i j l : Nat) (f : Den (List AV)) (σ : ASt) (A : AHp) : sPar3 i j l f σ A = (f σ A).toS σ fun vs A1 => match vs with
  | [v, w, u] => .nx (((σ.set i (some v)).set j (some w)).set l (some u)) A1
  | _ => .bad := (rfl)
def gAdd (i j : Int) : Int := i + j
def gSub (i j : Int) : Int := i - j
@[simp] theorem e_gAdd (i j : Int) : gAdd i j = i + j := (rfl)
@[simp] theorem e_gSub (i j : Int) : gSub i j = i - j := (rfl)
theorem rd_add (i j : Int) (H : Hp) (Q : VK) (q : Q (.int (gAdd i j)) H) : rAdd (.int i) (.int j) H Q := ⟨i, j, rfl, rfl, q⟩
theorem rd_sub (i j : Int) (H : Hp) (Q : VK) (q : Q (.int (gSub i j)) H) : rSub (.int i) (.int j) H Q := ⟨i, j, rfl, rfl, q⟩
end
section
variable {P : Program} {w : World} {K : PySem.W.Frag} {mg : Str → Option Value} {base : Heap}
theorem calh_bad {E : En} {x qual : Str} {params : Arguments} {body : List Stmt} {scope : Scope} {f : Addr} {fd : FuncData} {ps : List Str} (F : FunD K x qual params body scope [] [] f fd) (b : Binds K fd ps []) : CalH E P w K mg base 0 f ps.length (fun _ _ => .bad) := by
  refine ⟨F.kp, fd, ps, b, rfl, fun A outer s H us vs Q Ex p _ _ _ _ _ _ _ _ hsp => ?_⟩
  obtain ⟨_, _, _, _, _, _, q⟩ := hsp
  exact q.elim
/-- the lists that a program's table is made by -/
structure Lay where
  nms : List (String × Nat)
  fids : List Nat
  frees : List String
  iL : List (String × Int)
  sL : List (String × String)
  cL : List (String × Nat)
  mkL : List (Nat × Nat)
  xL : List Nat
  hot : List Nat
  xiL : List Nat := []
structure TM (E : En) (P : Program) (w : World) (K : PySem.W.Frag) (mg : Str → Option Value) (base : Heap) (k : Nat) (r : Nat → List AV → M AV) (L : Lay) (fad : Nat → Addr) (tp : List (String × List Str)) : Prop where
  fn : ∀ i, i < L.nms.length → Cal E P w K mg base k (fad i) ((L.nms.map (·.2)).getD i 0) (r (L.fids.getD i 0))
  gf : ∀ i (x : String), (L.nms.map (·.1))[i]? = some x → x ≠ "" → mg (x : Str) = some (.ref (fad i))
  fr : ∀ x : String, L.frees.contains x = true → mg (x : Str) = none
  ci : ∀ (x : String) (i : Int), L.iL.contains (x, i) = true → ∃ t, mg (x : Str) = some (.int i t)
  cs : ∀ (x z : String), L.sL.contains (x, z) = true → ∃ t, mg (x : Str) = some (.str (z : Str) t)
  cl : ∀ (x : String) (c : Nat), L.cL.contains (x, c) = true → mg (x : Str) = some (.ref (E.cad c))
  mke : ∀ c n, L.mkL.contains (c, n) = true → MkA E P w K mg base k c n (r (1000 + c))
  ex : ∀ c, L.xL.contains c = true → ExF K (E.cad c)
  tp : ∀ (x : String) (zs : List Str), (x, zs) ∈ tp → ∃ a, mg (x : Str) = some (.ref a) ∧ ∀ H, SqT K H a (zs.map V.str)
  xi : ∀ c, L.xiL.contains c = true → XOk E P w K mg base k c (r (2000 + c))
  xf : ∀ c, L.xiL.contains c = true → XfI E K c
  fh : ∀ z i, L.hot.contains i = true → CalH (E.heat z) P w K mg base k (fad i) ((L.nms.map (·.2)).getD i 0) (r (L.fids.getD i 0))
theorem exf_of {x : Str} (c : (He.Fa.exc x).ok K = true) : ExF K (He.ga K x) := by
  obtain ⟨h1, h2, h3, h4⟩ := He.exc_ok c
  exact ⟨h1, h2, h3, h4⟩
theorem mkEn_exm2 {N : Nm} {w0 : NmW N} {h : NmOk N K} {Pz : Program} {wz : World} (ha : (N.exm.all fun p => N.xs.contains p.1) = true) {c c' : Nat} {b : Bool} (e : tabNN N.exm c c' = some b) :
    PySem.W.exmOne K (.ref ((mkEn N w0 K h Pz wz).cad c)) (.ref ((mkEn N w0 K h Pz wz).cad c')) = some b ∧ (mkEn N w0 K h Pz wz).isX c = true := ⟨mkEn_exm e, List.all_eq_true.mp ha _ (tabNN_mem e)⟩
end
end Ev
end
section
/-! Ev, twenty-sixth part: lists of pairs as dicts; orders of texts and paths; sorted. -/
namespace Ev
open PySem PySem.Spec L2
set_option autoImplicit false
/-! ### pairs -/
section
variable {κ β : Type} [DecidableEq κ]
def lk : List (κ × β) → κ → Option β
  | [], _ => none
  | (k', v) :: l, k => if k' = k then some v else lk l k
def pt (l : List (κ × β)) (k : κ) (v : β) : List (κ × β) := if (lk l k).isSome = true then l.map (fun p => if p.1 = k then (p.1, v) else p) else l ++ [(k, v)]
def dl (l : List (κ × β)) (k : κ) : List (κ × β) := l.filter fun p => decide (p.1 ≠ k)
@[simp] theorem lk_nil (k : κ) : lk ([] : List (κ × β)) k = none := (rfl)
@[simp] theorem lk_cons (k' k : κ) (v : β) (l : List (κ × β)) : lk ((k', v) :: l) k = if k' = k then some v else lk l k := (rfl)
theorem lk_app (l m : List (κ × β)) (k : κ) : lk (l ++ m) k = (lk l k).or (lk m k) := by
  induction l with
  | nil => rfl
  | cons p l ih =>
    obtain ⟨a, b⟩ := p
    rw [List.cons_append, lk_cons, lk_cons]
    split
    · rfl
    · exact ih
theorem lk_mem {l : List (κ × β)} {k : κ} {v : β} (h : lk l k = some v) : (k, v) ∈ l := by
  induction l with
  | nil => cases h
  | cons p l ih =>
    obtain ⟨a, b⟩ := p
    rw [lk_cons] at h
    split at h
    · rename_i e; subst e; cases h; exact List.mem_cons_self
    · exact List.mem_cons_of_mem _ (ih h)
theorem lk_none {l : List (κ × β)} {k : κ} : lk l k = none ↔ k ∉ l.map Prod.fst := by
  induction l with
  | nil => simp
  | cons p l ih =>
    obtain ⟨a, b⟩ := p
    rw [lk_cons, List.map_cons, List.mem_cons]
    by_cases h : a = k
    · rw [if_pos h]
      simp [h]
    · rw [if_neg h, ih]
      simp [Ne.symm h]
theorem lk_isSome {l : List (κ × β)} {k : κ} : (lk l k).isSome = true ↔ k ∈ l.map Prod.fst := by
  cases h : lk l k with
  | none => simp [lk_none.mp h]
  | some v => simp only [Option.isSome_some, true_iff]; exact List.mem_map_of_mem (lk_mem h)
theorem mem_lk {l : List (κ × β)} (hn : (l.map Prod.fst).Nodup) {k : κ} {v : β} (h : (k, v) ∈ l) : lk l k = some v := by
  induction l with
  | nil => cases h
  | cons p l ih =>
    obtain ⟨a, b⟩ := p
    rw [List.map_cons, List.nodup_cons] at hn
    rw [lk_cons]
    rcases List.mem_cons.mp h with e | e
    · cases e; rw [if_pos rfl]
    · rw [if_neg, ih hn.2 e]
      rintro rfl
      exact hn.1 (List.mem_map.mpr ⟨_, e, rfl⟩)
theorem lk_set (l : List (κ × β)) (k : κ) (v : β) (k' : κ) : lk (l.map fun p => if p.1 = k then (p.1, v) else p) k' = if k' = k then (lk l k).map fun _ => v else lk l k' := by
  induction l with
  | nil => simp
  | cons p l ih =>
    obtain ⟨a, b⟩ := p
    rw [List.map_cons]
    by_cases h : a = k
    · subst h
      rw [if_pos rfl, lk_cons, lk_cons, ih]
      by_cases h2 : k' = a
      · subst h2; simp
      · simp [h2, Ne.symm h2]
    · rw [if_neg h, lk_cons, lk_cons, lk_cons, ih]
      by_cases h2 : k' = k
      · subst h2; simp [h]
      · simp [h2]
theorem lk_pt (l : List (κ × β)) (k : κ) (v : β) (k' : κ) : lk (pt l k v) k' = if k' = k then some v else lk l k' := by
  unfold pt
  split
  · rename_i h
    rw [lk_set]
    split
    · cases e : lk l k with
      | none => rw [e] at h; cases h
      | some x => rfl
    · rfl
  · rename_i h
    rw [lk_app, lk_cons]
    by_cases h2 : k' = k
    · subst h2
      cases e : lk l k' with
      | none => simp
      | some x => rw [e] at h; exact absurd rfl h
    · simp [h2, Ne.symm h2]
theorem lk_dl (l : List (κ × β)) (k k' : κ) : lk (dl l k) k' = if k' = k then none else lk l k' := by
  unfold dl
  induction l with
  | nil => simp
  | cons p l ih =>
    obtain ⟨a, b⟩ := p
    by_cases h : a = k
    · subst h
      rw [List.filter_cons_of_neg (by simp), ih, lk_cons]
      by_cases h2 : k' = a
      · simp [h2]
      · simp [h2, Ne.symm h2]
    · rw [List.filter_cons_of_pos (by simp [h]), lk_cons, lk_cons, ih]
      by_cases h2 : k' = k
      · subst h2; simp [h]
      · simp [h2]
theorem pt_keys_some {l : List (κ × β)} {k : κ} {v : β} (h : (lk l k).isSome = true) : (pt l k v).map Prod.fst = l.map Prod.fst := by
  unfold pt
  rw [if_pos h, List.map_map]
  apply List.map_congr_left
  intro p _
  dsimp only [Function.comp]
  split <;> rfl
theorem pt_new {l : List (κ × β)} {k : κ} {v : β} (h : lk l k = none) : pt l k v = l ++ [(k, v)] := by
  unfold pt
  rw [h, if_neg (by simp)]
theorem nodup_pt {l : List (κ × β)} (hn : (l.map Prod.fst).Nodup) (k : κ) (v : β) : ((pt l k v).map Prod.fst).Nodup := by
  cases h : lk l k with
  | some x => rw [pt_keys_some (by rw [h]; rfl)]; exact hn
  | none =>
    rw [pt_new h, List.map_append]
    refine List.nodup_append.mpr ⟨hn, by simp, ?_⟩
    rintro a ha b hb rfl
    simp at hb
    subst hb
    exact lk_none.mp h ha
theorem nodup_dl {l : List (κ × β)} (hn : (l.map Prod.fst).Nodup) (k : κ) : ((dl l k).map Prod.fst).Nodup := by
  unfold dl
  exact List.Nodup.sublist (List.Sublist.map _ List.filter_sublist) hn
theorem pt_len (l : List (κ × β)) (k : κ) (v : β) : (pt l k v).length ≤ l.length + 1 := by
  unfold pt
  split
  · rw [List.length_map]; omega
  · rw [List.length_append]; simp
theorem dl_len (l : List (κ × β)) (k : κ) : (dl l k).length ≤ l.length := List.length_filter_le _ _
/-! ### as dicts -/
def enc (kf : κ → AK) (f : β → AV) (l : List (κ × β)) : List (AK × AV) := l.map fun q => (kf q.1, f q.2)
@[simp] theorem enc_len (kf : κ → AK) (f : β → AV) (l : List (κ × β)) : (enc kf f l).length = l.length := by unfold enc; rw [List.length_map]
@[simp] theorem enc_nil (kf : κ → AK) (f : β → AV) : enc kf f ([] : List (κ × β)) = [] := (rfl)
@[simp] theorem enc_cons (kf : κ → AK) (f : β → AV) (k : κ) (v : β) (l : List (κ × β)) : enc kf f ((k, v) :: l) = (kf k, f v) :: enc kf f l := (rfl)
variable {kf : κ → AK} {f : β → AV}
theorem getK_enc (hi : ∀ a b, kf a = kf b → a = b) (l : List (κ × β)) (k : κ) : getK (enc kf f l) (kf k) = (lk l k).map f := by
  induction l with
  | nil => rfl
  | cons p l ih =>
    obtain ⟨a, b⟩ := p
    rw [enc_cons, getK_cons, lk_cons, ih]
    by_cases h : a = k
    · subst h; simp
    · rw [if_neg h, if_neg fun z => h (hi _ _ z)]
theorem any_enc (hi : ∀ a b, kf a = kf b → a = b) (l : List (κ × β)) (k : κ) : ((enc kf f l).any fun p => decide (p.1 = kf k)) = (lk l k).isSome := by
  induction l with
  | nil => rfl
  | cons p l ih =>
    obtain ⟨a, b⟩ := p
    rw [enc_cons, List.any_cons, lk_cons, ih]
    by_cases h : a = k
    · subst h; simp
    · rw [if_neg h, decide_eq_false fun z => h (hi _ _ z), Bool.false_or]
theorem putA_enc (hi : ∀ a b, kf a = kf b → a = b) (l : List (κ × β)) (k : κ) (v : β) : putA (enc kf f l) (kf k) (f v) = enc kf f (pt l k v) := by
  unfold putA pt
  rw [any_enc hi]
  split
  · unfold enc
    rw [List.map_map, List.map_map]
    apply List.map_congr_left
    rintro ⟨a, b⟩ _
    dsimp only [Function.comp]
    by_cases h : a = k
    · subst h; rw [if_pos rfl, if_pos rfl]
    · rw [if_neg h, if_neg fun z => h (hi _ _ z)]
  · unfold enc
    rw [List.map_append]
    rfl
theorem dropA_enc (hi : ∀ a b, kf a = kf b → a = b) (l : List (κ × β)) (k : κ) : dropA (enc kf f l) (kf k) = enc kf f (dl l k) := by
  unfold dropA dl enc
  rw [List.filter_map]
  congr 1
  apply List.filter_congr
  rintro ⟨a, b⟩ _
  dsimp only [Function.comp]
  by_cases h : a = k
  · subst h; simp
  · have h2 : kf a ≠ kf k := fun z => h (hi _ _ z)
    simp [h, h2]
end
/-- a path: names as rows of signs -/
abbrev Pth := List (List Nat)
def kP (p : Pth) : AK := .t (p.map fun w => .inr (S w))
def kS (w : List Nat) : AK := .k (.inr (S w))
def kI (i : Int) : AK := .k (.inl i)
def nV (p : Pth) : List AV := p.map fun w => .str (S w)
abbrev tV (p : Pth) : AV := .tup (nV p)
theorem kP_inj (a b : Pth) (h : kP a = kP b) : a = b := by
  unfold kP at h
  injection h with h
  exact (List.map_inj_right fun x y e => by injection e with e; exact S_inj.mp e).mp h
theorem kS_inj (a b : List Nat) (h : kS a = kS b) : a = b := by
  unfold kS at h
  injection h with h
  injection h with h
  exact S_inj.mp h
theorem kI_inj (a b : Int) (h : kI a = kI b) : a = b := by
  unfold kI at h
  injection h with h
  injection h
@[simp] theorem keyOf_tV (p : Pth) : keyOf (tV p) = some (kP p) := by
  have h : ∀ p : Pth, keysOf (p.map fun w => AV.str (S w)) = some (p.map fun w => .inr (S w)) := by
    intro p
    induction p with
    | nil => rfl
    | cons w p ih =>
      rw [List.map_cons, List.map_cons]
      unfold keysOf
      rw [ih]
      rfl
  show (keysOf (p.map fun w => AV.str (S w))).map AK.t = _
  rw [h]
  rfl
@[simp] theorem keyOf_S (w : List Nat) : keyOf (.str (S w)) = some (kS w) := (rfl)
@[simp] theorem keyOf_I (i : Int) : keyOf (.int i) = some (kI i) := (rfl)
@[simp] theorem keyV_P (p : Pth) : keyV (kP p) = tV p := by
  show AV.tup ((p.map fun w => (Sum.inr (S w) : Key)).map key1V) = _
  rw [List.map_map]
  rfl
@[simp] theorem keyV_S (w : List Nat) : keyV (kS w) = .str (S w) := (rfl)
@[simp] theorem keyV_I (i : Int) : keyV (kI i) = .int i := (rfl)
section
variable {β : Type} {f : β → AV}
theorem kind_P (l : List (Pth × β)) (p : Pth) : kindA (enc kP f l) (kP p) = true := by
  unfold kindA
  rw [List.all_eq_true]
  intro q hq
  obtain ⟨a, _, rfl⟩ := List.mem_map.mp hq
  rfl
theorem kind_S (l : List (List Nat × β)) (p : List Nat) : kindA (enc kS f l) (kS p) = true := by
  unfold kindA
  rw [List.all_eq_true]
  intro q hq
  obtain ⟨a, _, rfl⟩ := List.mem_map.mp hq
  rfl
theorem kind_I (l : List (Int × β)) (p : Int) : kindA (enc kI f l) (kI p) = true := by
  unfold kindA
  rw [List.all_eq_true]
  intro q hq
  obtain ⟨a, _, rfl⟩ := List.mem_map.mp hq
  rfl
theorem plain_S (l : List (List Nat × β)) : plainKs (enc kS f l) = true := by
  unfold plainKs kindA
  rw [List.all_eq_true]
  intro q hq
  obtain ⟨a, _, rfl⟩ := List.mem_map.mp hq
  rfl
theorem plain_I (l : List (Int × β)) : plainKs (enc kI f l) = true := by
  unfold plainKs kindA
  rw [List.all_eq_true]
  intro q hq
  obtain ⟨a, _, rfl⟩ := List.mem_map.mp hq
  rfl
end
/-! ### orders -/
class Ord1 (α : Type) [LT α] [DecidableLT α] : Prop where
  irr : ∀ a : α, ¬ a < a
  tr : ∀ a b c : α, a < b → b < c → a < c
  tri : ∀ a b : α, ¬ a < b → ¬ b < a → a = b
instance : Ord1 (List Nat) := ⟨fun a => List.lt_irrefl a, fun _ _ _ h k => List.lt_trans h k, fun _ _ h k => List.le_antisymm (List.not_lt.mp k) (List.not_lt.mp h)⟩
instance : Ord1 Pth := ⟨fun a => List.lt_irrefl a, fun _ _ _ h k => List.lt_trans h k, fun _ _ h k => List.le_antisymm (List.not_lt.mp k) (List.not_lt.mp h)⟩
instance : Ord1 Int := ⟨fun a => Int.lt_irrefl a, fun _ _ _ h k => Int.lt_trans h k, fun _ _ h k => by omega⟩
section
variable {α : Type} [LT α] [DecidableLT α] [Ord1 α]
def srt (l : List α) : List α := l.mergeSort fun a b => !decide (b < a)
omit [Ord1 α] in
theorem srt_perm (l : List α) : (srt l).Perm l := List.mergeSort_perm _ _
omit [Ord1 α] in
@[simp] theorem srt_len (l : List α) : (srt l).length = l.length := (srt_perm l).length_eq
omit [Ord1 α] in
@[simp] theorem mem_srt {l : List α} {a : α} : a ∈ srt l ↔ a ∈ l := (srt_perm l).mem_iff
theorem srt_le (l : List α) : (srt l).Pairwise fun a b => ¬ b < a := by
  have h := List.pairwise_mergeSort (le := fun a b : α => !decide (b < a)) (fun a b c h k => ?_) (fun a b => ?_) l
  · exact h.imp fun {a b} z => by simpa using z
  · simp only [Bool.not_eq_true', decide_eq_false_iff_not] at h k ⊢
    intro z
    by_cases e : a < b
    · exact k (Ord1.tr _ _ _ z e)
    · have := Ord1.tri a b e h
      subst this
      exact k z
  · by_cases e : b < a
    · have : ¬ a < b := fun z => Ord1.irr _ (Ord1.tr _ _ _ z e)
      simp [e, this]
    · simp [e]
theorem lt_of {a b : α} (h : ¬ b < a) (n : a ≠ b) : a < b := by
  by_cases e : a < b
  · exact e
  · exact absurd (Ord1.tri a b e h) n
theorem srt_lt {l : List α} (hl : l.Nodup) : (srt l).Pairwise fun a b => a < b := by
  have h1 := srt_le l
  have h2 : (srt l).Nodup := (srt_perm l).nodup_iff.mpr hl
  exact (h1.and h2).imp fun {a b} z => lt_of z.1 z.2
theorem nodup_lt {m : List α} (hm : m.Pairwise fun a b => a < b) : m.Nodup := hm.imp fun {a b} z e => by subst e; exact Ord1.irr _ z
theorem srt_unique {l m : List α} (hm : m.Pairwise fun a b => a < b) (hl : l.Nodup) (hp : ∀ x, x ∈ m ↔ x ∈ l) : m = srt l := by
  refine List.Perm.eq_of_pairwise (le := fun a b => a < b) (fun a b _ _ h k => absurd (Ord1.tr _ _ _ h k) (Ord1.irr _)) hm (srt_lt hl) ?_
  exact ((List.perm_ext_iff_of_nodup (nodup_lt hm) hl).mpr hp).trans (srt_perm l).symm
end
/-! ### sorted -/
theorem mapO_map {α β γ : Type} {g : α → β} {f : β → Option γ} {d : α → γ} : ∀ {l : List α}, (∀ a ∈ l, f (g a) = some (d a)) → mapO f (l.map g) = some (l.map d)
  | [], _ => rfl
  | a :: l, h => by
    rw [List.map_cons, List.map_cons]
    unfold mapO
    rw [h a List.mem_cons_self, mapO_map fun b hb => h b (List.mem_cons_of_mem _ hb)]
theorem sortAV_map {α : Type} [LT α] [DecidableLT α] {g : α → AV} {d : α → PyData} {l : List α} {A : AHp} (h1 : ∀ a ∈ l, toD 40 A (g a) = some (d a)) (h2 : ∀ a b, PySem.W.alike (d a) (d b) = true) (h3 : ∀ a, (d a).depth ≤ 40 ∧ d a ≠ .none)
    (h4 : ∀ a b, PySem.W.dataLe false id (d a) (d b) = !decide (b < a)) : sortAV A (l.map g) = some ((srt l).map g) := by
  unfold sortAV
  have e1 : toDs 40 A (l.map g) = some (l.map d) := mapO_map h1
  rw [e1]
  dsimp only
  have e2 : okSort (l.map d) = true := by
    unfold okSort
    rw [Bool.and_eq_true, List.all_eq_true, List.all_eq_true]
    refine ⟨fun x hx => ?_, fun x hx => ?_⟩
    · obtain ⟨a, _, rfl⟩ := List.mem_map.mp hx
      rw [List.all_eq_true]
      intro y hy
      obtain ⟨b, _, rfl⟩ := List.mem_map.mp hy
      exact h2 a b
    · obtain ⟨a, _, rfl⟩ := List.mem_map.mp hx
      obtain ⟨g1, g2⟩ := h3 a
      rw [Bool.and_eq_true]
      refine ⟨decide_eq_true g1, ?_⟩
      revert g2
      cases d a <;> simp
  rw [if_pos e2]
  congr 1
  unfold sortL
  have e3 : (l.map g).zip (l.map d) = l.map fun a => (g a, d a) := by rw [List.zip_map']
  rw [e3]
  unfold srt
  have e4 := List.map_mergeSort (f := fun a => (g a, d a)) (r := fun a b : α => !decide (b < a)) (s := PySem.W.dataLe false Prod.snd) (l := l) fun a _ b _ => (h4 a b).symm
  rw [← e4, List.map_map]
  rfl
theorem le_str (a b : List Nat) : PySem.W.dataLe false id (.str (S a)) (.str (S b)) = !decide (b < a) := by
  show (!(PyProof.Rows.lexLt PyProof.Rows.itemOrd [.inr b] [.inr a])) = _
  congr 1
  rw [PyProof.Rows.lex_cons]
  show (decide (b < a) || (!decide (a < b) && false)) = _
  simp
theorem le_int (a b : Int) : PySem.W.dataLe false id (.int a) (.int b) = !decide (b < a) := by
  show (!(PyProof.Rows.lexLt PyProof.Rows.itemOrd [.inl b] [.inl a])) = _
  congr 1
  rw [PyProof.Rows.lex_cons]
  show (decide (b < a) || (!decide (a < b) && false)) = _
  simp
def pD (p : Pth) : PyData := .tuple (p.map fun w => .str (S w))
theorem toks_lt : ∀ p q : Pth, PyProof.Rows.lexLt PyProof.Rows.itemOrd (PySem.W.keyToks (pD p)) (PySem.W.keyToks (pD q)) = decide (p < q)
  | [], [] => by decide
  | [], b :: q => by
    have e : ([] : Pth) < b :: q := List.nil_lt_cons _ _
    rw [decide_eq_true e]
    rfl
  | a :: p, [] => by
    have e : ¬ (a :: p : Pth) < [] := List.not_lt_nil _
    rw [decide_eq_false e]
    rfl
  | a :: p, b :: q => by
    have ih := toks_lt p q
    show PyProof.Rows.lexLt PyProof.Rows.itemOrd (.inl 1 :: .inr a :: PySem.W.keyToks (pD p)) (.inl 1 :: .inr b :: PySem.W.keyToks (pD q)) = _
    rw [PyProof.Rows.lex_cons, PyProof.Rows.lex_cons, ih]
    show (decide ((1 : Int) < 1) || (!decide ((1 : Int) < 1) && (decide (a < b) || (!decide (b < a) && decide (p < q))))) = _
    have c := @List.cons_lt_cons_iff (List Nat) _ a b p q
    by_cases h : a < b
    · have c2 := c.mpr (.inl h)
      simp [h, c2]
    · by_cases h2 : b < a
      · have : ¬ (a :: p < b :: q) := fun z => by
          rcases c.mp z with z | ⟨z, _⟩
          · exact h z
          · subst z; exact h h2
        simp [h, h2, this]
      · have e := Ord1.tri a b h h2
        subst e
        simp [h, List.cons_lt_cons_iff]
theorem le_pth (a b : Pth) : PySem.W.dataLe false id (pD a) (pD b) = !decide (b < a) := by
  show (!(PyProof.Rows.lexLt PyProof.Rows.itemOrd (PySem.W.keyToks (pD b)) (PySem.W.keyToks (pD a)))) = _
  rw [toks_lt]
theorem sort_S (A : AHp) (l : List (List Nat)) : sortAV A (l.map fun w => .str (S w)) = some ((srt l).map fun w => .str (S w)) :=
  sortAV_map (d := fun w => .str (S w)) (fun _ _ => rfl) (fun _ _ => rfl) (fun _ => ⟨Nat.zero_le _, fun z => nomatch z⟩) le_str
theorem sort_I (A : AHp) (l : List Int) : sortAV A (l.map AV.int) = some ((srt l).map AV.int) :=
  sortAV_map (d := fun w => .int w) (fun _ _ => rfl) (fun _ _ => rfl) (fun _ => ⟨Nat.zero_le _, fun z => nomatch z⟩) le_int
theorem alike_pD : ∀ p q : Pth, PySem.W.alike (pD p) (pD q) = true
  | [], [] => rfl
  | [], _ :: _ => rfl
  | _ :: _, [] => rfl
  | a :: p, b :: q => by
    have ih := alike_pD p q
    show (true && PySem.W.alike (pD p) (pD q)) = true
    rw [ih]
    rfl
theorem depth_pD (p : Pth) : (pD p).depth ≤ 2 := by
  have h : ∀ p : Pth, PyData.depthAll (p.map fun w => .str (S w)) ≤ 1 := by
    intro p
    induction p with
    | nil => decide
    | cons a p ih =>
      rw [List.map_cons]
      unfold PyData.depthAll
      have : (PyData.str (S a)).depth ≤ 1 := by unfold PyData.depth; decide
      omega
  have := h p
  unfold pD PyData.depth
  omega
theorem sort_P (A : AHp) (l : List Pth) : sortAV A (l.map tV) = some ((srt l).map tV) :=
  sortAV_map (d := pD) (fun p _ => by
    show (mapO (toD 39 A) (p.map fun w => AV.str (S w))).map PyData.tuple = _
    rw [mapO_map (f := toD 39 A) (g := fun w => AV.str (S w)) (d := fun w => PyData.str (S w)) fun _ _ => rfl]
    rfl) alike_pD (fun p => ⟨Nat.le_trans (depth_pD p) (by decide), fun z => nomatch z⟩) le_pth
end Ev
end
section
/-! Ev, twenty-seventh part: reckoning with paths, dicts, locks, exceptions. -/
namespace Ev
open PySem PySem.Spec L2
set_option autoImplicit false
section
variable (A : AHp)
@[simp] theorem nV_length (p : Pth) : (nV p).length = p.length := by simp [nV]
@[simp] theorem nV_nil : nV [] = [] := (rfl)
@[simp] theorem nV_take (p : Pth) (n : Nat) : (nV p).take n = nV (p.take n) := by simp [nV, List.map_take]
@[simp] theorem nV_drop (p : Pth) (n : Nat) : (nV p).drop n = nV (p.drop n) := by simp [nV, List.map_drop]
@[simp] theorem nV_app (p q : Pth) : nV p ++ nV q = nV (p ++ q) := by simp [nV]
@[simp] theorem nV_snoc (p : Pth) (w : List Nat) : nV p ++ [AV.str (S w)] = nV (p ++ [w]) := by simp [nV]
theorem nV_one (w : List Nat) : [AV.str (S w)] = nV [w] := rfl
theorem nV_at (p : Pth) (i : Nat) : (nV p)[i]? = p[i]?.map fun w => .str (S w) := by unfold nV; rw [List.getElem?_map]
@[simp] theorem e_addTT (xs ys : List AV) (h : xs.length + ys.length ≤ 16777216) : pAdd (.tup xs) (.tup ys) A = some (.tup (xs ++ ys), A) := if_pos h
@[simp] theorem nV_last (p : Pth) : atI (nV p) (-1) = p.getLast?.map fun w => .str (S w) := by
  rw [atI_last]; unfold nV; rw [List.getLast?_map]
@[simp] theorem nV_init (p : Pth) : cutA (nV p) none (some (-1)) = nV p.dropLast := by
  unfold cutA HT.sIx
  dsimp only
  rw [if_pos (by omega), nV_length]
  have e : ((-1 : Int) + (p.length : Int)).toNat = p.length - 1 := by omega
  rw [e, Nat.sub_zero, List.drop_zero, nV_take, List.dropLast_eq_take]
def okP (p : Pth) : Prop := ∀ w ∈ p, okS w = true
theorem okP.nil : okP [] := fun w hw => by cases hw
theorem okP.take {p : Pth} (h : okP p) (n : Nat) : okP (p.take n) := fun w hw => h w (List.mem_of_mem_take hw)
theorem okP.drop {p : Pth} (h : okP p) (n : Nat) : okP (p.drop n) := fun w hw => h w (List.mem_of_mem_drop hw)
theorem okP.init {p : Pth} (h : okP p) : okP p.dropLast := fun w hw => h w ((List.dropLast_sublist p).subset hw)
theorem okP.app {p q : Pth} (h : okP p) (k : okP q) : okP (p ++ q) := fun w hw => (List.mem_append.mp hw).elim (h w) (k w)
theorem okP.snoc {p : Pth} (h : okP p) {w : List Nat} (k : okS w = true) : okP (p ++ [w]) := fun x hx => by
  rcases List.mem_append.mp hx with z | z
  · exact h x z
  · rw [List.mem_singleton.mp z]; exact k
theorem reps_nV : ∀ p : Pth, Reps A (p.map T.str) (nV p)
  | [] => by rw [List.map_nil, Reps]; rfl
  | w :: r => by
    rw [List.map_cons, Reps]
    exact ⟨.str (S w), nV r, rfl, by rw [Rep], reps_nV r⟩
theorem noBs_nV : ∀ p : Pth, noBs (p.map T.str) = true
  | [] => rfl
  | w :: r => by rw [List.map_cons, noBs, noBs_nV r]; simp [noB]
theorem deps_nV : ∀ p : Pth, deps (p.map T.str) = 0
  | [] => rfl
  | w :: r => by rw [List.map_cons, deps, deps_nV r]; simp [dep]
theorem okTs_nV : ∀ {p : Pth}, okP p → okTs (p.map T.str) = true
  | [], _ => rfl
  | w :: r, h => by rw [List.map_cons, okTs, okTs_nV fun x hx => h x (by simp [hx])]; simp [okT, h w (by simp)]
theorem sameL_nV : ∀ a b : Pth, sameL (a.map T.str) (b.map T.str) = decide (a = b)
  | [], [] => rfl
  | [], _ :: _ => rfl
  | _ :: _, [] => rfl
  | x :: a, y :: b => by
    rw [List.map_cons, List.map_cons, sameL, sameL_nV a b]
    by_cases h : x = y <;> by_cases h2 : a = b <;> simp [sameT, h, h2]
theorem e_eqP {a b : Pth} (ha : okP a) (hb : okP b) : eqB (.tup (nV a)) (.tup (nV b)) A = some (decide (a = b)) := by
  have e := eqB_T (A := A) (d := .tup (a.map T.str)) (d' := .tup (b.map T.str)) (v := .tup (nV a)) (v' := .tup (nV b)) (by rw [Rep]; exact ⟨_, rfl, reps_nV A a⟩) (by rw [Rep]; exact ⟨_, rfl, reps_nV A b⟩) (by rw [noB]; exact noBs_nV a) (by rw [noB]; exact noBs_nV b) (by rw [okT]; exact okTs_nV ha) (by rw [okT]; exact okTs_nV hb) (by rw [dep, deps_nV]; omega) (by rw [dep, deps_nV]; omega)
  rw [e, sameT, sameL_nV]
theorem e_eqP0 {a : Pth} (ha : okP a) : eqB (.tup (nV a)) (.tup []) A = some (decide (a = [])) := e_eqP A ha okP.nil
/-! ### dicts -/
variable {A} {n : Nat} {kvs : List (AK × AV)} {lk' : Bool} {b : AV} {ky : AK}
theorem d_in (h : gt A n = some (.dict kvs lk')) (hb : keyOf b = some ky) (hk : kindA kvs ky = true) (hl : lk' = false ∨ kvs ≠ []) : pIn b (.ref n) A = some (.bl (getK kvs ky).isSome, A) := by
  have e : inB b (.ref n) A = some (getK kvs ky).isSome := by
    unfold inB
    dsimp only
    rw [show A[n]? = some (.dict kvs lk') from h]
    dsimp only
    rw [hb]
    dsimp only
    rw [if_pos]
    rw [hk]
    rcases hl with rfl | hl
    · rfl
    · cases kvs with
      | nil => exact absurd rfl hl
      | cons _ _ => simp
  unfold pIn
  rw [e]
  rfl
theorem d_notin (h : gt A n = some (.dict kvs lk')) (hb : keyOf b = some ky) (hk : kindA kvs ky = true) (hl : lk' = false ∨ kvs ≠ []) : pNotIn b (.ref n) A = some (.bl (!(getK kvs ky).isSome), A) := by
  have e := d_in h hb hk hl
  unfold pIn at e
  unfold pNotIn
  cases e1 : inB b (.ref n) A with
  | none => rw [e1] at e; cases e
  | some r => rw [e1] at e; cases e; rfl
theorem d_ix (h : gt A n = some (.dict kvs lk')) (hb : keyOf b = some ky) : pIx (.ref n) b A = (getK kvs ky).map fun v => (v, A) := by
  unfold pIx
  dsimp only
  rw [show A[n]? = some (.dict kvs lk') from h]
  dsimp only
  rw [hb]
theorem d_put (h : gt A n = some (.dict kvs false)) (hb : keyOf b = some ky) (hk : kindA kvs ky = true) (hl : kvs.length < 16777216) (z : AV) : pPut (.ref n) b z A = some (A.set n (.dict (putA kvs ky z) false)) := by
  unfold pPut
  dsimp only
  rw [show A[n]? = some (.dict kvs false) from h]
  dsimp only
  rw [hb]
  dsimp only
  rw [if_pos ⟨hk, hl⟩]
theorem d_get1 (h : gt A n = some (.dict kvs false)) (hb : keyOf b = some ky) (hk : kindA kvs ky = true) : mGet (.ref n) [b] A = some ((getK kvs ky).getD .non, A) := by
  unfold mGet
  dsimp only
  rw [show A[n]? = some (.dict kvs false) from h]
  dsimp only
  rw [hb]
  dsimp only
  rw [hk]
  rfl
theorem d_setd (h : gt A n = some (.dict kvs false)) (hb : keyOf b = some ky) (hk : kindA kvs ky = true) (hl : kvs.length < 16777216) (z : AV) : mSetd (.ref n) [b, z] A = match getK kvs ky with
    | some v => some (v, A)
    | none => some (z, A.set n (.dict (putA kvs ky z) false)) := by
  unfold mSetd
  dsimp only
  rw [show A[n]? = some (.dict kvs false) from h]
  dsimp only
  rw [hb]
  dsimp only
  refine (if_pos ⟨hk, hl⟩).trans ?_
  cases getK kvs ky <;> rfl
theorem d_pop (h : gt A n = some (.dict kvs false)) (hb : keyOf b = some ky) (hk : kindA kvs ky = true) : mDPop (.ref n) [b] A = (getK kvs ky).map fun v => (v, A.set n (.dict (dropA kvs ky) false)) := by
  unfold mDPop
  dsimp only
  rw [show A[n]? = some (.dict kvs false) from h]
  dsimp only
  rw [hb]
  dsimp only
  rw [if_pos hk]
theorem d_upd {m : Nat} {xs : List AV} {ps : List (AK × AV)} {ro : Bool} (h : gt A n = some (.dict kvs false)) (h2 : gt A m = some (.lst xs false)) (hp : pairsA xs = some ps) (hk : (ps.all fun p => kindA (kvs ++ ps) p.1) = true) (hl : kvs.length + ps.length ≤ 16777216) :
    mUpd (.ref n) [.ref m] A = some (.non, A.set n (.dict (updA kvs ps) false)) := by
  unfold mUpd
  dsimp only
  rw [show A[n]? = some (.dict kvs false) from h, show A[m]? = some (.lst xs false) from h2]
  dsimp only
  rw [hp]
  dsimp only
  rw [if_pos ⟨hk, hl⟩]
theorem s_dict {α : Type} {ys zs : List AV} (h : gt A n = some (.dict kvs lk')) (hk : keysA kvs = ys) (hs : sortAV A ys = some zs) : fSorted [.ref n] A = some (.ref A.length, A ++ [.lst zs false]) := by
  unfold fSorted
  dsimp only
  rw [show A[n]? = some (.dict kvs lk') from h]
  dsimp only
  rw [hk, hs]
  rfl
theorem s_lst {xs zs : List AV} {ro : Bool} (h : gt A n = some (.lst xs ro)) (hs : sortAV A xs = some zs) : fSorted [.ref n] A = some (.ref A.length, A ++ [.lst zs false]) := by
  unfold fSorted
  dsimp only
  rw [show A[n]? = some (.lst xs ro) from h]
  dsimp only
  rw [hs]
  rfl
theorem keysA_enc {κ β : Type} [DecidableEq κ] {kf : κ → AK} {f : β → AV} {g : κ → AV} (hg : ∀ k, keyV (kf k) = g k) (l : List (κ × β)) : keysA (enc kf f l) = (l.map Prod.fst).map g := by
  unfold keysA enc
  rw [List.map_map, List.map_map]
  apply List.map_congr_left
  intro p _
  exact hg p.1
theorem sort_dP {β : Type} {f : β → AV} {l : List (Pth × β)} (h : gt A n = some (.dict (enc kP f l) lk')) : fSorted [.ref n] A = some (.ref A.length, A ++ [.lst ((srt (l.map Prod.fst)).map tV) false]) :=
  s_dict (α := Unit) h (keysA_enc keyV_P l) (sort_P A _)
theorem sort_dS {β : Type} {f : β → AV} {l : List (List Nat × β)} (h : gt A n = some (.dict (enc kS f l) lk')) : fSorted [.ref n] A = some (.ref A.length, A ++ [.lst ((srt (l.map Prod.fst)).map fun w => .str (S w)) false]) :=
  s_dict (α := Unit) h (keysA_enc keyV_S l) (sort_S A _)
theorem sort_dI {β : Type} {f : β → AV} {l : List (Int × β)} (h : gt A n = some (.dict (enc kI f l) lk')) : fSorted [.ref n] A = some (.ref A.length, A ++ [.lst ((srt (l.map Prod.fst)).map AV.int) false]) :=
  s_dict (α := Unit) h (keysA_enc keyV_I l) (sort_I A _)
end
/-! ### locks -/
theorem lock_fr {A A' : AHp} {n : Nat} {kvs : List (AK × AV)} (h : gt A n = some (.dict kvs false)) (hF : Fr [] (A.set n (.dict kvs true)) A') : lockD n A' = some kvs ∧ Fr [] A (A'.set n (.dict kvs false)) := by
  have hl := gt_lt h
  have e : gt A' n = some (.dict kvs true) := hF.gt (gt_set hl) (by simp)
  refine ⟨?_, ?_, fun m hm _ => ?_⟩
  · unfold lockD
    rw [show A'[n]? = some (.dict kvs true) from e]
  · have := hF.len
    rw [List.length_set] at this ⊢
    exact this
  · by_cases z : n = m
    · subst z
      rw [gt_set (by have := hF.len; rw [List.length_set] at this; omega), h]
    · rw [gt_set_ne z, hF.2 m (by rw [List.length_set]; exact hm) (by simp), gt_set_ne z]
theorem dLock_run {fo f : Den AV} {σ : ASt} {A A' : AHp} {n : Nat} {kvs : List (AK × AV)} {v : AV} (hf : fo σ A = .ok (.ref n) A) (h : gt A n = some (.dict kvs false)) (hr : f σ (A.set n (.dict kvs true)) = .ok v A') (hF : Fr [] (A.set n (.dict kvs true)) A') :
    dLock fo f σ A = .ok v (A'.set n (.dict kvs false)) ∧ Fr [] A (A'.set n (.dict kvs false)) := by
  obtain ⟨h1, h2⟩ := lock_fr h hF
  refine ⟨?_, h2⟩
  unfold dLock
  rw [hf]
  unfold dictAt
  dsimp only
  rw [show A[n]? = some (.dict kvs false) from h]
  dsimp only
  rw [hr]
  dsimp only
  unfold unlA
  rw [h1]
  rfl
theorem sLock_run {fo : Den AV} {f : SDen} {σ σ' : ASt} {A A' : AHp} {n : Nat} {kvs : List (AK × AV)} (hf : fo σ A = .ok (.ref n) A) (h : gt A n = some (.dict kvs false)) (hr : f σ (A.set n (.dict kvs true)) = .nx σ' A') (hF : lockD n A' = some kvs) :
    sLock fo f σ A = .nx σ' (A'.set n (.dict kvs false)) := by
  unfold sLock
  rw [hf]
  unfold dictAt
  dsimp only
  rw [show A[n]? = some (.dict kvs false) from h]
  dsimp only
  rw [hr]
  unfold unlockS
  dsimp only
  unfold unlA
  rw [hF]
  rfl
/-- a comprehension over a dict's keys, values or items that changes nothing that was there -/
theorem lc_dict {κ β : Type} {kf : κ → AK} {f : β → AV} {l : List (κ × β)} {fo : Den AV} {it : IDen} {src : Nat → Src} {itm : AK × AV → AV} {g : GDen} {t : Den Bool} {e : Den AV} {vs : List Nat} {σ : ASt} {A : AHp} {n : Nat} (F : κ × β → AV) (p : κ × β → Bool)
    (hf : fo σ A = .ok (.ref n) A) (h : gt A n = some (.dict (enc kf f l) false)) (hx : l.length < 16777216)
    (hs : ∀ i B, src n i B = (lockD n B).map fun kvs => kvs[i]?.map itm) (hit : it σ (A.set n (.dict (enc kf f l) true)) = .ok (src n, l.length + 1) (A.set n (.dict (enc kf f l) true)))
    (hb : ∀ B x, x ∈ l → Fr [] (A.set n (.dict (enc kf f l) true)) B → ∃ σ1 B1, g (itm (kf x.1, f x.2)) (wipeA σ vs) B = some σ1 ∧ t σ1 B = .ok (p x) B1 ∧ Fr [] B B1 ∧ (p x = true → ∃ B2, e σ1 B1 = .ok (F x) B2 ∧ Fr [] B1 B2)) :
    ∃ A', dLock fo (dLc it g t e vs) σ A = .ok (.ref A.length) A' ∧ gt A' A.length = some (.lst ((l.filter p).map F) false) ∧ Fr [] A A' := by
  have hl := gt_lt h
  obtain ⟨A', e1, e2, e3⟩ := comp_fr (src := src n) (g := g) (t := t) (e := e) (τ := wipeA σ vs) (l := l) (A := A.set n (.dict (enc kf f l) true)) (fun x => itm (kf x.1, f x.2)) F p hx (fun B i hF => by
    rw [hs]
    have e : gt B n = some (.dict (enc kf f l) true) := hF.gt (gt_set hl) (by simp)
    unfold lockD
    rw [show B[n]? = some (.dict (enc kf f l) true) from e]
    dsimp only [Option.map]
    unfold enc
    rw [List.getElem?_map, List.getElem?_map]
    cases l[i]? <;> rfl) hb
  have hr : dLc it g t e vs σ (A.set n (.dict (enc kf f l) true)) = .ok (.ref A.length) A' := by
    unfold dLc
    rw [hit]
    rw [List.length_set] at e1
    rw [Res.bind_ok, List.length_set]
    exact e1
  obtain ⟨q1, q2⟩ := dLock_run hf h hr e3
  refine ⟨_, q1, ?_, q2⟩
  rw [List.length_set] at e2
  rw [gt_set_ne (by omega)]
  exact e2
/-! ### exceptions -/
@[simp] theorem e_sRaise (c : Nat) (σ : ASt) (A : AHp) : sRaise c σ A = .er σ c none A := (rfl)
@[simp] theorem e_dExc (c : Nat) (fe : Den AV) (σ : ASt) (A : AHp) : dExc c fe σ A = (fe σ A).bind fun _ A1 => .ok (.exc c none) A1 := (rfl)
def tryM (l : Hds) (q : SR) : SR := match q with
  | .er σ1 c r A1 => tryKs l σ1 c r A1
  | q => q
@[simp] theorem e_sTryM (l : Hds) (fb : SDen) (σ : ASt) (A : AHp) : sTryM l fb σ A = tryM l (fb σ A) := (rfl)
@[simp] theorem tryM_nx (l : Hds) (σ : ASt) (A : AHp) : tryM l (.nx σ A) = .nx σ A := (rfl)
@[simp] theorem tryM_rt (l : Hds) (v : AV) (A : AHp) : tryM l (.rt v A) = .rt v A := (rfl)
@[simp] theorem tryM_er (l : Hds) (σ : ASt) (c : Nat) (r : Option Int) (A : AHp) : tryM l (.er σ c r A) = tryKs l σ c r A := (rfl)
@[simp] theorem tryKs_cons (sub : Nat → Option Bool) (fs : SDen) (l : Hds) (σ : ASt) (c : Nat) (r : Option Int) (A : AHp) : tryKs ((sub, fs) :: l) σ c r A = match sub c with
    | some true => noEr (fs σ A)
    | some false => tryKs l σ c r A
    | none => .bad := (rfl)
@[simp] theorem noEr_nx (σ : ASt) (A : AHp) : noEr (.nx σ A) = .nx σ A := (rfl)
@[simp] theorem noEr_rt (v : AV) (A : AHp) : noEr (.rt v A) = .rt v A := (rfl)
noncomputable def try1 (sub : Nat → Option Bool) (i : Nat) (fs : SDen) (q : SR) : SR := match q with
  | .er σ1 c r A1 => tryK sub i fs σ1 c r A1
  | q => q
@[simp] theorem e_sTry1 (sub : Nat → Option Bool) (i : Nat) (fb fs : SDen) (σ : ASt) (A : AHp) : sTry1 sub i fb fs σ A = try1 sub i fs (fb σ A) := (rfl)
@[simp] theorem try1_nx (sub : Nat → Option Bool) (i : Nat) (fs : SDen) (σ : ASt) (A : AHp) : try1 sub i fs (.nx σ A) = .nx σ A := (rfl)
@[simp] theorem try1_rt (sub : Nat → Option Bool) (i : Nat) (fs : SDen) (v : AV) (A : AHp) : try1 sub i fs (.rt v A) = .rt v A := (rfl)
theorem try1_er {sub : Nat → Option Bool} {i : Nat} {fs : SDen} {σ : ASt} {c : Nat} {r : Option Int} {A A2 : AHp} {v : AV} (h : sub c = some true) (hf : fs (σ.set i (some (.hx c r))) A = .rt v A2) (hv : noHx v = true) (hB : ∃ B, A2 = A ++ B ∧ B.all noHxO = true) : try1 sub i fs (.er σ c r A) = .rt v A2 := by
  show tryK sub i fs σ c r A = _
  unfold tryK
  rw [h]
  dsimp only
  rw [hf]
  unfold tryEnd
  dsimp only
  rw [if_pos ⟨hv, hB⟩]
/-! ### isinstance with own classes -/
section
variable {f1 : Nat → Nat → Option Bool} {f2 : Nat → String → Option Bool} {f3 : String → Nat → Option Bool} {A : AHp}
theorem isx_cls (v : AV) (c : Nat) (hv : excTy v = none) : fIsiX f1 f2 f3 [v, .cls c] A = (tyA v A).bind fun q => (kitA f1 f2 f3 q (.cls c)).map fun r => (.bl r, A) := by
  unfold fIsiX
  dsimp only
  rw [hv]
  dsimp only
  unfold fIsi
  dsimp only
  cases tyA v A <;> rfl
@[simp] theorem isx_hx (t : Nat) (r : Option Int) (c : Nat) : fIsiX f1 f2 f3 [.hx t r, .cls c] A = (f1 t c).map fun b => (.bl b, A) := (rfl)
@[simp] theorem isx_exc (t : Nat) (r : Option Int) (c : Nat) : fIsiX f1 f2 f3 [.exc t r, .cls c] A = (f1 t c).map fun b => (.bl b, A) := (rfl)
@[simp] theorem isx_N (c : Nat) : fIsiX f1 f2 f3 [.non, .cls c] A = (f3 "NoneType" c).map fun b => (.bl b, A) := by rw [isx_cls _ _ rfl]; rfl
@[simp] theorem isx_I (i : Int) (c : Nat) : fIsiX f1 f2 f3 [.int i, .cls c] A = (f3 "int" c).map fun b => (.bl b, A) := by rw [isx_cls _ _ rfl]; rfl
theorem isx_R {n t : Nat} {fs : List (Nat × AV)} (h : gt A n = some (.ins t fs)) (c : Nat) : fIsiX f1 f2 f3 [.ref n, .cls c] A = (f1 t c).map fun b => (.bl b, A) := by
  rw [isx_cls _ _ rfl]
  unfold tyA
  dsimp only
  rw [show A[n]? = some (.ins t fs) from h]
  rfl
end
/-! ### max of a list of numbers -/
theorem intsA_map (l : List Int) : intsA (l.map AV.int) = some l := by
  induction l with
  | nil => rfl
  | cons i l ih =>
    rw [List.map_cons]
    unfold intsA
    rw [ih]
theorem max_ints {A : AHp} {n : Nat} {i : Int} {l : List Int} (h : gt A n = some (.lst ((i :: l).map AV.int) false)) : fMax1 [.ref n] A = some (.int (maxI i l), A) := by
  unfold fMax1 intsAt lstAt
  dsimp only
  rw [show A[n]? = some (.lst ((i :: l).map AV.int) false) from h]
  show (match intsA ((i :: l).map AV.int) with
    | some (i :: r) => some (AV.int (maxI i r), A)
    | _ => none) = _
  rw [intsA_map]
end Ev
end
section
/-! Ev, twenty-eighth part: a dict written with one pair, its key a tuple. -/
namespace Ev
open PySem PySem.Spec L2
set_option autoImplicit false
section
variable {E : En} {X : Cx} {W : WX} {ρ : List Addr} {H : Hp}
def tDispT (trs : List (TE × TE)) : TE := fun σ H Q => ∀ p, H p = none → tPairs trs σ (upd H p (.dK [])) fun ps H2 => (H2 p = some (.dK []) ∨ H2 p = some (.dT [])) ∧ ∃ (b : Addr) (ks : List Key) (y : V), ps = [(.ref b, y)] ∧ H2 b = some (.tup (ks.map kV)) ∧ Q (.ref p) (upd H2 p (.dT [(ks, y)]))
theorem pe_dispT {pos : Pos} {keys : List (Option Expr)} {values : List Expr} {trs : List (TE × TE)} (h : PPs X pos keys values trs) (hall : keys.all (·.isSome) = true) (hl : keys.length = values.length) (h0 : keys ≠ [])
    (h15 : keys.length ≤ 15) (hu : X.A.units < cLine) : PE X (.Dict keys values pos) (tDispT trs) := by
  refine ⟨fun pins s σ H Q I q => ?_⟩
  have hn := I.hok.fresh (Nat.le_refl s.heap.objs.size)
  have I1 := I.laid (a := s.heap.objs.size) (o := .dK []) (h' := s.heap.push { cls := .type "dict", data := .dict #[] }) (t' := s.toks) (fun _ _ q => Heap.get?_push_of_some _ q) (Nat.le_refl _) (dk_empty s.heap I.big)
  refine wpAny_Dict_any hall hl h0 h15 (thn (h.run pins _ σ _ _ I1 (q _ hn)) fun ws s2 ⟨ps, H2, I2, rel, e, b, ks, y, ep, eb, q2⟩ => ?_)
  subst ep
  have conv : ∃ H3, L2.Inv X pins σ H3 s2 ∧ H3 s.heap.objs.size = some (.dT []) ∧ H3 b = some (.tup (ks.map kV)) ∧ upd H3 s.heap.objs.size (.dT [(ks, y)]) = upd H2 s.heap.objs.size (.dT [(ks, y)]) := by
    rcases e with e | e
    · refine ⟨_, Inv.dk_dt I2 e, upd_same, ?_, upd_upd⟩
      rw [upd_ne (ne_of eb e (fun z => nomatch z))]
      exact eb
    · exact ⟨H2, I2, e, eb, rfl⟩
  obtain ⟨H3, I3, e3, eb3, eu⟩ := conv
  cases rel with
  | @cons a w as bs hh t =>
    cases t
    obtain ⟨u, r⟩ := w
    obtain ⟨r1, r2⟩ := hh
    cases (show u = Value.ref b from r1)
    obtain ⟨z, hd, xs, rel, dd⟩ := dt_of I3.hok e3
    have hx : xs = [] := by cases rel; rfl
    subst hx
    unfold storeAll
    rw [List.forIn_cons]
    refine wpAny_bind (wpAny_bind (wpAny_dictSet_heap (hsz := by rw [List.length_nil]; exact Nat.zero_le _) (knd := tupleKind (mixKind X.prog X.w)) hu (key_of I3.hok eb3) dd fun h' dd' hs => wpAny_pure ?_))
    show wpAny (model X.prog X.w) X.A (forIn ([] : List (Value × Value)) PUnit.unit _) _ _ _
    rw [List.forIn_nil]
    refine wpAny_pure ⟨.ref s.heap.objs.size, _, ?_, rfl, q2⟩
    rw [← eu]
    obtain ⟨q, es, ep, hq, g2, g3, g4, _, g5⟩ := dd'
    refine d_write (ob := .dT [(ks, y)]) I3 (by rw [e3]; exact True.intro) hs ⟨q, hq⟩ ⟨by rw [sizeLine_eq]; simp, hd, _, (rel.put ks eb3 r2).keeps fun c ys ec => ?_, q, es, ep, hq, g2, g3, g4, g5⟩
    rw [upd_ne (ne_of ec e3 (fun z => nomatch z))]
    exact ec
/-- {k: v}, k a tuple -/
def dDictT (fk fv : Den AV) : Den AV := fun σ A => (fk σ (A ++ [.dict [] false])).bind fun x A1 => (fv σ A1).bind fun y A2 => match keyOf x with
  | some (.t ks) => (match A2[A.length]? with
    | some (.dict [] false) => .ok (.ref A.length) (A2.set A.length (.dict [(.t ks, y)] false))
    | _ => .bad)
  | _ => .bad
theorem se_dictT {k v : Expr} {fk fv : Den AV} {pos : Pos} (hu : X.A.units < cLine) (hk : SE E X W k fk) (hv : SE E X W v fv) : SE E X W (.Dict [some k] [v] pos) (dDictT fk fv) := by
  refine PE.imp (pe_dispT (sp_cons (pos := pos) hk hv sp_nil).pps (by rfl) (by rfl) (by simp) (by simp) hu) fun σ H Q ⟨ρ, σa, A, hs, hh, q⟩ p hp => ?_
  obtain ⟨z1, z2, z3⟩ := newDict hh hp
  refine pairs_rd (hs.ext z2) z1 ?_
  unfold dDictT at q
  unfold dPairs dPairs
  cases e1 : fk σa (A ++ [.dict [] false]) with
  | err c i A2 => rw [e1] at q; exact fun ρ' H' d x => q ρ' H' d (z2.trans x)
  | bad => rw [e1] at q; exact q.elim
  | ok x A1 =>
    rw [e1] at q
    have q : Post E (RV E) ((fv σa A1).bind fun y A2 => match keyOf x with
      | some (.t ks) => (match A2[A.length]? with
        | some (.dict [] false) => .ok (.ref A.length) (A2.set A.length (.dict [(.t ks, y)] false))
        | _ => .bad)
      | _ => .bad) ρ H Q (fun c d H' => W c d σ H') := q
    show Post E (RPs E) ((fv σa A1).bind fun y A2 => (Res.ok ([] : List (AV × AV)) A2).bind fun ps A3 => .ok ((x, y) :: ps) A3) _ _ _ _
    cases e2 : fv σa A1 with
    | err c i A2 => rw [e2] at q; exact fun ρ' H' d x => q ρ' H' d (z2.trans x)
    | bad => rw [e2] at q; exact q.elim
    | ok y A2 =>
      rw [e2] at q
      have q : Post E (RV E) (match keyOf x with
        | some (.t ks) => (match A2[A.length]? with
          | some (.dict [] false) => .ok (.ref A.length) (A2.set A.length (.dict [(.t ks, y)] false))
          | _ => .bad)
        | _ => .bad) ρ H Q (fun c d H' => W c d σ H') := q
      show Post E (RPs E) (.ok [(x, y)] A2) _ _ _ _
      intro ρ1 H1 l x1 rh1 r1
      obtain ⟨x', y', s, rfl, rx, ry, r0⟩ := r1
      cases r0
      cases e3 : keyOf x with
      | none => rw [e3] at q; exact q.elim
      | some ky => cases ky with
        | k _ => rw [e3] at q; exact q.elim
        | t ks =>
          rw [e3] at q
          dsimp only at q
          obtain ⟨b, rfl, eb⟩ := keyOf_t e3 rx
          have ep := x1.pre _ _ z3
          cases e4 : A2[A.length]? with
          | none => rw [e4] at q; exact q.elim
          | some o => cases o with
            | lst _ _ => rw [e4] at q; exact q.elim
            | ins _ _ => rw [e4] at q; exact q.elim
            | dn _ => rw [e4] at q; exact q.elim
            | dict kv0 lk => cases lk with
              | true => cases kv0 <;> (rw [e4] at q; exact q.elim)
              | false => cases kv0 with
                | cons _ _ => rw [e4] at q; exact q.elim
                | nil =>
                  rw [e4] at q
                  dsimp only at q
                  have ho := rh1.at_ _ _ _ e4 ep
                  have hp1 : H1 p = some (.dK []) ∨ H1 p = some (.dT []) := by
                    rcases ho with ⟨kv', r2, w⟩ | ⟨kv', r2, w⟩
                    · cases r2; exact .inl w
                    · cases r2; exact .inr w
                  obtain ⟨y1, y2⟩ := rh1.write (H' := upd H1 p (.dT [(ks, y')])) (o' := .dict [(.t ks, y)] false) e4 ep (fun b hb => upd_ne hb) fun x => .inr ⟨[(ks, y')], ⟨ks, y', [], rfl, rfl, ry.ext x, rfl⟩, upd_same⟩
                  exact ⟨hp1, b, ks, y', rfl, eb, q _ _ _ ((z2.trans x1).trans y2) y1 ⟨p, y2.pre _ _ ep, rfl⟩⟩
end
@[simp] theorem e_dictT (fk fv : Den AV) (σ : ASt) (A : AHp) : dDictT fk fv σ A = (fk σ (A ++ [.dict [] false])).bind fun x A1 => (fv σ A1).bind fun y A2 => match keyOf x with
  | some (.t ks) => (match gt A2 A.length with
    | some (.dict [] false) => .ok (.ref A.length) (A2.set A.length (.dict [(.t ks, y)] false))
    | _ => .bad)
  | _ => .bad := (rfl)
end Ev
end
section
/-! Ev, twenty-ninth part: a dict held against an empty one. -/
namespace Ev
open PySem PySem.Spec L2
set_option autoImplicit false
section
variable {E : En} {X : Cx} {W : WX} {ρ : List Addr} {H : Hp}
/-- is it empty, of a dict by ints and texts -/
def emK : List (AK × AV) → Option Bool
  | [] => some true
  | (.k _, _) :: _ => some false
  | _ => none
/-- a == {} -/
def pEqE : Op2 := fun a b A => match a, b with
  | .ref i, .ref j => (match A[i]?, A[j]? with
    | some (.dict kvs false), some (.dict [] false) => (emK kvs).map fun r => (.bl r, A)
    | _, _ => none)
  | _, _ => none
theorem dk_em {pins : List (Addr × Obj)} {σ : St} {s : Shared} {a : Addr} {kvs : List (AK × AV)} {r : Bool} (I : L2.Inv X pins σ H s) (ho : RO E ρ H (.dict kvs false) a) (e : emK kvs = some r) :
    (a == sysModules) = false ∧ ∃ vs : List (Key × Value), s.heap.DictOf (mixKind X.prog X.w) a vs ∧ vs.isEmpty = r := by
  rcases ho with ⟨kv', r1, w⟩ | ⟨kv', r1, w⟩
  · have w : H a = some (.dK kv') := by simpa [AtD] using w
    obtain ⟨_, hd, vs, rel, dd⟩ := dk_of I.hok w
    refine ⟨hd, vs, dd, ?_⟩
    cases kvs with
    | nil =>
      cases r1
      cases rel
      cases e
      rfl
    | cons p t =>
      obtain ⟨k, v⟩ := p
      obtain ⟨k', v', r', rfl, rfl, _, _⟩ := r1
      cases e
      cases rel
      rfl
  · have w : H a = some (.dT kv') := by simpa [AtD] using w
    cases kvs with
    | nil =>
      cases r1
      cases e
      obtain ⟨_, hd, vs, rel, dd⟩ := dk_of (Inv.dt_dk I w).hok upd_same
      cases rel
      exact ⟨hd, [], dd, rfl⟩
    | cons p t =>
      obtain ⟨k, v⟩ := p
      obtain ⟨k', v', r', rfl, rfl, _, _⟩ := r1
      cases e
theorem os_eqE (hu : X.A.units + 64 < cLine) : OpS E X (compareOp .Eq) pEqE := by
  intro pins s σ H x y v u Q I rx ry h
  obtain ⟨ρ, A, a, b, hh, ha, hb, q⟩ := h
  unfold pEqE at q
  cases a with
  | ref i => cases b with
    | ref j =>
      obtain ⟨pa, ea, rfl⟩ := ha
      obtain ⟨pb, eb, rfl⟩ := hb
      cases (show v = Value.ref pa from rx)
      cases (show u = Value.ref pb from ry)
      dsimp only at q
      split at q
      · rename_i kvs e1 e2
        cases e3 : emK kvs with
        | none => rw [e3] at q; exact q.elim
        | some r =>
          rw [e3] at q
          obtain ⟨ha', va, da, za⟩ := dk_em I (hh.at_ _ _ _ e1 ea) e3
          obtain ⟨hb', vb, db, zb⟩ := dk_em I (hh.at_ _ _ _ e2 eb) rfl
          have zb : vb = [] := List.isEmpty_iff.mp zb
          subst zb
          refine PySem.W.rcP_dicts (r := true) ha' hb' da db (Nat.lt_of_le_of_lt (Nat.le_add_right _ _) hu) (fun hl => ?_) _ _ ?_
          · have : va = [] := List.length_eq_zero_iff.mp (by simpa using hl)
            subst this
            exact .nil
          · refine fin_bl I (q.pure hh rfl) ?_
            subst za
            cases va <;> simp
      · exact q.elim
    | _ => exact q.elim
  | _ => exact q.elim
@[simp] theorem e_eqE (i j : Nat) (A : AHp) : pEqE (.ref i) (.ref j) A = match gt A i, gt A j with
    | some (.dict kvs false), some (.dict [] false) => (emK kvs).map fun r => (.bl r, A)
    | _, _ => none := (rfl)
@[simp] theorem e_emK0 : emK [] = some true := (rfl)
@[simp] theorem e_emK1 (k : Key) (v : AV) (t : List (AK × AV)) : emK ((.k k, v) :: t) = some false := (rfl)
end
end Ev
end
section
/-! Ev, thirtieth part: how often a plain value stands in a list. -/
namespace Ev
open PySem PySem.Spec L2
set_option autoImplicit false
section
variable {E : En} {X : Cx} {W : WX} {ρ : List Addr} {H : Hp}
theorem countU {y : V} : ∀ {ys : List V} {us : List Value}, Vals ys us → ys.all flatV = true → us.countP (eqU y) = ys.countP fun z => eqV z y
  | _, _, .nil, _ => rfl
  | _, _, .cons r t, h => by
    rw [List.all_cons, Bool.and_eq_true] at h
    rw [List.countP_cons, List.countP_cons, countU t h.2, eqU_of r h.1]
def rCountF (K : PySem.W.Frag) : V → List V → Hp → VK → Prop := fun x xs H Q => ∃ (a : Addr) (ys : List V) (y : V), x = V.ref a ∧ xs = [y] ∧ SqL K H a ys ∧ flatV y = true ∧ ys.all flatV = true ∧ Q (.int (ys.countP (fun z => eqV z y) : Nat)) H
theorem mt_countF : MtR X "list.count" (rCountF X.K) := by
  intro pins s σ H x xs v us Q I rx rxs h
  obtain ⟨a, ys, y, rfl, rfl, hs, fy, fys, q⟩ := h
  cases rx
  cases rxs with
  | cons ry rt =>
    rename_i uy ut
    cases rt
    obtain ⟨its, rv, ⟨⟨cls, dd, data, sl⟩, n, ho, hc, hdn, hd⟩, hlen⟩ := I.list hs
    simp only at hc hd
    subst hc hd
    refine call_meets PySem.F.slot_list_count ⟨_, ho, rfl⟩ PySem.F.entry_list_count (PySem.F.args_list_count_2 _ _)
      (SeqAt.list_countAt a its.toArray n dd sl uy (eqU y)) ⟨ho, fun u' hu' => mem_eqAt ry fy rv fys u' (by simpa using hu'), ?_⟩
    refine ⟨.int (ys.countP (fun z => eqV z y) : Nat), H, I.tok _, ⟨s.toks, ?_⟩, q⟩
    show Value.int ((its.toArray.toList.countP (eqU y) : Nat) : Int) s.toks = _
    rw [show its.toArray.toList = its from rfl, countU rv fys]
def mCount : OpM := fun o as A => match o, as with
  | .ref n, [v] => (match lstAt A n with
    | some xs => if inB.flatA v && xs.all inB.flatA then some (.int (xs.countP fun z => inB.eqFlat z v : Nat), A) else none
    | none => none)
  | _, _ => none
theorem countP_rv {v : AV} {y : V} (hv : inB.flatA v = true) (rv : RV E ρ H v y) : ∀ {xs : List AV} {ys : List V}, xs.all inB.flatA = true → RVs E ρ H xs ys → (ys.countP fun z => eqV z y) = xs.countP fun z => inB.eqFlat z v
  | [], _, _, r => by cases r; rfl
  | x :: xs, _, h, r => by
    obtain ⟨u, us, rfl, r1, r2⟩ := r
    rw [List.all_cons, Bool.and_eq_true] at h
    rw [List.countP_cons, List.countP_cons, countP_rv hv rv h.2 r2, eqFlat_rv h.1 hv r1 rv]
theorem ms_count : MtS E X "list.count" mCount := by
  intro pins s σ H x xs v us Q I rx rs hq
  obtain ⟨ρ, A, a, as, hh, ra, r, q⟩ := hq
  unfold mCount at q
  split at q
  · rename_i n w
    obtain ⟨y, rfl, ry⟩ := rvs1 r
    split at q
    · rename_i zs e1
      split at q
      · rename_i hf
        rw [Bool.and_eq_true] at hf
        obtain ⟨a1, ys, rfl, rv, wr⟩ := lstAt_ok hh e1 ra
        refine mt_countF pins s σ H _ _ v us Q I rx rs ⟨a1, ys, y, rfl, rfl, .inl wr, flat_rv hf.1 ry, flats_rv hf.2 rv, ?_⟩
        rw [countP_rv hf.1 ry hf.2 rv]
        exact q.pure hh rfl
      · exact q.elim
    · exact q.elim
  · exact q.elim
theorem st_truK {e : Expr} {f : Den AV} (hK : X.K = E.K) (h : SE E X W e f) (he : ∀ whole, isTrue e X.env whole = (do let v ← whole; standAt e.pos; holding [v] (truthy v))) : STt E X W e (dTru f) := by
  refine PT.imp (pt_truth h he) fun σ H Q h => ?_
  refine rd_step h fun x' H1 ρ σa A x hs hh hx q => ?_
  unfold asT at q
  cases e : truA x A with
  | none => rw [e] at q; exact q.elim
  | some b =>
    rw [e] at q
    exact ⟨b, tru_okA hK hh hx e, q ρ H1 b (Ext.refl _ _) hh rfl⟩
end
end Ev
end
section
/-! Ev, thirty-first part: what a layer's reading wants: rfind, int of a text, tuples by <, the dict of None and tuples. -/
namespace Ev
open PySem PySem.Spec L2
set_option autoImplicit false
section
variable {E : En} {X : Cx} {W : WX} {k : Nat} {ρ : List Addr} {H : Hp}
theorem ms_rfind : MtS E X "str.rfind" (mStr1 fun a b => .int (Txt.rfind a b)) := ms_str1 (gv := fun a b => .int (Txt.rfind a b)) mt_rfind fun _ _ _ _ => rfl
/-- int(x) of a number or a text -/
def fIntS : OpN := fun as A => match as with
  | [.str x] => (if x.length ≤ 640 then (PySem.intText? x).map fun n => (.int n, A) else none)
  | as => fInt as A
theorem cs_intS : CallS E X (.type "int") fIntS := by
  intro pins s σ H xs us Q I rv h
  obtain ⟨ρ, A, as, hh, r, q⟩ := h
  unfold fIntS at q
  split at q
  · rename_i x
    obtain ⟨y, rfl, r1⟩ := rvs1 r
    cases r1
    split at q
    · rename_i hl
      cases e : PySem.intText? x with
      | none => rw [e] at q; exact q.elim
      | some n =>
        rw [e] at q
        exact call_int_str pins s σ H _ us Q I rv ⟨_, n, rfl, e, hl, q.pure hh rfl⟩
    · exact q.elim
  · exact cs_int pins s σ H _ us Q I rv ⟨ρ, A, _, hh, r, q⟩
/-- a < b of two things of one shape -/
def pLtD : Op2 := fun a b A => match toD 40 A a, toD 40 A b with
  | some d, some e => (match d with
    | .tuple _ => if PySem.W.alike d e && decide (d.depth ≤ 40) then some (.bl (PySem.W.dataLt d e), A) else none
    | _ => none)
  | _, _ => none
theorem os_ltD (c : CtxB E X) : OpS E X (compareOp .Lt) pLtD := by
  intro pins s σ H x y v u Q I rx ry h
  obtain ⟨ρ, A, a, b, hh, ha, hb, q⟩ := h
  unfold pLtD at q
  cases e1 : toD 40 A a with
  | none => rw [e1] at q; exact q.elim
  | some d => cases e2 : toD 40 A b with
    | none => rw [e1, e2] at q; cases d <;> exact q.elim
    | some e =>
      rw [e1, e2] at q
      dsimp only at q
      cases d with
      | tuple ds =>
        dsimp only at q
        cases hz : PySem.W.alike (.tuple ds) e && decide ((PyData.tuple ds).depth ≤ 40) with
        | false => rw [hz] at q; exact q.elim
        | true =>
          rw [hz] at q
          obtain ⟨z1, z2⟩ := Bool.and_eq_true_iff.mp hz
          have z2 := of_decide_eq_true z2
          obtain ⟨as, r1⟩ := Dp.reads I _ x v ((toD_ok c.hK hh 40).1 a x _ e1 ha) rx
          obtain ⟨bs, r2⟩ := Dp.reads I _ y u ((toD_ok c.hK hh 40).1 b y _ e2 hb) ry
          refine PySem.W.lt_data r1 r2 z1 (fun z => nomatch z) (by have := c.hu; omega) ⟨.bl _, H, I, rfl, ?_⟩
          exact q.pure hh rfl
      | _ => exact q.elim
/-! ### a dict of None and tuples -/
def nkOf : AV → Option NK
  | .non => some none
  | .tup xs => (match keyOf (.tup xs) with
    | some (.t ks) => some (some ks)
    | _ => none)
  | _ => none
theorem nk_at {b : AV} {i : V} {n : NK} (e : nkOf b = some n) (r : RV E ρ H b i) : ∀ {u : Value} {P : Program} {w : World} {h : Heap}, HOk P w H h → RelV i u → nIs P w h n u ∧ NAt H (n, u) := by
  intro u P w h ok ru
  unfold nkOf at e
  split at e
  · cases e
    cases r
    cases ru
    exact ⟨rfl, rfl⟩
  · split at e
    · rename_i ks ek
      cases e
      obtain ⟨b', rfl, eb⟩ := keyOf_t ek r
      cases ru
      exact ⟨⟨b', rfl, key_of ok eb⟩, b', rfl, eb⟩
    · cases e
  · cases e
theorem NAt.is {P : Program} {w : World} {h : Heap} {x : NK × Value} (n : NAt H x) (ok : HOk P w H h) : nIs P w h x.1 x.2 := by
  obtain ⟨k, v⟩ := x
  cases k with
  | none => exact n
  | some k => obtain ⟨b, e, q⟩ := n; exact ⟨b, e, key_of ok q⟩
theorem dn_new {P : Program} {w : World} {H' : Hp} {h' : Heap} {a : Addr} {xs : List (NK × Value)} (z : xs.length ≤ sizeLine) (hd : (a == sysModules) = false) (d : DnOf P w h' a xs) : ObjOk P w H' h' a (dnO P w a xs) := by
  obtain ⟨o, es, ep, ho, r⟩ := d
  refine ⟨⟨z, hd, o, es, ep, ho, r⟩, ⟨o, ho⟩, ?_⟩
  rintro h1 h2 ⟨z', hd', o', es', ep', ho', r'⟩ hk
  exact ⟨z', hd', o', es', ep', hk _ ho', r'⟩
theorem dn_of {P : Program} {w : World} {h : Heap} {a : Addr} {xs : List (NK × Value)} (ok : HOk P w H h) (e : H a = some (dnO P w a xs)) : DnOf P w h a xs := by
  obtain ⟨⟨_, _, d⟩, _⟩ := ok a _ e
  exact d
theorem dn_empty {P : Program} {w : World} {h : Heap} {a : Addr} (ok : HOk P w H h) (e : H a = some (.dK []) ∨ H a = some (.dT [])) : (a == sysModules) = false ∧ DnOf P w h a [] := by
  rcases e with e | e
  · obtain ⟨_, hd, vs, r, o, es, ep, ho, hx, hdt, hk, hp, hn⟩ := dk_of ok e
    cases r
    refine ⟨hd, o, es, ep, ho, hx, hdt, ?_, List.nodup_nil⟩
    cases hl : es.toList with
    | nil => rfl
    | cons x l => rw [hl] at hp; cases hp
  · obtain ⟨_, hd, xs, r, o, es, ep, ho, hx, hdt, he, _, hn⟩ := dt_of ok e
    cases r
    exact ⟨hd, o, es, ep, ho, hx, hdt, he, List.nodup_nil⟩
def putNK (ks : List NK) (k : NK) : List NK := if nHas ks k = true then ks else ks ++ [k]
theorem putNK_map (xs : List (NK × Value)) (k : NK) (v : Value) : (nPut xs k v).map (·.1) = putNK (xs.map (·.1)) k := by
  unfold nPut putNK
  split <;> simp
/-- d[k] = True in such a dict -/
def pPutN : OpP := fun a b z A => match a with
  | .ref n => (match z with
    | .bl true => (match nkOf b, A[n]? with
      | some k, some (.dict [] false) => some (A.set n (.dn [k]))
      | some k, some (.dn ks) => if ks.length < 1000 then some (A.set n (.dn (putNK ks k))) else none
      | _, _ => none)
    | _ => none)
  | _ => none
theorem ss_putN (c : Ctx E k X W) : SetS E X pPutN := by
  intro pins s σ H o i v ov iv u Q I ro ri rv h
  obtain ⟨ρ, A, a, b, z, hh, ra, rb, rz, q⟩ := h
  have hP := c.hP
  have run : ∀ (n : Nat) (a1 : Addr) (oo : AO) (xs : List (NK × Value)) (kk : NK), A[n]? = some oo → ρ[n]? = some a1 → unl oo = true → Mut (H a1) → (∀ ys, H a1 ≠ some (.tup ys)) → (a1 == sysModules) = false → DnOf X.prog X.w s.heap a1 xs → (∀ x ∈ xs, NAt H x) → nkOf b = some kk → xs.length < 1000 →
      (∀ ρ' H', Ext ρ H ρ' H' → RH E ρ' H' (A.set n (.dn (putNK (xs.map (·.1)) kk))) → Q H') → wpAny (model X.prog X.w) X.A (setItem (.ref a1) iv (.bool true)) (fun _ s' => ∃ H', Inv X pins σ H' s' ∧ Q H') X.xe s := by
    intro n a1 oo xs kk e1 ea hu mu nt hd dn nat ek hl q
    obtain ⟨k1, k2⟩ := nk_at ek rb (P := X.prog) (w := X.w) I.hok ri
    have hl' : (nPut xs kk iv).length ≤ sizeLine := by
      unfold nPut
      have : sizeLine = sizeLine := rfl
      split
      · exact Nat.le_trans (Nat.le_of_lt hl) (by decide)
      · rw [List.length_append]
        exact Nat.le_trans (Nat.add_le_add_right (Nat.le_of_lt hl) 1) (by decide)
    refine n_set c.hu1 k1 dn (fun x hx => (nat x hx).is I.hok) (fun h' dd hs => ?_) (Nat.le_trans (Nat.le_of_lt hl) (by decide))
    have I' := d_write (t' := s.toks + nDraws X.prog X.w kk) I mu hs (let ⟨q, _, _, hq, _⟩ := dd; ⟨q, hq⟩) (dn_new hl' hd dd)
    refine ⟨_, I', ?_⟩
    obtain ⟨z1, z2⟩ := hh.write (H' := upd H a1 (dnO X.prog X.w a1 (nPut xs kk iv))) (o' := .dn (putNK (xs.map (·.1)) kk)) e1 ea (fun b hb => upd_ne hb) (fun x => by
      refine ⟨nPut xs kk iv, putNK_map _ _ _, by rw [← hP.1, ← hP.2]; exact upd_same, fun y hy => ?_, ⟨h', by rw [← hP.1, ← hP.2]; exact dd⟩, hl', hd⟩
      have hy' : NAt H y := by
        unfold nPut at hy
        split at hy
        · exact nat y hy
        · rcases List.mem_append.mp hy with hy | hy
          · exact nat y hy
          · rw [List.mem_singleton.mp hy]; exact k2
      unfold NAt at hy' ⊢
      split
      · rename_i e2; rw [e2] at hy'; exact hy'
      · rename_i e2
        rw [e2] at hy'
        obtain ⟨b', e3, e4⟩ := hy'
        refine ⟨b', e3, ?_⟩
        rw [upd_ne (fun z => nt _ (by rw [← z]; exact e4))]
        exact e4) hu
    exact q ρ _ z2 z1
  unfold pPutN at q
  cases a with
  | ref n =>
    dsimp only at q
    cases z with
    | bl zb => cases zb with
      | false => exact q.elim
      | true =>
        obtain rfl : v = .bl true := rz
        obtain rfl : u = .bool true := rv
        cases ek : nkOf b with
        | none => rw [ek] at q; exact q.elim
        | some kk =>
          cases e1 : A[n]? with
          | none => rw [ek, e1] at q; exact q.elim
          | some oo =>
            rw [ek, e1] at q
            dsimp only at q
            cases oo with
            | dict kvs lk => cases kvs with
              | cons p l => exact q.elim
              | nil => cases lk with
                | true => exact q.elim
                | false =>
                  obtain ⟨a1, ea, w⟩ := hh.get e1
                  have ex := RVref ra ea
                  subst ex
                  obtain rfl : ov = Value.ref a1 := ro
                  have w' : H a1 = some (.dK []) ∨ H a1 = some (.dT []) := by
                    rcases w with ⟨kv', r2, w⟩ | ⟨kv', r2, w⟩
                    · cases r2; exact .inl w
                    · cases r2; exact .inr w
                  obtain ⟨hd, dn⟩ := dn_empty I.hok w'
                  refine run n a1 _ [] kk e1 ea rfl ?_ ?_ hd dn (fun x hx => nomatch hx) ek (by decide) q
                  · rcases w' with w | w <;> (rw [w]; exact True.intro)
                  · intro ys hy
                    rcases w' with w | w <;> (rw [w] at hy; cases hy)
            | dn ks =>
              dsimp only at q
              by_cases hl : ks.length < 1000
              · rw [if_pos hl] at q
                obtain ⟨a1, ea, xs, rfl, w, nat, _, hl2, hd⟩ := hh.get e1
                have ex := RVref ra ea
                subst ex
                obtain rfl : ov = Value.ref a1 := ro
                have dn := dn_of (P := X.prog) (w := X.w) I.hok (by rw [hP.1, hP.2]; exact w)
                exact run n a1 _ xs kk e1 ea rfl (by rw [w]; exact True.intro) (fun ys hy => by rw [w] at hy; cases hy) hd dn nat ek (by simpa using hl) q
              · rw [if_neg hl] at q; exact q.elim
            | lst _ _ => exact q.elim
            | ins _ _ => exact q.elim
    | _ => exact q.elim
  | _ => exact q.elim
def inN (a b : AV) (A : AHp) : Option Bool := match b with
  | .ref n => (match nkOf a, A[n]? with
    | some k, some (.dn ks) => some (nHas ks k)
    | _, _ => none)
  | _ => none
/-- k in d, also in such a dict -/
def pInN : Op2 := fun a b A => match inN a b A with
  | some r => some (.bl r, A)
  | none => pIn a b A
theorem os_inN (c : Ctx E k X W) : OpS E X (compareOp .In) pInN := by
  intro pins s σ H x y v u Q I rx ry h
  obtain ⟨ρ, A, a, b, hh, ha, hb, q⟩ := h
  unfold pInN at q
  cases e : inN a b A with
  | none =>
    rw [e] at q
    exact os_in c pins s σ H x y v u Q I rx ry ⟨ρ, A, a, b, hh, ha, hb, q⟩
  | some r =>
    rw [e] at q
    have hP := c.hP
    unfold inN at e
    split at e
    · rename_i n
      split at e
      · rename_i kk ks ek e1
        cases e
        obtain ⟨a1, ea, xs, rfl, w, nat, _, hl2, hd⟩ := hh.get e1
        have ex := RVref hb ea
        subst ex
        obtain rfl : u = Value.ref a1 := ry
        obtain ⟨k1, k2⟩ := nk_at ek ha (P := X.prog) (w := X.w) I.hok rx
        have dn := dn_of (P := X.prog) (w := X.w) I.hok (by rw [hP.1, hP.2]; exact w)
        exact n_in c.hu1 k1 hd dn (fun x hx => (nat x hx).is I.hok) ⟨.bl _, H, I.tok _, rfl, q.pure hh rfl⟩
      · cases e
    · cases e
@[simp] theorem e_putN (n : Nat) (b : AV) (A : AHp) : pPutN (.ref n) b (.bl true) A = match nkOf b, gt A n with
  | some k, some (.dict [] false) => some (A.set n (.dn [k]))
  | some k, some (.dn ks) => if ks.length < 1000 then some (A.set n (.dn (putNK ks k))) else none
  | _, _ => none := (rfl)
@[simp] theorem e_inN (n : Nat) (b : AV) (A : AHp) : inN b (.ref n) A = match nkOf b, gt A n with
  | some k, some (.dn ks) => some (nHas ks k)
  | _, _ => none := (rfl)
end
end Ev
end
section
/-! Ev, thirty-second part: list(reversed(a list)). -/
namespace Ev
open PySem PySem.Spec L2 PyProof.Rows
set_option autoImplicit false
section
variable {prog : Program} {w : World} {A : Around} {E : Value → Shared → Prop} {s : Shared}
theorem listInit_rev {R : Result → Shared → Prop} {it l : Addr} {items : Array Value} (hh : A.handled = none) (hit : s.heap.IsRevIter it l ((items.size : Int) - 1)) (hl : s.heap.IsList l items) (hne : l ≠ it) (hn : items.size ≤ sizeLine) (S : Addr)
    (hS : s.heap.get? S = some { cls := .type "list", data := .seq #[] }) (hSi : S ≠ it) (hSl : S ≠ l)
    (hR : ∀ h' tk acc' c', (∀ b o, b ≠ S → b ≠ it → s.heap.get? b = some o → h'.get? b = some o) → h'.get? S = some { cls := .type "list", dict := none, data := .seq acc' c', slots := #[] } →
      ItemsOf (fun i v => items[items.size - 1 - i]? = some v) acc' items.size → R (.ok (.ret .none)) { s with heap := h', toks := tk }) :
    wpAny (model prog w) A.in1 (Builtin.«list.__init__» ⟨[.ref S, .ref it], []⟩)
      (fun fin s' => match fin with | .done f => R (.ok f) s' | .again c' => c'.quiet = true ∧ codeAny (model prog w) A c' R s') (fun e s' => R (.error e) s') s := by
  have W := (Walks.listRev (prog := prog) (w := w) (A := A.in1) hh it l hne items).toS
  have hSf : S ∉ [it, l] := by simp only [List.mem_cons, List.not_mem_nil, or_false, not_or]; exact ⟨hSi, hSl⟩
  show wpAny _ _ (do let old ← Builtin.List.listItems (.ref S); Builtin.List.listUpdate (.ref S) (fun _ => #[]); letGo old.toList.reverse; Builtin.List.listExtendWith (.ref S) (.ref it) .none) _ _ s
  refine wpAny_bind ?_
  unfold Builtin.List.listItems
  refine wpAny_bind (wpAny_seqItems hS rfl (wpAny_pure ?_))
  show wpAny _ _ (updateSeq S (fun _ => #[]) >>= fun _ => letGo (#[] : Array Value).toList.reverse >>= fun _ => Builtin.List.listExtendWith (.ref S) (.ref it) .none) _ _ s
  refine wpAny_bind (wpAny_updateSeq hS rfl ?_)
  have hS₁ := Heap.get?_update_self (Obj.mapSeq (fun _ => (#[] : Array Value))) hS rfl
  have oth : ∀ b o, b ≠ S → s.heap.get? b = some o → (s.heap.update S (Obj.mapSeq (fun _ => (#[] : Array Value)))).get? b = some o :=
    fun b o hb e => (Heap.get?_update_other _ _ (Ne.symm hb)).trans e
  refine wpAny_bind (wpAny_letGo ?_)
  have hit1 : (s.heap.update S (Obj.mapSeq (fun _ => (#[] : Array Value)))).IsRevIter it l ((items.size : Int) - 1) := hit.at fun o e => oth it o (Ne.symm hSi) e
  have hl1 : (s.heap.update S (Obj.mapSeq (fun _ => (#[] : Array Value)))).IsList l items := by
    obtain ⟨o, e1, e2⟩ := hl
    exact ⟨o, oth l o (Ne.symm hSl) e1, e2⟩
  have hT : ({ s with heap := s.heap.update S (Obj.mapSeq (fun _ => (#[] : Array Value))) } : Shared).TypeIs (.ref it) "list_reverseiterator" := Heap.IsRevIter.typeIs (s := { s with heap := s.heap.update S (Obj.mapSeq (fun _ => (#[] : Array Value))) }) hit1
  have h1 : Builtin.List.listSameRef (.ref S) (.ref it) = false := by simp [Builtin.List.listSameRef, hSi]
  unfold Builtin.List.listExtendWith
  refine wpAny_bind (wpAny_typeOf hT ?_)
  rw [if_neg (by rw [h1]; decide)]
  refine wpAny_bind (wpAny_pyIter_revIter (s := { s with heap := s.heap.update S (Obj.mapSeq (fun _ => (#[] : Array Value))) }) hit1 ?_)
  refine wpAny_bind (wpAny_holding ?_)
  unfold Builtin.List.listLengthHint
  refine wpAny_bind (wpAny_specialOf hT _root_.RT.nolen_lri ?_)
  show wpAny _ A.in1 (specialOf (Value.ref it) (Str.ofString "__length_hint__") >>= _) _ _ _
  refine wpAny_bind (wpAny_specialOf hT _root_.RT.hint_lri ?_)
  generalize hid : ("list_reverseiterator.__length_hint__" : String) = id0
  wp_delta
  rw [show splitId id0 = some ("list_reverseiterator", "__length_hint__") from by subst hid; decide +kernel]
  subst hid
  refine wpAny_bind (wpAny_isInstance (b := true) hT (by rw [isSubtype_type]; kernel_rfl) ?_)
  refine wpAny_pure ?_
  rw [if_neg (by decide)]
  have e0 : ((items.size : Nat) : Int) - 1 - ((0 : Nat) : Int) = (items.size : Int) - 1 := by omega
  refine wpAny_pure ⟨plainId_quiet F.plain_extend_loop _, codeAny_extend_loopS W hn _ hSf _ items.size 0 _ _ _ rfl (Nat.zero_le _) ⟨Nat.zero_le _, by rw [e0]; exact hit1, hl1⟩ hS₁ (ItemsOf.nil _) fun s' acc' c' hm hS' hacc => ?_⟩
  rw [Moved.eq_with hm]
  refine hR s'.heap s'.toks acc' c' (fun b o hb hb2 e => hm.heap b o (fun hmem => ?_) (oth b o hb e)) hS' hacc
  rcases List.mem_cons.mp hmem with e' | hmem
  · exact hb e'
  · exact hb2 (List.mem_singleton.mp hmem)
theorem call_listRev {Q : Value → Shared → Prop} {it l : Addr} {items : Array Value} (hh : A.handled = none) (hit : s.heap.IsRevIter it l ((items.size : Int) - 1)) (hl : s.heap.IsList l items) (hne : l ≠ it) (hn : items.size ≤ sizeLine)
    (hQ : ∀ h' tk acc' c', (∀ b o, b ≠ it → s.heap.get? b = some o → h'.get? b = some o) →
      h'.get? s.heap.objs.size = some { cls := .type "list", dict := none, data := .seq acc' c', slots := #[] } → ItemsOf (fun i v => items[items.size - 1 - i]? = some v) acc' items.size → Q (.ref s.heap.objs.size) { s with heap := h', toks := tk }) :
    wpAny (model prog w) A (call (.type "list") [.ref it]) Q E s := by
  refine callType_codes (Q₁ := fun obj s₁ => obj = .ref s.heap.objs.size ∧ s₁ = { s with heap := s.heap.push { cls := .type "list", data := .seq #[] } }) F.called_list (F.typeCall_list_1 _) F.entry_list_init
    (code_list_new _ ⟨rfl, rfl⟩) fun obj s₁ h₁ => ?_
  obtain ⟨rfl, rfl⟩ := h₁
  have hS : (s.heap.push { cls := .type "list", data := .seq #[] }).get? s.heap.objs.size = some { cls := .type "list", data := .seq #[] } := Heap.get?_push_size _ rfl
  obtain ⟨oi, hoi, _⟩ := id hit
  obtain ⟨ol, hol, _⟩ := id hl
  refine ⟨⟨_, hS, rfl⟩, F.args_list_init_2 _ _, listInit_rev (A := A.in1) hh (hit.at fun o e => Heap.get?_push_of_some _ e) (hl.push _) hne hn _ hS (Nat.ne_of_gt (Heap.lt_size hoi)) (Nat.ne_of_gt (Heap.lt_size hol)) fun h' tk acc' c' hk hS' hacc => ?_⟩
  exact ⟨rfl, hQ h' tk acc' c' (fun b o hb e => hk b o (Nat.ne_of_lt (Heap.lt_size e)) hb (Heap.get?_push_of_some _ e)) hS' hacc⟩
end
section
variable {X : Cx}
/-- list(reversed(x)), x a list -/
def tListRev (K : PySem.W.Frag) (te : TE) : TE := fun σ H Q => te σ H fun v H1 => ∃ (a : Addr) (xs : List V), v = .ref a ∧ SqL K H1 a xs ∧ ∀ q, H1 q = none → Q (.ref q) (upd H1 q (.lst xs.reverse))
theorem pe_listRev {e : Expr} {te : TE} {p p2 pos pos2 : Pos} (hc : X.calm = true) (hg : Gl X "list") (hm : X.mg "list" = none) (hg2 : Gl X "reversed") (hm2 : X.mg "reversed" = none) (he : PE X e te)
    (hs : starEach [e] X.env = (false, eval e X.env) :: starEach [] X.env := by rfl)
    (hs2 : starEach [.Call (.Name "reversed" p2) [e] [] pos2] X.env = (false, eval (.Call (.Name "reversed" p2) [e] [] pos2) X.env) :: starEach [] X.env := by rfl) :
    PE X (.Call (.Name "list" p) [.Call (.Name "reversed" p2) [e] [] pos2] [] pos) (tListRev X.K te) := by
  refine ⟨fun pins s σ H Q I h => ?_⟩
  refine Call_ (ld_blt I hg hm PyProof.Rows.boot_list (PyProof.Rows.callWith_type1 (args_cons (Call_ (ld_blt I hg2 hm2 PyProof.Rows.boot_reversed (PyProof.Rows.callWith_type1 (args_cons (thn (he.run pins s σ H _ I h) fun u s1 ⟨v, H1, I1, r1, q1⟩ => args_nil ?_) hs) hs rfl))) hs2) hs2 rfl))
  obtain ⟨a, xs, ev, hq, q⟩ := q1
  subst ev
  obtain rfl : u = Value.ref a := r1
  obtain ⟨its, rv, p', hz⟩ := I1.list hq
  refine call_reversed_list p'.isList (args_nil ?_)
  have hl := p'.isList
  obtain ⟨ol, hol, _⟩ := id hl
  have hne : a ≠ s1.heap.objs.size := Nat.ne_of_lt (Heap.lt_size hol)
  have hn : its.toArray.size ≤ sizeLine := by rw [List.size_toArray, ← rv.length]; exact hz
  refine call_listRev (s := { s1 with heap := s1.heap.push (revObj a ((its.toArray.size : Int) - 1)) }) (I1.ok.hd hc) ⟨_, Heap.get?_push_size _ rfl, rfl, rfl⟩ (hl.push _) hne hn fun h' tk acc c' hk hS hi => ?_
  obtain ⟨A1, hA1⟩ : ∃ A1, A1 = (s1.heap.push (revObj a ((its.toArray.size : Int) - 1))).objs.size := ⟨_, rfl⟩
  have hge : s1.heap.objs.size ≤ A1 := by rw [hA1]; simp [Heap.push]
  rw [← hA1] at hS
  show EP X pins σ Q (.ref (s1.heap.push (revObj a ((its.toArray.size : Int) - 1))).objs.size) _
  rw [← hA1]
  have k0 : ∀ b o, s1.heap.get? b = some o → h'.get? b = some o := fun b o e => hk b o (Nat.ne_of_lt (Heap.lt_size e)) (Heap.get?_push_of_some _ e)
  refine ⟨.ref A1, upd H1 A1 (.lst xs.reverse), I1.laid (a := A1) (o := .lst xs.reverse) (t' := tk) k0 hge (show ObjOk X.prog X.w _ _ _ (.lst xs.reverse) from ⟨by rw [List.length_reverse]; exact hz, acc.toList, c', _root_.RT.vals_rev rv hi, ?_⟩), rfl, q _ (I1.hok.fresh hge)⟩
  rw [Array.toArray_toList]
  exact hS
end
section
variable {E : En} {X : Cx} {W : WX} {k : Nat} {ρ : List Addr} {H : Hp}
theorem rvs_reverse : ∀ {xs : List AV} {ys : List V}, RVs E ρ H xs ys → RVs E ρ H xs.reverse ys.reverse
  | [], _, h => by cases h; rfl
  | x :: xs, _, h => by
    obtain ⟨y, ys, rfl, a, b⟩ := h
    rw [List.reverse_cons, List.reverse_cons]
    exact (rvs_reverse b).append ⟨y, [], rfl, a, rfl⟩
def revL (v : AV) (A : AHp) : Option (List AV) := match v with
  | .kl xs => some xs
  | .ref n => (match A[n]? with
    | some (.lst xs _) => some xs
    | _ => none)
  | _ => none
def dListRev (f : Den AV) : Den AV := fun σ A => (f σ A).bind fun v A1 => match revL v A1 with
  | some xs => .ok (.ref A1.length) (A1 ++ [.lst xs.reverse false])
  | none => .bad
theorem se_listRev {e : Expr} {f : Den AV} {p p2 pos pos2 : Pos} (c : Ctx E k X W) (hg : Gl X "list") (hm : X.mg "list" = none) (hg2 : Gl X "reversed") (hm2 : X.mg "reversed" = none) (he : SE E X W e f)
    (hs : starEach [e] X.env = (false, eval e X.env) :: starEach [] X.env)
    (hs2 : starEach [.Call (.Name "reversed" p2) [e] [] pos2] X.env = (false, eval (.Call (.Name "reversed" p2) [e] [] pos2) X.env) :: starEach [] X.env) :
    SE E X W (.Call (.Name "list" p) [.Call (.Name "reversed" p2) [e] [] pos2] [] pos) (dListRev f) := by
  refine PE.imp (pe_listRev c.calm hg hm hg2 hm2 he hs hs2) fun σ H Q h => ?_
  refine rd_step (f := f) (g := fun (_ : ASt) (v : AV) (A1 : AHp) => (match revL v A1 with
    | some xs => Res.ok (AV.ref A1.length) (A1 ++ [AO.lst xs.reverse false])
    | none => Res.bad : Res AV)) h fun x H1 ρ σa A v hs' hh hv q => ?_
  cases v with
  | kl xs =>
    obtain ⟨a, ys, rfl, st, r1⟩ := hv
    refine ⟨a, ys, rfl, c.hK ▸ st.sq, fun p hp => ?_⟩
    obtain ⟨z1, z2, z3⟩ := newLst hh hp (rvs_reverse r1)
    exact q _ _ _ z2 z1 z3
  | ref n =>
    unfold revL at q
    dsimp only at q
    cases e1 : A[n]? with
    | none => rw [e1] at q; exact q.elim
    | some o => cases o with
      | lst xs ro =>
        rw [e1] at q
        obtain ⟨p0, ys, p1, r2, w0, _⟩ := hh.lst e1
        have ex := RVref hv p1
        subst ex
        refine ⟨p0, ys, rfl, .inl w0, fun p hp => ?_⟩
        obtain ⟨z1, z2, z3⟩ := newLst hh hp (rvs_reverse r2)
        exact q _ _ _ z2 z1 z3
      | dict _ _ => rw [e1] at q; exact q.elim
      | ins _ _ => rw [e1] at q; exact q.elim
      | dn _ => rw [e1] at q; exact q.elim
  | _ => exact q.elim
@[simp] theorem e_listRev (f : Den AV) (σ : ASt) (A : AHp) : dListRev f σ A = (f σ A).bind fun v A1 => match revL v A1 with
  | some xs => .ok (.ref A1.length) (A1 ++ [.lst xs.reverse false])
  | none => .bad := (rfl)
@[simp] theorem e_revK (xs : List AV) (A : AHp) : revL (.kl xs) A = some xs := (rfl)
@[simp] theorem e_revR (n : Nat) (A : AHp) : revL (.ref n) A = (match gt A n with
  | some (.lst xs _) => some xs
  | _ => none) := (rfl)
end
end Ev
end
section
namespace Law
open PySem PySem.Spec L2 Ev
set_option autoImplicit false
def subL : List (Nat × Nat × Bool) := []
def subBL : List (Nat × String × Bool) := [(17, "bool", false), (17, "int", false), (17, "str", false), (17, "tuple", false)]
def bsubL : List (String × Nat × Bool) := []
def exmL : List (Nat × Nat × Bool) := []
def tSub : Nat → Nat → Option Bool := tabNN subL
def tSubB : Nat → String → Option Bool := tabNS subBL
def tBsub : String → Nat → Option Bool := tabSN bsubL
def tEx (h : Nat) : Nat → Option Bool := fun c => tabNN exmL c h
/-- .take_entry -/
def mt40 (r : Rt) : MTb := [(17, r 157)]
/-- .take_pair -/
def mt41 (r : Rt) : MTb := [(17, r 158)]
/-- .take_row -/
def mt42 (r : Rt) : MTb := [(17, r 159)]
/-- .is_whole -/
def mt43 (r : Rt) : MTb := [(17, r 160)]
/-- BadLayer.__init__(self, words, row); slots ['self', 'words', 'row'] -/
noncomputable def f129_0 (r : Rt) : SDen := sBad
/-- is_name(word); slots ['word', 'sign'] -/
noncomputable def f0_0 (r : Rt) : SDen := (sRet (dAndV (dChain pLe pLe (dC (.int 1)) (dCB fLen (dCons (dVar 0) dNil)) (dC (.int 8))) (dCB fAll (dCons (dLc (iAny (dVar 0)) (gNm 1) dYes (dChain pLe pLe (dC (.str (S [97]))) (dVar 1) (dC (.str (S [122])))) [1]) dNil))))
/-- path_text(path); slots ['path'] -/
noncomputable def f8_0 (r : Rt) : SDen := (sRet (dBin pAdd (dC (.str (S [47]))) (dBM "str" mJoin (dC (.str (S [47]))) (dCons (dVar 0) dNil))))
/-- path_in(text); slots ['text', 'words', 'word'] -/
noncomputable def f9_0 (r : Rt) : SDen := (sSeq (sIf (dTB (dBin pEq (dVar 0) (dC (.str (S [47]))))) (sRet (dTup dNil)) sNil) (sSeq (sAsg (dBM "str" mSplit (dVar 0) (dCons (dC (.str (S [47]))) dNil)) (gNm 1)) (sSeq (sIf (dOrT (dTB (dBin pNe (dBin pIx (dVar 1) (dC (.int 0))) (dC (.str (S []))))) (dNotT (dTB (dChain pLe pLe (dC (.int 2)) (dCB fLen (dCons (dVar 1) dNil)) (dBin pAdd (dC (.int 8)) (dC (.int 1))))))) (sRet (dC .non)) sNil) (sSeq (sIf (dNotT (dTru (dCB fAll (dCons (dLc (iAny (dSl (dVar 1) (dPart (dC (.int 1))) dNoPart)) (gNm 2) dYes (dCall 1 (r 0) (dCons (dVar 2) dNil)) [2]) dNil)))) (sRet (dC .non)) sNil) (sRet (dCB fTuple (dCons (dSl (dVar 1) (dPart (dC (.int 1))) dNoPart) dNil)))))))
/-- parent_of(path); slots ['path'] -/
noncomputable def f15_0 (r : Rt) : SDen := (sRet (dSl (dVar 0) dNoPart (dPart (dNeg (dC (.int 1))))))
noncomputable def f149_0_c0 (r : Rt) : Den AV := (dLc (iAny (dVar 0)) (gNm 1) dYes (dOrV (dChain pLe pLe (dC (.str (S [32]))) (dVar 1) (dC (.str (S [36])))) (dChain pLe pLe (dC (.str (S [38]))) (dVar 1) (dC (.str (S [126]))))) [1])
/-- is_text(text); slots ['text', 'sign'] -/
noncomputable def f149_0 (r : Rt) : SDen := (sRet (dAndV (dBin pLe (dCB fLen (dCons (dVar 0) dNil)) (dC (.int 200))) (dCB fAll (dCons (f149_0_c0 r) dNil))))
/-- entry_text(entry); slots ['entry', 'path'] -/
noncomputable def f136_0 (r : Rt) : SDen := (sSeq (sAsg (dCall 1 (r 8) (dCons (dBin pIx (dVar 0) (dC (.int 0))) dNil)) (gNm 1)) (sSeq (sIf (dTB (dBin pEq (dBin pIx (dVar 0) (dC (.int 1))) (dC (.str (S [103, 111, 110, 101]))))) (sRet (dBin pAdd (dC (.str (S [103, 111, 110, 101, 32]))) (dVar 1))) sNil) (sSeq (sIf (dTB (dBin pEq (dBin pIx (dVar 0) (dC (.int 1))) (dC (.str (S [102, 105, 108, 101]))))) (sRet (dBin pAdd (dBin pAdd (dBin pAdd (dC (.str (S [102, 105, 108, 101, 32]))) (dVar 1)) (dC (.str (S [32])))) (dCB fStr (dCons (dBin pIx (dVar 0) (dC (.int 2))) dNil)))) sNil) (sSeq (sIf (dTB (dBin pIs (dBin pIx (dVar 0) (dC (.int 2))) (dC .non))) (sRet (dBin pAdd (dBin pAdd (dC (.str (S [102, 111, 108, 100, 101, 114, 32]))) (dVar 1)) (dC (.str (S [32, 97, 108, 111, 110, 101]))))) sNil) (sRet (dBin pAdd (dBin pAdd (dBin pAdd (dC (.str (S [102, 111, 108, 100, 101, 114, 32]))) (dVar 1)) (dC (.str (S [32, 111, 118, 101, 114, 32])))) (dCall 1 (r 8) (dCons (dBin pIx (dVar 0) (dC (.int 2))) dNil))))))))
/-- pair_text(pair); slots ['pair', 'origin', 'text', 'row'] -/
noncomputable def f137_0 (r : Rt) : SDen := (sSeq (sAsg (dVar 0) (gTp 2 (gsCons (gNm 1) (gsCons (gNm 2) gsNil)))) (sSeq (sAsg (dC (.str (S [100, 97, 116, 97]))) (gNm 3)) (sSeq (sIf (dTB (dBin pIsNot (dVar 1) (dC .non))) (sAug 3 pIAdd (dBin pAdd (dC (.str (S [32, 111, 102, 32]))) (dCall 1 (r 8) (dCons (dVar 1) dNil)))) sNil) (sSeq (sIf (dTB (dBin pIsNot (dVar 2) (dC .non))) (sAug 3 pIAdd (dBin pAdd (dC (.str (S [32, 61]))) (dVar 2))) sNil) (sRet (dVar 3))))))
noncomputable def f138_0_c0 (r : Rt) : Den AV := (dLc (iAny (dBin pIx (dVar 0) (dC (.int 0)))) (gNm 1) dYes (dCall 1 (r 136) (dCons (dVar 1) dNil)) [1])
noncomputable def f138_0_c1 (r : Rt) : Den AV := (dLc (iAny (dBin pIx (dVar 0) (dC (.int 1)))) (gNm 2) dYes (dCall 1 (r 137) (dCons (dVar 2) dNil)) [2])
/-- layer_text(layer); slots ['layer', 'entry', 'pair'] -/
noncomputable def f138_0 (r : Rt) : SDen := (sRet (dBM "str" mJoin (dC (.str (S [10]))) (dCons (dBin pAdd (f138_0_c0 r) (f138_0_c1 r)) dNil)))
noncomputable def f150_0_c0 (r : Rt) : Den AV := (dLc (iAny (dVar 0)) (gNm 1) dYes (dBin pIn (dVar 1) (dC (.str (S [48, 49, 50, 51, 52, 53, 54, 55, 56, 57])))) [1])
/-- file_number_in(word); slots ['word', 'sign'] -/
noncomputable def f150_0 (r : Rt) : SDen := (sSeq (sIf (dOrT (dTB (dBin pEq (dVar 0) (dC (.str (S []))))) (dOrT (dTB (dBin pGt (dCB fLen (dCons (dVar 0) dNil)) (dC (.int 3)))) (dAndT (dTB (dBin pEq (dBin pIx (dVar 0) (dC (.int 0))) (dC (.str (S [48]))))) (dTB (dBin pNe (dVar 0) (dC (.str (S [48])))))))) (sRet (dC .non)) sNil) (sSeq (sIf (dOrT (dNotT (dTru (dCB fAll (dCons (f150_0_c0 r) dNil)))) (dTB (dBin pGt (dCB fIntS (dCons (dVar 0) dNil)) (dC (.int 199))))) (sRet (dC .non)) sNil) (sRet (dCB fIntS (dCons (dVar 0) dNil)))))
/-- thing_path_in(word); slots ['word', 'path'] -/
noncomputable def f151_0 (r : Rt) : SDen := (sSeq (sAsg (dCall 1 (r 9) (dCons (dVar 0) dNil)) (gNm 1)) (sSeq (sIf (dTB (dBin pEq (dVar 1) (dTup dNil))) (sRet (dC .non)) sNil) (sRet (dVar 1))))
/-- gone_path_in(word); slots ['word', 'at', 'parent'] -/
noncomputable def f152_0 (r : Rt) : SDen := (sSeq (sAsg (dBM "str" (mStr1 fun a b => .int (Txt.rfind a b)) (dVar 0) (dCons (dC (.str (S [47]))) dNil)) (gNm 1)) (sSeq (sAsg (dTup dNil) (gNm 2)) (sSeq (sIf (dTB (dBin pGt (dVar 1) (dC (.int 0)))) (sAsg (dCall 1 (r 151) (dCons (dSl (dVar 0) dNoPart (dPart (dVar 1))) dNil)) (gNm 2)) sNil) (sSeq (sIf (dOrT (dTB (dBin pLt (dVar 1) (dC (.int 0)))) (dOrT (dTB (dBin pIs (dVar 2) (dC .non))) (dNotT (dTru (dCall 1 (r 0) (dCons (dSl (dVar 0) (dPart (dBin pAdd (dVar 1) (dC (.int 1)))) dNoPart) dNil)))))) (sRet (dC .non)) sNil) (sRet (dBin pAdd (dVar 2) (dTup (dCons (dSl (dVar 0) (dPart (dBin pAdd (dVar 1) (dC (.int 1)))) dNoPart) dNil))))))))
/-- folder_entry_in(path, words); slots ['path', 'words'] -/
noncomputable def f153_0 (r : Rt) : SDen := (sSeq (sIf (dTB (dBin pEq (dVar 1) (dLst (dCons (dC (.str (S [97, 108, 111, 110, 101]))) dNil)))) (sRet (dTup (dCons (dVar 0) (dCons (dC (.str (S [102, 111, 108, 100, 101, 114]))) (dCons (dC .non) dNil))))) sNil) (sSeq (sIf (dOrT (dTB (dBin pNe (dCB fLen (dCons (dVar 1) dNil)) (dC (.int 2)))) (dOrT (dTB (dBin pNe (dBin pIx (dVar 1) (dC (.int 0))) (dC (.str (S [111, 118, 101, 114]))))) (dTB (dBin pIs (dCall 1 (r 9) (dCons (dBin pIx (dVar 1) (dC (.int 1))) dNil)) (dC .non))))) (sRet (dC .non)) sNil) (sRet (dTup (dCons (dVar 0) (dCons (dC (.str (S [102, 111, 108, 100, 101, 114]))) (dCons (dCall 1 (r 9) (dCons (dBin pIx (dVar 1) (dC (.int 1))) dNil)) dNil)))))))
/-- entry_in(row); slots ['row', 'words', 'path'] -/
noncomputable def f154_0 (r : Rt) : SDen := (sSeq (sAsg (dBM "str" mSplit (dVar 0) (dCons (dC (.str (S [32]))) dNil)) (gNm 1)) (sSeq (sIf (dAndT (dTB (dBin pEq (dBin pIx (dVar 1) (dC (.int 0))) (dC (.str (S [103, 111, 110, 101]))))) (dAndT (dTB (dBin pEq (dCB fLen (dCons (dVar 1) dNil)) (dC (.int 2)))) (dTB (dBin pIsNot (dCall 1 (r 152) (dCons (dBin pIx (dVar 1) (dC (.int 1))) dNil)) (dC .non))))) (sRet (dTup (dCons (dCall 1 (r 152) (dCons (dBin pIx (dVar 1) (dC (.int 1))) dNil)) (dCons (dC (.str (S [103, 111, 110, 101]))) dNil)))) sNil) (sSeq (sIf (dOrT (dTB (dBin pLt (dCB fLen (dCons (dVar 1) dNil)) (dC (.int 2)))) (dTB (dBin pIs (dCall 1 (r 151) (dCons (dBin pIx (dVar 1) (dC (.int 1))) dNil)) (dC .non)))) (sRet (dC .non)) sNil) (sSeq (sAsg (dCall 1 (r 151) (dCons (dBin pIx (dVar 1) (dC (.int 1))) dNil)) (gNm 2)) (sSeq (sIf (dAndT (dTB (dBin pEq (dBin pIx (dVar 1) (dC (.int 0))) (dC (.str (S [102, 105, 108, 101]))))) (dAndT (dTB (dBin pEq (dCB fLen (dCons (dVar 1) dNil)) (dC (.int 3)))) (dTB (dBin pIsNot (dCall 1 (r 150) (dCons (dBin pIx (dVar 1) (dC (.int 2))) dNil)) (dC .non))))) (sRet (dTup (dCons (dVar 2) (dCons (dC (.str (S [102, 105, 108, 101]))) (dCons (dCall 1 (r 150) (dCons (dBin pIx (dVar 1) (dC (.int 2))) dNil)) dNil))))) sNil) (sSeq (sIf (dTB (dBin pEq (dBin pIx (dVar 1) (dC (.int 0))) (dC (.str (S [102, 111, 108, 100, 101, 114]))))) (sRet (dCall 2 (r 153) (dCons (dVar 2) (dCons (dSl (dVar 1) (dPart (dC (.int 2))) dNoPart) dNil)))) sNil) (sRet (dC .non))))))))
/-- pair_in(row); slots ['row', 'at', 'head', 'text'] -/
noncomputable def f155_0 (r : Rt) : SDen := (sSeq (sAsg (dBM "str" (mStr1 fun a b => .int (Txt.find a b)) (dVar 0) (dCons (dC (.str (S [32, 61]))) dNil)) (gNm 1)) (sSeq (sAsg (dVar 0) (gNm 2)) (sSeq (sAsg (dC .non) (gNm 3)) (sSeq (sIf (dTB (dBin pGe (dVar 1) (dC (.int 0)))) (sSeq (sAsg (dSl (dVar 0) dNoPart (dPart (dVar 1))) (gNm 2)) (sSeq (sAsg (dSl (dVar 0) (dPart (dBin pAdd (dVar 1) (dC (.int 2)))) dNoPart) (gNm 3)) (sIf (dNotT (dTru (dCall 1 (r 149) (dCons (dVar 3) dNil)))) (sRet (dC .non)) sNil))) sNil) (sSeq (sIf (dAndT (dTB (dBin pEq (dVar 2) (dC (.str (S [100, 97, 116, 97]))))) (dTB (dBin pIsNot (dVar 3) (dC .non)))) (sRet (dTup (dCons (dC .non) (dCons (dVar 3) dNil)))) sNil) (sSeq (sIf (dOrT (dNotT (dTru (dBM "str" (mStr1 fun a b => .bl (Txt.startswith a b)) (dVar 2) (dCons (dC (.str (S [100, 97, 116, 97, 32, 111, 102, 32]))) dNil)))) (dTB (dBin pIs (dCall 1 (r 151) (dCons (dSl (dVar 2) (dPart (dCB fLen (dCons (dC (.str (S [100, 97, 116, 97, 32, 111, 102, 32]))) dNil))) dNoPart) dNil)) (dC .non)))) (sRet (dC .non)) sNil) (sRet (dTup (dCons (dCall 1 (r 151) (dCons (dSl (dVar 2) (dPart (dCB fLen (dCons (dC (.str (S [100, 97, 116, 97, 32, 111, 102, 32]))) dNil))) dNoPart) dNil)) (dCons (dVar 3) dNil))))))))))
/-- LayerRows.__init__(self); slots ['self'] -/
noncomputable def f156_0 (r : Rt) : SDen := (sSeq (sFldS 10 (dLst dNil) (dVar 0)) (sSeq (sFldS 11 (dLst dNil) (dVar 0)) (sSeq (sFldS 12 (dDictT (dTup dNil) (dC (.bl true))) (dVar 0)) (sFldS 13 dNewD (dVar 0)))))
/-- LayerRows.take_entry(self, entry); slots ['self', 'entry'] -/
noncomputable def f157_0 (r : Rt) : SDen := (sSeq (sIf (dOrT (dTB (dBin pGt (dCB fLen (dCons (dFld 11 (dVar 0)) dNil)) (dC (.int 0)))) (dOrT (dTB (dBin pEq (dCB fLen (dCons (dFld 10 (dVar 0)) dNil)) (dC (.int 400)))) (dTB (dBin pNotIn (dCall 1 (r 15) (dCons (dBin pIx (dVar 1) (dC (.int 0))) dNil)) (dFld 12 (dVar 0)))))) (sRet (dC (.bl false))) sNil) (sSeq (sIf (dAndT (dTB (dBin pGt (dCB fLen (dCons (dFld 10 (dVar 0)) dNil)) (dC (.int 0)))) (dNotT (dTB (dBin pLtD (dBin pIx (dBin pIx (dFld 10 (dVar 0)) (dNeg (dC (.int 1)))) (dC (.int 0))) (dBin pIx (dVar 1) (dC (.int 0))))))) (sRet (dC (.bl false))) sNil) (sSeq (sIf (dTB (dBin pEq (dBin pIx (dVar 1) (dC (.int 1))) (dC (.str (S [102, 111, 108, 100, 101, 114]))))) (sPut pPut (dC (.bl true)) (dFld 12 (dVar 0)) (dBin pIx (dVar 1) (dC (.int 0)))) sNil) (sSeq (sExpr (dBM "list" mAppend (dFld 10 (dVar 0)) (dCons (dVar 1) dNil))) (sRet (dC (.bl true)))))))
/-- LayerRows.take_pair(self, pair); slots ['self', 'pair'] -/
noncomputable def f158_0 (r : Rt) : SDen := (sSeq (sIf (dOrT (dTB (dBin pEq (dCB fLen (dCons (dFld 11 (dVar 0)) dNil)) (dC (.int 200)))) (dAndT (dTB (dBin pIsNot (dBin pIx (dVar 1) (dC (.int 0))) (dC .non))) (dTB (dBin pInN (dBin pIx (dVar 1) (dC (.int 0))) (dFld 13 (dVar 0)))))) (sRet (dC (.bl false))) sNil) (sSeq (sPut pPutN (dC (.bl true)) (dFld 13 (dVar 0)) (dBin pIx (dVar 1) (dC (.int 0)))) (sSeq (sExpr (dBM "list" mAppend (dFld 11 (dVar 0)) (dCons (dVar 1) dNil))) (sRet (dC (.bl true))))))
/-- LayerRows.take_row(self, row); slots ['self', 'row', 'entry', 'pair'] -/
noncomputable def f159_0 (r : Rt) : SDen := (sSeq (sAsg (dCall 1 (r 154) (dCons (dVar 1) dNil)) (gNm 2)) (sSeq (sIf (dTB (dBin pIsNot (dVar 2) (dC .non))) (sRet (dMeth (mt40 r) 1 (dVar 0) (dCons (dVar 2) dNil))) sNil) (sSeq (sAsg (dCall 1 (r 155) (dCons (dVar 1) dNil)) (gNm 3)) (sRet (dAndV (dBin pIsNot (dVar 3) (dC .non)) (dMeth (mt41 r) 1 (dVar 0) (dCons (dVar 3) dNil)))))))
noncomputable def f160_0_c0 (r : Rt) : Den AV := (dLc (iAny (dFld 10 (dVar 0))) (gNm 2) (dTB (dBin pEq (dBin pIx (dVar 2) (dC (.int 1))) (dC (.str (S [102, 105, 108, 101]))))) (dBin pIx (dVar 2) (dC (.int 2))) [2])
noncomputable def f160_0_c1 (r : Rt) : Den AV := (dLc (iAny (dVar 1)) (gNm 3) dYes (dBin pGe (dVar 3) (dCB fLen (dCons (dFld 11 (dVar 0)) dNil))) [3])
noncomputable def f160_0_c2 (r : Rt) : Den AV := (dLc (iEnu (dCons (dFld 11 (dVar 0)) dNil)) (gTp 2 (gsCons (gNm 3) (gsCons (gNm 4) gsNil))) dYes (dOrV (dBin pIsNot (dBin pIx (dVar 4) (dC (.int 0))) (dC .non)) (dBin pIn (dVar 3) (dVar 1))) [3, 4])
/-- LayerRows.is_whole(self); slots ['self', 'named', 'entry', 'number', 'pair'] -/
noncomputable def f160_0 (r : Rt) : SDen := (sSeq (sAsg (f160_0_c0 r) (gNm 1)) (sSeq (sIf (dTru (dCB fAny (dCons (f160_0_c1 r) dNil))) (sRet (dC (.bl false))) sNil) (sRet (dCB fAll (dCons (f160_0_c2 r) dNil)))))
noncomputable def f161_0_l0 (r : Rt) : SDen := (sIf (dNotT (dTru (dMeth (mt42 r) 1 (dVar 1) (dCons (dVar 4) dNil)))) (sRaiseN (r 2014) (dCons (dC (.str (S [97, 32, 114, 111, 119, 32, 116, 104, 97, 116, 32, 99, 97, 110, 39, 116, 32, 115, 116, 97, 110, 100, 32, 104, 101, 114, 101]))) (dCons (dVar 3) dNil))) sNil)
/-- read_layer(text); slots ['text', 'reader', 'rows', 'number', 'row'] -/
noncomputable def f161_0 (r : Rt) : SDen := (sSeq (sAsg (dCall 0 (r 1017) dNil) (gNm 1)) (sSeq (sAsg (dLst dNil) (gNm 2)) (sSeq (sIf (dTB (dBin pNe (dVar 0) (dC (.str (S []))))) (sAsg (dBM "str" mSplit (dVar 0) (dCons (dC (.str (S [10]))) dNil)) (gNm 2)) sNil) (sSeq (sFor (iEnu (dCons (dVar 2) dNil)) (gTp 2 (gsCons (gNm 3) (gsCons (gNm 4) gsNil))) (f161_0_l0 r)) (sSeq (sIf (dNotT (dTru (dMeth (mt43 r) 0 (dVar 1) dNil))) (sRaiseN (r 2014) (dCons (dC (.str (S [97, 32, 102, 105, 108, 101, 32, 116, 104, 97, 116, 32, 105, 115, 110, 39, 116, 32, 116, 111, 108, 100, 44, 32, 111, 114, 32, 105, 115, 32, 110, 111, 119, 104, 101, 114, 101]))) (dCons (dCB fLen (dCons (dVar 2) dNil)) dNil))) sNil) (sRet (dTup (dCons (dCB fTuple (dCons (dFld 10 (dVar 1)) dNil)) (dCons (dCB fTuple (dCons (dFld 11 (dVar 1)) dNil)) dNil)))))))))
/-- _law_box(_law_script, _law_k); slots ['_law_script', '_law_k', '_law_cell', '_law_digits'] -/
noncomputable def f94_1 (r : Rt) : SDen := (sSeq (sAsg (dC (.int 0)) (gNm 2)) (sSeq (sIf (dTB (dBin pLt (dVar 1) (dCB fLen (dCons (dVar 0) dNil)))) (sAsg (dBin pIx (dVar 0) (dVar 1)) (gNm 2)) sNil) (sSeq (sAsg (dC (.int 0)) (gNm 3)) (sSeq (sIf (dTB (dBin pGe (dCB fAbs (dCons (dVar 2) dNil)) (dBin pPow (dC (.int 10)) (dC (.int 18))))) (sAsg (dCB fAbs (dCons (dVar 2) dNil)) (gNm 3)) sNil) (sRet (dLst (dCons (dVar 3) (dCons (dBin pMod (dBin pMul (dBin pAdd (dBin pAdd (dBin pMod (dVar 2) (dC (.int 2147483647))) (dBin pMul (dC (.int 7919)) (dVar 1))) (dC (.int 11))) (dC (.int 48271))) (dC (.int 2147483629))) (dCons (dC (.int 0)) dNil)))))))))
/-- _law_take(_law_box_here, _law_many); slots ['_law_box_here', '_law_many', '_law_found', '_law_once'] -/
noncomputable def f95_0 (r : Rt) : SDen := (sSeq (sIf (dTB (dBin pGt (dBin pIx (dVar 0) (dC (.int 0))) (dC (.int 0)))) (sSeq (sAsg (dBin pMod (dBin pIx (dVar 0) (dC (.int 0))) (dVar 1)) (gNm 2)) (sSeq (sPut pPut (dBin pFdiv (dBin pIx (dVar 0) (dC (.int 0))) (dVar 1)) (dVar 0) (dC (.int 0))) (sRet (dVar 2)))) sNil) (sSeq (sPut pPut (dBin pAdd (dBin pIx (dVar 0) (dC (.int 2))) (dC (.int 1))) (dVar 0) (dC (.int 2))) (sSeq (sAsg (dBin pMod (dBin pMul (dBin pAdd (dBin pIx (dVar 0) (dC (.int 1))) (dBin pMul (dC (.int 39373)) (dBin pIx (dVar 0) (dC (.int 2))))) (dBin pAdd (dC (.int 48271)) (dBin pIx (dVar 0) (dC (.int 2))))) (dC (.int 2147483647))) (gNm 3)) (sSeq (sPut pPut (dBin pMod (dBin pAdd (dBin pMul (dVar 3) (dBin pAdd (dBin pMod (dVar 3) (dC (.int 40009))) (dC (.int 7)))) (dBin pIx (dVar 0) (dC (.int 2)))) (dC (.int 2147483629))) (dVar 0) (dC (.int 1))) (sRet (dBin pMod (dBin pFdiv (dBin pMod (dBin pMul (dBin pIx (dVar 0) (dC (.int 1))) (dBin pAdd (dBin pMod (dBin pIx (dVar 0) (dC (.int 1))) (dC (.int 1009))) (dC (.int 3)))) (dC (.int 998244353))) (dC (.int 7))) (dVar 1)))))))
noncomputable def f5_2_c0 (r : Rt) : Den AV := (dLc (iR1 (dCons (dBin pAdd (dC (.int 1)) (dCall 2 (r 95) (dCons (dVar 0) (dCons (dC (.int 8)) dNil)))) dNil)) (gNm 3) dYes (dBin pIx (dVar 2) (dCall 2 (r 95) (dCons (dVar 0) (dCons (dC (.int 26)) dNil)))) [3])
/-- _law_word(_law_box_here); slots ['_law_box_here', '_law_some', '_law_letters', '_law_k'] -/
noncomputable def f5_2 (r : Rt) : SDen := (sSeq (sAsg (dLst (dCons (dC (.str (S [97]))) (dCons (dC (.str (S [97, 97]))) (dCons (dC (.str (S [97, 98]))) (dCons (dC (.str (S [98]))) (dCons (dC (.str (S [98, 97]))) (dCons (dC (.str (S [98, 111, 120]))) (dCons (dC (.str (S [99]))) (dCons (dC (.str (S [102, 111, 108, 100, 101, 114]))) (dCons (dC (.str (S [109]))) (dCons (dC (.str (S [109, 109]))) (dCons (dC (.str (S [113, 117, 97, 114, 116, 122, 101, 115]))) (dCons (dC (.str (S [122]))) (dCons (dC (.str (S [122, 101, 98, 114, 97]))) (dCons (dC (.str (S [110]))) dNil))))))))))))))) (gNm 1)) (sSeq (sIf (dTB (dBin pEq (dCall 2 (r 95) (dCons (dVar 0) (dCons (dC (.int 4)) dNil))) (dC (.int 0)))) (sSeq (sAsg (dC (.str (S [97, 98, 99, 100, 101, 102, 103, 104, 105, 106, 107, 108, 109, 110, 111, 112, 113, 114, 115, 116, 117, 118, 119, 120, 121, 122]))) (gNm 2)) (sRet (dBM "str" mJoin (dC (.str (S []))) (dCons (f5_2_c0 r) dNil)))) sNil) (sRet (dBin pIx (dVar 1) (dCall 2 (r 95) (dCons (dVar 0) (dCons (dC (.int 14)) dNil)))))))
noncomputable def f96_1_c0 (r : Rt) : Den AV := (dLc (iR1 (dCons (dVar 2) dNil)) (gNm 5) dYes (dBin pIx (dVar 1) (dBin pMod (dBin pAdd (dVar 3) (dBin pMul (dVar 5) (dVar 4))) (dC (.int 94)))) [5])
/-- _law_text(_law_box_here); slots ['_law_box_here', '_law_signs', '_law_many', '_law_first', '_law_step', '_law_k'] -/
noncomputable def f96_1 (r : Rt) : SDen := (sSeq (sAsg (dC (.str (S [32, 33, 34, 35, 36, 38, 39, 40, 41, 42, 43, 44, 45, 46, 47, 48, 49, 50, 51, 52, 53, 54, 55, 56, 57, 58, 59, 60, 61, 62, 63, 64, 65, 66, 67, 68, 69, 70, 71, 72, 73, 74, 75, 76, 77, 78, 79, 80, 81, 82, 83, 84, 85, 86, 87, 88, 89, 90, 91, 92, 93, 94, 95, 96, 97, 98, 99, 100, 101, 102, 103, 104, 105, 106, 107, 108, 109, 110, 111, 112, 113, 114, 115, 116, 117, 118, 119, 120, 121, 122, 123, 124, 125, 126]))) (gNm 1)) (sSeq (sAsg (dCall 2 (r 95) (dCons (dVar 0) (dCons (dC (.int 8)) dNil))) (gNm 2)) (sSeq (sIf (dTB (dBin pEq (dCall 2 (r 95) (dCons (dVar 0) (dCons (dC (.int 8)) dNil))) (dC (.int 0)))) (sAsg (dBin pIx (dLst (dCons (dCall 2 (r 95) (dCons (dVar 0) (dCons (dC (.int 201)) dNil))) (dCons (dC (.int 200)) (dCons (dC (.int 199)) dNil)))) (dCall 2 (r 95) (dCons (dVar 0) (dCons (dC (.int 3)) dNil)))) (gNm 2)) sNil) (sSeq (sAsg (dCall 2 (r 95) (dCons (dVar 0) (dCons (dC (.int 94)) dNil))) (gNm 3)) (sSeq (sAsg (dCall 2 (r 95) (dCons (dVar 0) (dCons (dC (.int 94)) dNil))) (gNm 4)) (sRet (dBM "str" mJoin (dC (.str (S []))) (dCons (f96_1_c0 r) dNil))))))))
noncomputable def f139_0_c0 (r : Rt) : Den AV := (dLc (iR1 (dCons (dVar 1) dNil)) (gNm 2) dYes (dCall 1 (r 5) (dCons (dVar 0) dNil)) [2])
/-- _law_any_path(_law_box_here); slots ['_law_box_here', '_law_many', '_law_k'] -/
noncomputable def f139_0 (r : Rt) : SDen := (sSeq (sAsg (dBin pAdd (dBin pAdd (dC (.int 1)) (dCall 2 (r 95) (dCons (dVar 0) (dCons (dC (.int 3)) dNil)))) (dBin pMul (dC (.int 5)) (dCB fInt (dCons (dBin pEq (dCall 2 (r 95) (dCons (dVar 0) (dCons (dC (.int 16)) dNil))) (dC (.int 0))) dNil)))) (gNm 1)) (sRet (dCB fTuple (dCons (f139_0_c0 r) dNil))))
noncomputable def f140_0_c0 (r : Rt) : Den AV := (dLc (iAny (dVar 1)) (gNm 3) dYes (dBin pIx (dVar 3) (dC (.int 0))) [3])
/-- _law_new_file(_law_box_here, _law_pairs); slots ['_law_box_here', '_law_pairs', '_law_origin', '_law_pair', '_law_text_here'] -/
noncomputable def f140_0 (r : Rt) : SDen := (sSeq (sAsg (dC .non) (gNm 2)) (sSeq (sIf (dTB (dBin pGt (dCall 2 (r 95) (dCons (dVar 0) (dCons (dC (.int 3)) dNil))) (dC (.int 0)))) (sAsg (dCall 1 (r 139) (dCons (dVar 0) dNil)) (gNm 2)) sNil) (sSeq (sIf (dAndT (dTB (dBin pIsNot (dVar 2) (dC .non))) (dTB (dBin pIn (dVar 2) (f140_0_c0 r)))) (sRet (dNeg (dC (.int 1)))) sNil) (sSeq (sAsg (dCall 1 (r 96) (dCons (dVar 0) dNil)) (gNm 4)) (sSeq (sIf (dAndT (dTB (dBin pIsNot (dVar 2) (dC .non))) (dTB (dBin pEq (dCall 2 (r 95) (dCons (dVar 0) (dCons (dC (.int 3)) dNil))) (dC (.int 0))))) (sAsg (dC .non) (gNm 4)) sNil) (sSeq (sExpr (dBM "list" mAppend (dVar 1) (dCons (dTup (dCons (dVar 2) (dCons (dVar 4) dNil))) dNil))) (sRet (dBin pSub (dCB fLen (dCons (dVar 1) dNil)) (dC (.int 1))))))))))
noncomputable def f141_0_c0 (r : Rt) : Den AV := (dLc (iAny (dVar 2)) (gNm 8) dYes (dBin pIx (dVar 8) (dC (.int 0))) [8])
/-- _law_grow(_law_box_here, _law_rows, _law_pairs, _law_folders); slots ['_law_box_here', '_law_rows', '_law_pairs', '_law_folders', '_law_path', '_law_way', '_law_number', '_law_origin', '_law_pair'] -/
noncomputable def f141_0 (r : Rt) : SDen := (sSeq (sAsg (dBin pAdd (dBin pIx (dVar 3) (dCall 2 (r 95) (dCons (dVar 0) (dCons (dCB fLen (dCons (dVar 3) dNil)) dNil)))) (dTup (dCons (dCall 1 (r 5) (dCons (dVar 0) dNil)) dNil))) (gNm 4)) (sSeq (sAsg (dCall 2 (r 95) (dCons (dVar 0) (dCons (dC (.int 8)) dNil))) (gNm 5)) (sSeq (sIf (dOrT (dTB (dBin pIn (dVar 4) (dVar 1))) (dOrT (dTB (dBin pGt (dCB fLen (dCons (dVar 4) dNil)) (dC (.int 8)))) (dTB (dBin pGt (dCB fLen (dCons (dVar 2) dNil)) (dC (.int 190)))))) sRetN sNil) (sSeq (sIf (dTB (dBin pLt (dVar 5) (dC (.int 3)))) (sSeq (sPut pPut (dTup (dCons (dVar 4) (dCons (dC (.str (S [102, 111, 108, 100, 101, 114]))) (dCons (dBin pIx (dLst (dCons (dC .non) (dCons (dVar 4) (dCons (dTup dNil) (dCons (dCall 1 (r 139) (dCons (dVar 0) dNil)) dNil))))) (dCall 2 (r 95) (dCons (dVar 0) (dCons (dC (.int 4)) dNil)))) dNil)))) (dVar 1) (dVar 4)) (sExpr (dBM "list" mAppend (dVar 3) (dCons (dVar 4) dNil)))) (sIf (dTB (dBin pLt (dVar 5) (dC (.int 6)))) (sSeq (sAsg (dNeg (dC (.int 1))) (gNm 6)) (sSeq (sIf (dAndT (dTB (dBin pGt (dCB fLen (dCons (dVar 2) dNil)) (dC (.int 0)))) (dTB (dBin pEq (dCall 2 (r 95) (dCons (dVar 0) (dCons (dC (.int 3)) dNil))) (dC (.int 0))))) (sAsg (dCall 2 (r 95) (dCons (dVar 0) (dCons (dCB fLen (dCons (dVar 2) dNil)) dNil))) (gNm 6)) sNil) (sSeq (sIf (dTB (dBin pLt (dVar 6) (dC (.int 0)))) (sAsg (dCall 2 (r 140) (dCons (dVar 0) (dCons (dVar 2) dNil))) (gNm 6)) sNil) (sIf (dTB (dBin pGe (dVar 6) (dC (.int 0)))) (sPut pPut (dTup (dCons (dVar 4) (dCons (dC (.str (S [102, 105, 108, 101]))) (dCons (dVar 6) dNil)))) (dVar 1) (dVar 4)) sNil)))) (sPut pPut (dTup (dCons (dVar 4) (dCons (dC (.str (S [103, 111, 110, 101]))) dNil))) (dVar 1) (dVar 4)))) (sIf (dTB (dBin pEq (dVar 5) (dC (.int 7)))) (sSeq (sAsg (dCall 1 (r 139) (dCons (dVar 0) dNil)) (gNm 7)) (sIf (dTB (dBin pNotIn (dVar 7) (f141_0_c0 r))) (sExpr (dBM "list" mAppend (dVar 2) (dCons (dTup (dCons (dVar 7) (dCons (dBin pIx (dLst (dCons (dC .non) (dCons (dCall 1 (r 96) (dCons (dVar 0) dNil)) dNil))) (dCall 2 (r 95) (dCons (dVar 0) (dCons (dC (.int 2)) dNil)))) dNil))) dNil))) sNil)) sNil)))))
noncomputable def f142_0_l0 (r : Rt) : SDen := (sSeq (sAsg (dBin pAdd (dVar 2) (dTup (dCons (dVar 1) dNil))) (gNm 2)) (sIf (dTB (dBin pNe (dBin pIx (dBM "dict" mSetd (dVar 0) (dCons (dVar 2) (dCons (dTup (dCons (dVar 2) (dCons (dC (.str (S [102, 111, 108, 100, 101, 114]))) (dCons (dC .non) dNil)))) dNil))) (dC (.int 1))) (dC (.str (S [102, 111, 108, 100, 101, 114]))))) sRetN sNil))
/-- _law_deep(_law_rows, _law_name); slots ['_law_rows', '_law_name', '_law_path', '_law_k'] -/
noncomputable def f142_0 (r : Rt) : SDen := (sSeq (sAsg (dTup dNil) (gNm 2)) (sSeq (sFor (iR1 (dCons (dC (.int 8)) dNil)) (gNm 3) (f142_0_l0 r)) (sPut pPut (dTup (dCons (dBin pAdd (dVar 2) (dTup (dCons (dVar 1) dNil))) (dCons (dC (.str (S [103, 111, 110, 101]))) dNil))) (dVar 0) (dBin pAdd (dVar 2) (dTup (dCons (dVar 1) dNil))))))
noncomputable def f143_0_l0 (r : Rt) : SDen := (sExpr (dCall 4 (r 141) (dCons (dVar 5) (dCons (dVar 1) (dCons (dVar 2) (dCons (dVar 3) dNil))))))
noncomputable def f143_0_l1 (r : Rt) : SDen := (sSeq (sAsg (dCall 2 (r 94) (dCons (dVar 0) (dCons (dVar 4) dNil))) (gNm 5)) (sFor (iR1 (dCons (dBin pAdd (dC (.int 1)) (dCall 2 (r 95) (dCons (dVar 5) (dCons (dC (.int 3)) dNil)))) dNil)) (gNm 6) (f143_0_l0 r)))
noncomputable def f143_0_l2 (r : Rt) : SDen := (sSeq (sAsg (dBin pIx (dVar 1) (dVar 9)) (gNm 10)) (sSeq (sIf (dTB (dBin pEq (dBin pIx (dVar 10) (dC (.int 1))) (dC (.str (S [102, 105, 108, 101]))))) (sAsg (dTup (dCons (dVar 9) (dCons (dC (.str (S [102, 105, 108, 101]))) (dCons (dBin pMod (dBin pAdd (dBin pIx (dVar 10) (dC (.int 2))) (dVar 6)) (dCB fLen (dCons (dVar 2) dNil))) dNil)))) (gNm 10)) sNil) (sExpr (dBM "list" mAppend (dVar 8) (dCons (dVar 10) dNil)))))
/-- _law_layer(_law_script); slots ['_law_script', '_law_rows', '_law_pairs', '_law_folders', '_law_k', '_law_box_here', '_law_turn', '_law_last', '_law_entries', '_law_path', '_law_row'] -/
noncomputable def f143_0 (r : Rt) : SDen := (sSeq (sAsg dNewD (gNm 1)) (sSeq (sAsg (dLst dNil) (gNm 2)) (sSeq (sAsg (dLst (dCons (dTup dNil) dNil)) (gNm 3)) (sSeq (sFor (iR1 (dCons (dCB fLen (dCons (dVar 0) dNil)) dNil)) (gNm 4) (f143_0_l1 r)) (sSeq (sAsg (dCall 2 (r 94) (dCons (dVar 0) (dCons (dBin pFdiv (dCB fLen (dCons (dVar 0) dNil)) (dC (.int 2))) dNil))) (gNm 7)) (sSeq (sIf (dTB (dBin pEq (dCall 2 (r 95) (dCons (dVar 7) (dCons (dC (.int 4)) dNil))) (dC (.int 0)))) (sExpr (dCall 2 (r 142) (dCons (dVar 1) (dCons (dCall 1 (r 5) (dCons (dVar 7) dNil)) dNil)))) sNil) (sSeq (sAsg (dCall 2 (r 95) (dCons (dVar 7) (dCons (dBin pAdd (dC (.int 1)) (dCB fLen (dCons (dVar 2) dNil))) dNil))) (gNm 6)) (sSeq (sAsg (dLst dNil) (gNm 8)) (sSeq (sFor (iAny (dCB fSorted (dCons (dVar 1) dNil))) (gNm 9) (f143_0_l2 r)) (sRet (dTup (dCons (dCB fTuple (dCons (dVar 8) dNil)) (dCons (dCB fTuple (dCons (dBin pAdd (dSl (dVar 2) (dPart (dBin pSub (dCB fLen (dCons (dVar 2) dNil)) (dVar 6))) dNoPart) (dSl (dVar 2) dNoPart (dPart (dBin pSub (dCB fLen (dCons (dVar 2) dNil)) (dVar 6))))) dNil)) dNil)))))))))))))
noncomputable def f116_1_c0 (r : Rt) : Den AV := (dLc (iZp (dCons (dVar 0) (dCons (dVar 1) dNil))) (gTp 2 (gsCons (gNm 2) (gsCons (gNm 3) gsNil))) dYes (dCall 2 (r 116) (dCons (dVar 2) (dCons (dVar 3) dNil))) [2, 3])
/-- _law_alike(_law_found, _law_due); slots ['_law_found', '_law_due', '_law_one', '_law_other'] -/
noncomputable def f116_1 (r : Rt) : SDen := (sSeq (sIf (dTru (dCB (fIsi tSub tSubB tBsub) (dCons (dVar 1) (dCons (dC (.ty "tuple")) dNil)))) (sSeq (sIf (dOrT (dNotT (dTru (dCB (fIsi tSub tSubB tBsub) (dCons (dVar 0) (dCons (dC (.ty "tuple")) dNil))))) (dTB (dBin pNe (dCB fLen (dCons (dVar 0) dNil)) (dCB fLen (dCons (dVar 1) dNil))))) (sRet (dC (.bl false))) sNil) (sRet (dCB fAll (dCons (f116_1_c0 r) dNil)))) sNil) (sSeq (sIf (dTB (dBin pIs (dVar 1) (dC .non))) (sRet (dBin pIs (dVar 0) (dC .non))) sNil) (sSeq (sIf (dTru (dCB (fIsi tSub tSubB tBsub) (dCons (dVar 1) (dCons (dC (.ty "str")) dNil)))) (sRet (dAndV (dCB (fIsi tSub tSubB tBsub) (dCons (dVar 0) (dCons (dC (.ty "str")) dNil))) (dBin pEq (dVar 0) (dVar 1)))) sNil) (sRet (dAndV (dCB (fIsi tSub tSubB tBsub) (dCons (dVar 0) (dCons (dC (.ty "int")) dNil))) (dAndV (dNotV (dCB (fIsi tSub tSubB tBsub) (dCons (dVar 0) (dCons (dC (.ty "bool")) dNil)))) (dBin pEq (dVar 0) (dVar 1))))))))
noncomputable def f7_21_l0 (r : Rt) : SDen := (sSeq (sAsg (dCall 1 (r 138) (dCons (dVar 4) dNil)) (gNm 5)) (sSeq (sIf (dOrT (dNotT (dTru (dCB (fIsi tSub tSubB tBsub) (dCons (dVar 5) (dCons (dC (.ty "str")) dNil))))) (dOrT (dNotT (dTru (dCall 2 (r 116) (dCons (dCall 1 (r 161) (dCons (dVar 5) dNil)) (dCons (dVar 4) dNil))))) (dTB (dBin pNe (dCall 1 (r 138) (dCons (dCall 1 (r 161) (dCons (dVar 5) dNil)) dNil)) (dVar 5))))) (sRet (dC (.bl false))) sNil) (sExpr (dBM "list" mAppend (dVar 3) (dCons (dVar 5) dNil)))))
noncomputable def f7_21_c1 (r : Rt) : Den AV := (dLc (iAny (dBin pIx (dVar 1) (dC (.int 0)))) (gNm 7) (dTB (dBin pNe (dBin pIx (dVar 7) (dC (.int 1))) (dC (.str (S [102, 105, 108, 101]))))) (dVar 7) [7])
noncomputable def f7_21_l2 (r : Rt) : SDen := (sSeq (sAsg (dBM "str" mJoin (dC (.str (S [10]))) (dCons (dSl (dBM "str" mSplit (dVar 5) (dCons (dC (.str (S [10]))) dNil)) dNoPart (dPart (dVar 8))) dNil)) (gNm 9)) (sIf (dNotT (dTru (dCall 2 (r 116) (dCons (dCall 1 (r 161) (dCons (dVar 9) dNil)) (dCons (dTup (dCons (dSl (dVar 6) dNoPart (dPart (dVar 8))) (dCons (dTup dNil) dNil))) dNil))))) (sRet (dC (.bl false))) sNil))
/-- law(_law_script); slots ['_law_script', '_law_layer_here', '_law_other', '_law_texts', '_law_one', '_law_text_here', '_law_marks', '_law_entry', '_law_size', '_law_part'] -/
noncomputable def f7_21 (r : Rt) : SDen := (sSeq (sAsg (dCall 1 (r 143) (dCons (dVar 0) dNil)) (gNm 1)) (sSeq (sAsg (dCall 1 (r 143) (dCons (dListRev (dVar 0)) dNil)) (gNm 2)) (sSeq (sAsg (dLst dNil) (gNm 3)) (sSeq (sFor (iAny (dLst (dCons (dVar 1) (dCons (dVar 2) dNil)))) (gNm 4) (f7_21_l0 r)) (sSeq (sIf (dTB (dBin pNe (dBin pEq (dBin pIx (dVar 3) (dC (.int 0))) (dBin pIx (dVar 3) (dC (.int 1)))) (dBin pEq (dVar 1) (dVar 2)))) (sRet (dC (.bl false))) sNil) (sSeq (sAsg (dCB fTuple (dCons (f7_21_c1 r) dNil)) (gNm 6)) (sSeq (sAsg (dCall 1 (r 138) (dCons (dTup (dCons (dVar 6) (dCons (dTup dNil) dNil))) dNil)) (gNm 5)) (sSeq (sFor (iAny (dLst (dCons (dC (.int 0)) (dCons (dBin pFdiv (dCB fLen (dCons (dVar 6) dNil)) (dC (.int 2))) (dCons (dCB fLen (dCons (dVar 6) dNil)) dNil))))) (gNm 8) (f7_21_l2 r)) (sRet (dC (.bl true)))))))))))
noncomputable def tbl (i : Nat) (r : Rt) : List AV → M AV := match i with
  | 129 => runBody (f129_0 r) 3
  | 0 => runBody (f0_0 r) 2
  | 8 => runBody (f8_0 r) 1
  | 9 => runBody (f9_0 r) 3
  | 15 => runBody (f15_0 r) 1
  | 149 => runBody (f149_0 r) 2
  | 136 => runBody (f136_0 r) 2
  | 137 => runBody (f137_0 r) 4
  | 138 => runBody (f138_0 r) 3
  | 150 => runBody (f150_0 r) 2
  | 151 => runBody (f151_0 r) 2
  | 152 => runBody (f152_0 r) 3
  | 153 => runBody (f153_0 r) 2
  | 154 => runBody (f154_0 r) 3
  | 155 => runBody (f155_0 r) 4
  | 156 => runBody (f156_0 r) 1
  | 157 => runBody (f157_0 r) 2
  | 158 => runBody (f158_0 r) 2
  | 159 => runBody (f159_0 r) 4
  | 160 => runBody (f160_0 r) 5
  | 161 => runBody (f161_0 r) 5
  | 94 => runBody (f94_1 r) 4
  | 95 => runBody (f95_0 r) 4
  | 5 => runBody (f5_2 r) 4
  | 96 => runBody (f96_1 r) 6
  | 139 => runBody (f139_0 r) 3
  | 140 => runBody (f140_0 r) 5
  | 141 => runBody (f141_0 r) 9
  | 142 => runBody (f142_0 r) 4
  | 143 => runBody (f143_0 r) 11
  | 116 => runBody (f116_1 r) 4
  | 7 => runBody (f7_21 r) 10
  | 1017 => makeA 17 (r 156)
  | 2014 => fun as A => r 3014 as A
  | 3014 => raiseA 14
  | _ => fun _ _ => .bad
noncomputable def R : Nat → Rt
  | 0 => fun _ _ _ => .bad
  | k + 1 => fun i => tbl i (R k)
theorem R129 (k : Nat) : R (k + 1) 129 = runBody (f129_0 (R k)) 3 := (rfl)
theorem R0 (k : Nat) : R (k + 1) 0 = runBody (f0_0 (R k)) 2 := (rfl)
theorem R8 (k : Nat) : R (k + 1) 8 = runBody (f8_0 (R k)) 1 := (rfl)
theorem R9 (k : Nat) : R (k + 1) 9 = runBody (f9_0 (R k)) 3 := (rfl)
theorem R15 (k : Nat) : R (k + 1) 15 = runBody (f15_0 (R k)) 1 := (rfl)
theorem R149 (k : Nat) : R (k + 1) 149 = runBody (f149_0 (R k)) 2 := (rfl)
theorem R136 (k : Nat) : R (k + 1) 136 = runBody (f136_0 (R k)) 2 := (rfl)
theorem R137 (k : Nat) : R (k + 1) 137 = runBody (f137_0 (R k)) 4 := (rfl)
theorem R138 (k : Nat) : R (k + 1) 138 = runBody (f138_0 (R k)) 3 := (rfl)
theorem R150 (k : Nat) : R (k + 1) 150 = runBody (f150_0 (R k)) 2 := (rfl)
theorem R151 (k : Nat) : R (k + 1) 151 = runBody (f151_0 (R k)) 2 := (rfl)
theorem R152 (k : Nat) : R (k + 1) 152 = runBody (f152_0 (R k)) 3 := (rfl)
theorem R153 (k : Nat) : R (k + 1) 153 = runBody (f153_0 (R k)) 2 := (rfl)
theorem R154 (k : Nat) : R (k + 1) 154 = runBody (f154_0 (R k)) 3 := (rfl)
theorem R155 (k : Nat) : R (k + 1) 155 = runBody (f155_0 (R k)) 4 := (rfl)
theorem R156 (k : Nat) : R (k + 1) 156 = runBody (f156_0 (R k)) 1 := (rfl)
theorem R157 (k : Nat) : R (k + 1) 157 = runBody (f157_0 (R k)) 2 := (rfl)
theorem R158 (k : Nat) : R (k + 1) 158 = runBody (f158_0 (R k)) 2 := (rfl)
theorem R159 (k : Nat) : R (k + 1) 159 = runBody (f159_0 (R k)) 4 := (rfl)
theorem R160 (k : Nat) : R (k + 1) 160 = runBody (f160_0 (R k)) 5 := (rfl)
theorem R161 (k : Nat) : R (k + 1) 161 = runBody (f161_0 (R k)) 5 := (rfl)
theorem R94 (k : Nat) : R (k + 1) 94 = runBody (f94_1 (R k)) 4 := (rfl)
theorem R95 (k : Nat) : R (k + 1) 95 = runBody (f95_0 (R k)) 4 := (rfl)
theorem R5 (k : Nat) : R (k + 1) 5 = runBody (f5_2 (R k)) 4 := (rfl)
theorem R96 (k : Nat) : R (k + 1) 96 = runBody (f96_1 (R k)) 6 := (rfl)
theorem R139 (k : Nat) : R (k + 1) 139 = runBody (f139_0 (R k)) 3 := (rfl)
theorem R140 (k : Nat) : R (k + 1) 140 = runBody (f140_0 (R k)) 5 := (rfl)
theorem R141 (k : Nat) : R (k + 1) 141 = runBody (f141_0 (R k)) 9 := (rfl)
theorem R142 (k : Nat) : R (k + 1) 142 = runBody (f142_0 (R k)) 4 := (rfl)
theorem R143 (k : Nat) : R (k + 1) 143 = runBody (f143_0 (R k)) 11 := (rfl)
theorem R116 (k : Nat) : R (k + 1) 116 = runBody (f116_1 (R k)) 4 := (rfl)
theorem R7 (k : Nat) : R (k + 1) 7 = runBody (f7_21 (R k)) 10 := (rfl)
theorem R2014 (k : Nat) (as : List AV) (A : AHp) : R (k + 2) 2014 as A = raiseA 14 as A := (rfl)
theorem R1017 (k : Nat) : R (k + 1) 1017 = makeA 17 (R k 156) := (rfl)
@[simp] theorem mt40_17 (r : Rt) : getM (mt40 r) 17 = some (r 157) := (rfl)
@[simp] theorem mt41_17 (r : Rt) : getM (mt41 r) 17 = some (r 158) := (rfl)
@[simp] theorem mt42_17 (r : Rt) : getM (mt42 r) 17 = some (r 159) := (rfl)
@[simp] theorem mt43_17 (r : Rt) : getM (mt43 r) 17 = some (r 160) := (rfl)
end Law
end
section
namespace Law
open PySem PySem.Spec L2 Ev
set_option autoImplicit false
def top (i : Nat) : Stmt := PySem.Challenge.pw_overfold_k25_whole_written_and_read.main.body.getD i (.Pass ⟨0, 0, 0, 0⟩)
abbrev s0 : Stmt := inClass (top 2) 0
abbrev s1 : Stmt := top 6
abbrev s2 : Stmt := top 7
abbrev s3 : Stmt := top 8
abbrev s4 : Stmt := top 9
abbrev s5 : Stmt := top 16
abbrev s6 : Stmt := top 17
abbrev s7 : Stmt := top 18
abbrev s8 : Stmt := top 19
abbrev s9 : Stmt := top 20
abbrev s10 : Stmt := top 21
abbrev s11 : Stmt := top 22
abbrev s12 : Stmt := top 23
abbrev s13 : Stmt := top 24
abbrev s14 : Stmt := top 25
abbrev s15 : Stmt := inClass (top 26) 0
abbrev s16 : Stmt := inClass (top 26) 1
abbrev s17 : Stmt := inClass (top 26) 2
abbrev s18 : Stmt := inClass (top 26) 3
abbrev s19 : Stmt := inClass (top 26) 4
abbrev s20 : Stmt := top 27
abbrev s21 : Stmt := top 29
abbrev s22 : Stmt := top 30
abbrev s23 : Stmt := top 31
abbrev s24 : Stmt := top 32
abbrev s25 : Stmt := top 33
abbrev s26 : Stmt := top 34
abbrev s27 : Stmt := top 35
abbrev s28 : Stmt := top 36
abbrev s29 : Stmt := top 37
abbrev s30 : Stmt := top 38
abbrev s31 : Stmt := top 39
def lay : Lay where
  nms := [("", 3), ("is_name", 1), ("path_text", 1), ("path_in", 1), ("parent_of", 1), ("is_text", 1), ("entry_text", 1), ("pair_text", 1), ("layer_text", 1), ("file_number_in", 1), ("thing_path_in", 1), ("gone_path_in", 1), ("folder_entry_in", 2), ("entry_in", 1), ("pair_in", 1), ("", 1), ("", 2), ("", 2), ("", 2), ("", 1), ("read_layer", 1), ("_law_box", 2), ("_law_take", 2), ("_law_word", 1), ("_law_text", 1), ("_law_any_path", 1), ("_law_new_file", 2), ("_law_grow", 4), ("_law_deep", 2), ("_law_layer", 1), ("_law_alike", 2), ("law", 1)]
  fids := [129, 0, 8, 9, 15, 149, 136, 137, 138, 150, 151, 152, 153, 154, 155, 156, 157, 158, 159, 160, 161, 94, 95, 5, 96, 139, 140, 141, 142, 143, 116, 7]
  frees := ["abs", "all", "any", "bool", "enumerate", "int", "isinstance", "len", "list", "range", "reversed", "sorted", "str", "tuple", "zip"]
  iL := [("MOST_LETTERS", 8), ("MOST_NAMES", 8), ("MOST_SIGNS", 200), ("MOST_NUMBER", 199), ("MOST_ENTRIES", 400), ("MOST_FILES", 200)]
  sL := [("FIGURES", "0123456789")]
  cL := [("ShelfError", 0), ("BadLayer", 14), ("LayerRows", 17)]
  mkL := [(17, 0)]
  xL := []
  hot := []
  xiL := [14]
def tpL : List (String × List Str) := []
def nm : Nm where
  cn := ["ShelfError", "NoThing", "WrongKind", "Within", "Taken", "NotEmpty", "TooLong", "TooDeep", "NoHandle", "NoRoom", "Folder", "File", "Grove", "Shelf", "BadLayer", "NoFit", "BadRow", "LayerRows"]
  fn := ["rows", "beneath", "words", "origin", "root", "files", "hands", "opened", "numbered", "grove", "entries", "pairs", "open_folders", "origins"]
  mn := ["things", "node_at", "folder_for", "look_place", "set_node", "new_file", "file_at", "put_into", "lose_node", "let_go", "one_thing", "look_goal", "file_by", "names_of", "before_deed", "make_folder", "behind_deed", "make_file", "write", "put", "cut", "link", "drop", "move", "swap", "hold", "read_by", "write_by", "put_by", "cut_by", "count_by", "name_by", "close", "walked", "handles", "kind_of", "text_of", "names_in", "count_of", "same_file", "take_entry", "take_pair", "take_row", "is_whole"]
  en := [(14, "row")]
  cs := [17]
  xs := [0, 14]
  fs := [10, 11, 12, 13]
  sub := subL
  subB := subBL
  bsub := bsubL
  exm := exmL
  me := [(17, "take_entry", "LayerRows", "take_entry"), (17, "take_pair", "LayerRows", "take_pair"), (17, "take_row", "LayerRows", "take_row"), (17, "is_whole", "LayerRows", "is_whole")]
  tp := tpL
  ei := [(14, "BadLayer", "row", "ShelfError")]
theorem nmw : NmW nm := ⟨by decide +kernel, by decide +kernel⟩
def fadK (K : PySem.W.Frag) (i : Nat) : Addr := He.fAd K (([(("BadLayer" : Str), some ("__init__" : Str)), (("is_name" : Str), none), (("path_text" : Str), none), (("path_in" : Str), none), (("parent_of" : Str), none), (("is_text" : Str), none), (("entry_text" : Str), none), (("pair_text" : Str), none), (("layer_text" : Str), none), (("file_number_in" : Str), none), (("thing_path_in" : Str), none), (("gone_path_in" : Str), none), (("folder_entry_in" : Str), none), (("entry_in" : Str), none), (("pair_in" : Str), none), (("LayerRows" : Str), some ("__init__" : Str)), (("LayerRows" : Str), some ("take_entry" : Str)), (("LayerRows" : Str), some ("take_pair" : Str)), (("LayerRows" : Str), some ("take_row" : Str)), (("LayerRows" : Str), some ("is_whole" : Str)), (("read_layer" : Str), none), (("_law_box" : Str), none), (("_law_take" : Str), none), (("_law_word" : Str), none), (("_law_text" : Str), none), (("_law_any_path" : Str), none), (("_law_new_file" : Str), none), (("_law_grow" : Str), none), (("_law_deep" : Str), none), (("_law_layer" : Str), none), (("_law_alike" : Str), none), (("law" : Str), none)] : List (Str × Option Str)).getD i ("", none))
section
variable {P : Program} {w : World} {K : PySem.W.Frag} {mg : Str → Option Value} {base : Heap} {k : Nat} {r : Rt} {h0 : NmOk nm K}
theorem mo40 (T : TM (mkEn nm nmw K h0 P w) P w K mg base k r lay (fadK K) tpL) : MthOk (mkEn nm nmw K h0 P w) P w K mg base k ("take_entry" : Str) 1 (mt40 r) := (mth_cons (mkEn_me (c := 17) (m := "take_entry") (C := "LayerRows") (m' := "take_entry") (List.mem_of_getElem? (i := 0) rfl)) (T.fn 16 (by decide)) mth_nil)
theorem mo41 (T : TM (mkEn nm nmw K h0 P w) P w K mg base k r lay (fadK K) tpL) : MthOk (mkEn nm nmw K h0 P w) P w K mg base k ("take_pair" : Str) 1 (mt41 r) := (mth_cons (mkEn_me (c := 17) (m := "take_pair") (C := "LayerRows") (m' := "take_pair") (List.mem_of_getElem? (i := 1) rfl)) (T.fn 17 (by decide)) mth_nil)
theorem mo42 (T : TM (mkEn nm nmw K h0 P w) P w K mg base k r lay (fadK K) tpL) : MthOk (mkEn nm nmw K h0 P w) P w K mg base k ("take_row" : Str) 1 (mt42 r) := (mth_cons (mkEn_me (c := 17) (m := "take_row") (C := "LayerRows") (m' := "take_row") (List.mem_of_getElem? (i := 2) rfl)) (T.fn 18 (by decide)) mth_nil)
theorem mo43 (T : TM (mkEn nm nmw K h0 P w) P w K mg base k r lay (fadK K) tpL) : MthOk (mkEn nm nmw K h0 P w) P w K mg base k ("is_whole" : Str) 0 (mt43 r) := (mth_cons (mkEn_me (c := 17) (m := "is_whole") (C := "LayerRows") (m' := "is_whole") (List.mem_of_getElem? (i := 3) rfl)) (T.fn 19 (by decide)) mth_nil)
theorem sc0 : FnScope ["self", "words", "row"] ["self", "words", "row"] (defScope s0) := ⟨rfl, rfl, rfl, by decide +kernel, rfl, by decide +kernel, by decide +kernel⟩
theorem w0 (T : TM (mkEn nm nmw K h0 P w) P w K mg base k r lay (fadK K) tpL) (cdv : Value) (A : Around) (outer : List Env) (s : Shared) (H : Hp) (Ex : XK) {f : Addr} (c : Ctx (mkEn nm nmw K h0 P w) k (cxD P w K mg base ["self", "words", "row"] "BadLayer.__init__" (defScope s0) f cdv A outer s H Ex) (WD Ex)) :
    SSs (mkEn nm nmw K h0 P w) (cxD P w K mg base ["self", "words", "row"] "BadLayer.__init__" (defScope s0) f cdv A outer s H Ex) (WD Ex) (defBody s0) (f129_0 r) := by
  have S := sc0
  unfold f129_0
  exact (sss_bad _)
theorem xw0 {C fI B f : Addr} (hm : mg ("ShelfError" : Str) = some (.ref B)) (q : XiF K C fI ("row" : Str) B) (cdv : Value) (A : Around) (outer : List Env) (s : Shared) (H : Hp) (Ex : XK) :
    PSs (cxD P w K mg base ["self", "words", "row"] "BadLayer.__init__" (defScope s0) f cdv A outer s H Ex) (defBody s0) (tSeq (tDrop (tVeI K (tCons (tVar 0) (tCons (tVar 1) tNil)))) (tOst K ("row" : Str) (tVar 0) (tVar 2))) := by
  have S := sc0
  exact pss_cons (ps_expr (pe_seinit rfl hm rfl q.sp q.tB q.rB q.fB (pa_cons (pe_var (i := 0) rfl (vis_of rfl)) (pa_cons (pe_var (i := 1) rfl (vis_of rfl)) pa_nil)))) (pss_one (ps_ost (pe_var (i := 0) rfl (vis_of rfl)) (pe_var (i := 2) rfl (vis_of rfl))))
theorem sc1 : FnScope ["word", "sign"] ["word"] (defScope s1) := ⟨rfl, rfl, rfl, by decide +kernel, rfl, by decide +kernel, by decide +kernel⟩
theorem w1 (T : TM (mkEn nm nmw K h0 P w) P w K mg base k r lay (fadK K) tpL) (cdv : Value) (A : Around) (outer : List Env) (s : Shared) (H : Hp) (Ex : XK) {f : Addr} (c : Ctx (mkEn nm nmw K h0 P w) k (cxD P w K mg base ["word", "sign"] "is_name" (defScope s1) f cdv A outer s H Ex) (WD Ex)) :
    SSs (mkEn nm nmw K h0 P w) (cxD P w K mg base ["word", "sign"] "is_name" (defScope s1) f cdv A outer s H Ex) (WD Ex) (defBody s1) (f0_0 r) := by
  have S := sc1
  unfold f0_0
  exact (sss_one (ss_ret (se_and c (se_chain os_le os_le se_int (se_callB (cs_len c) rfl (T.fr "len" rfl) PySem.boot_len (sa_cons (se_var (i := 0) rfl (vis_of rfl) rfl rfl) sa_nil rfl) (by decide) rfl rfl rfl) (se_gint rfl (T.ci "MOST_LETTERS" 8 rfl) rfl) (by with_unfolding_all rfl)) (se_one (se_callB (cs_all c) rfl (T.fr "all" rfl) (by decide +kernel) (sa_cons (se_lc (own := [("sign", 1)]) c S.nd (si_any c.hK (se_var (i := 0) rfl (vis_of rfl) rfl rfl)) (blkOk_by (by kernel_rfl)) (fun s H C cl fp c => (sgw_name (i := 1) (by decide) S.nd rfl (loc_of rfl) (.inr rfl))) (fun s H C cl fp c => sts_nil) (fun s H C cl fp c => (se_chain os_le os_le (se_strL (by kernel_rfl)) (se_var (i := 1) rfl (vis_of rfl) rfl rfl) (se_strL (by kernel_rfl)) (by with_unfolding_all rfl))) (fun _ => rfl)) sa_nil rfl) (by decide) rfl rfl rfl)))))
theorem sc2 : FnScope ["path"] ["path"] (defScope s2) := ⟨rfl, rfl, rfl, by decide +kernel, rfl, by decide +kernel, by decide +kernel⟩
theorem w2 (T : TM (mkEn nm nmw K h0 P w) P w K mg base k r lay (fadK K) tpL) (cdv : Value) (A : Around) (outer : List Env) (s : Shared) (H : Hp) (Ex : XK) {f : Addr} (c : Ctx (mkEn nm nmw K h0 P w) k (cxD P w K mg base ["path"] "path_text" (defScope s2) f cdv A outer s H Ex) (WD Ex)) :
    SSs (mkEn nm nmw K h0 P w) (cxD P w K mg base ["path"] "path_text" (defScope s2) f cdv A outer s H Ex) (WD Ex) (defBody s2) (f8_0 r) := by
  have S := sc2
  unfold f8_0
  exact (sss_one (ss_ret (se_bin (os_add c.hK) (se_strL (by kernel_rfl)) (se_bm PySem.F.plainAttrs_str PySem.F.slot_str_join PySem.F.type_str_join (ms_join c.hK) (se_strL (by kernel_rfl)) (sa_cons (se_var (i := 0) rfl (vis_of rfl) rfl rfl) sa_nil rfl) rfl rfl rfl rfl rfl))))
theorem sc3 : FnScope ["text", "words", "word"] ["text"] (defScope s3) := ⟨rfl, rfl, rfl, by decide +kernel, rfl, by decide +kernel, by decide +kernel⟩
theorem w3 (T : TM (mkEn nm nmw K h0 P w) P w K mg base k r lay (fadK K) tpL) (cdv : Value) (A : Around) (outer : List Env) (s : Shared) (H : Hp) (Ex : XK) {f : Addr} (c : Ctx (mkEn nm nmw K h0 P w) k (cxD P w K mg base ["text", "words", "word"] "path_in" (defScope s3) f cdv A outer s H Ex) (WD Ex)) :
    SSs (mkEn nm nmw K h0 P w) (cxD P w K mg base ["text", "words", "word"] "path_in" (defScope s3) f cdv A outer s H Ex) (WD Ex) (defBody s3) (f9_0 r) := by
  have S := sc3
  unfold f9_0
  exact (sss_cons (ss_if (st_cmp (os_eq c.hK c.b.hu) (se_var (i := 0) rfl (vis_of rfl) rfl rfl) (se_strL (by kernel_rfl)) (nobehind _ (by decide) (by decide))) (sss_one (ss_ret (se_tup sa_nil))) sss_nil) (sss_cons (ss_set (i := 1) S.nd rfl (loc_of rfl) (se_bm PySem.F.plainAttrs_str PySem.F.slot_str_split PySem.F.type_str_split ms_split (se_var (i := 0) rfl (vis_of rfl) rfl rfl) (sa_cons (se_strL (by kernel_rfl)) sa_nil rfl) rfl rfl rfl rfl rfl) rfl (.inl rfl)) (sss_cons (ss_if (st_w (sw_or (st_cmp (os_ne c.hK c.b.hu) (se_ix (ix_all c.b) (se_var (i := 1) rfl (vis_of rfl) rfl rfl) se_int (fun _ _ => rfl)) (se_strL (by kernel_rfl)) (nobehind _ (by decide) (by decide))) (sw_or1 (st_not (st_chain os_le os_le se_int (se_callB (cs_len c) rfl (T.fr "len" rfl) PySem.boot_len (sa_cons (se_var (i := 1) rfl (vis_of rfl) rfl rfl) sa_nil rfl) (by decide) rfl rfl rfl) (se_bin (os_add c.hK) (se_gint rfl (T.ci "MOST_NAMES" 8 rfl) rfl) se_int) (by with_unfolding_all rfl)))))) (sss_one (ss_ret se_non)) sss_nil) (sss_cons (ss_if (st_not (st_tru c (se_callB (cs_all c) rfl (T.fr "all" rfl) (by decide +kernel) (sa_cons (se_lc (own := [("word", 2)]) c S.nd (si_any c.hK (se_sl c.hK (se_var (i := 1) rfl (vis_of rfl) rfl rfl) (so_some se_int) so_none)) (blkOk_by (by kernel_rfl)) (fun s H C cl fp c => (sgw_name (i := 2) (by decide) S.nd rfl (loc_of rfl) (.inr rfl))) (fun s H C cl fp c => sts_nil) (fun s H C cl fp c => (se_call c (T.fn 1 (by decide)) rfl (T.gf 1 "is_name" rfl (by decide)) (sa_cons (se_var (i := 2) rfl (vis_of rfl) rfl rfl) sa_nil rfl) rfl rfl rfl)) (fun _ => rfl)) sa_nil rfl) (by decide) rfl rfl rfl) (fun _ => rfl))) (sss_one (ss_ret se_non)) sss_nil) (sss_one (ss_ret (se_callT cs_tuple rfl (T.fr "tuple" rfl) (by decide +kernel) (sa_cons (se_sl c.hK (se_var (i := 1) rfl (vis_of rfl) rfl rfl) (so_some se_int) so_none) sa_nil rfl) (by decide) rfl rfl rfl)))))))
theorem sc4 : FnScope ["path"] ["path"] (defScope s4) := ⟨rfl, rfl, rfl, by decide +kernel, rfl, by decide +kernel, by decide +kernel⟩
theorem w4 (T : TM (mkEn nm nmw K h0 P w) P w K mg base k r lay (fadK K) tpL) (cdv : Value) (A : Around) (outer : List Env) (s : Shared) (H : Hp) (Ex : XK) {f : Addr} (c : Ctx (mkEn nm nmw K h0 P w) k (cxD P w K mg base ["path"] "parent_of" (defScope s4) f cdv A outer s H Ex) (WD Ex)) :
    SSs (mkEn nm nmw K h0 P w) (cxD P w K mg base ["path"] "parent_of" (defScope s4) f cdv A outer s H Ex) (WD Ex) (defBody s4) (f15_0 r) := by
  have S := sc4
  unfold f15_0
  exact (sss_one (ss_ret (se_sl c.hK (se_var (i := 0) rfl (vis_of rfl) rfl rfl) so_none (so_some (se_neg se_int)))))
theorem sc5 : FnScope ["text", "sign"] ["text"] (defScope s5) := ⟨rfl, rfl, rfl, by decide +kernel, rfl, by decide +kernel, by decide +kernel⟩
theorem w5 (T : TM (mkEn nm nmw K h0 P w) P w K mg base k r lay (fadK K) tpL) (cdv : Value) (A : Around) (outer : List Env) (s : Shared) (H : Hp) (Ex : XK) {f : Addr} (c : Ctx (mkEn nm nmw K h0 P w) k (cxD P w K mg base ["text", "sign"] "is_text" (defScope s5) f cdv A outer s H Ex) (WD Ex)) :
    SSs (mkEn nm nmw K h0 P w) (cxD P w K mg base ["text", "sign"] "is_text" (defScope s5) f cdv A outer s H Ex) (WD Ex) (defBody s5) (f149_0 r) := by
  have S := sc5
  unfold f149_0 f149_0_c0
  exact (sss_one (ss_ret (se_and c (se_cmp os_le (se_callB (cs_len c) rfl (T.fr "len" rfl) PySem.boot_len (sa_cons (se_var (i := 0) rfl (vis_of rfl) rfl rfl) sa_nil rfl) (by decide) rfl rfl rfl) (se_gint rfl (T.ci "MOST_SIGNS" 200 rfl) rfl) (nobehind _ (by decide) (by decide))) (se_one (se_callB (cs_all c) rfl (T.fr "all" rfl) (by decide +kernel) (sa_cons (se_lc (own := [("sign", 1)]) c S.nd (si_any c.hK (se_var (i := 0) rfl (vis_of rfl) rfl rfl)) (blkOk_by (by kernel_rfl)) (fun s H C cl fp c => (sgw_name (i := 1) (by decide) S.nd rfl (loc_of rfl) (.inr rfl))) (fun s H C cl fp c => sts_nil) (fun s H C cl fp c => (se_or c (se_chain os_le os_le (se_strL (by kernel_rfl)) (se_var (i := 1) rfl (vis_of rfl) rfl rfl) (se_strL (by kernel_rfl)) (by with_unfolding_all rfl)) (se_one (se_chain os_le os_le (se_strL (by kernel_rfl)) (se_var (i := 1) rfl (vis_of rfl) rfl rfl) (se_strL (by kernel_rfl)) (by with_unfolding_all rfl))))) (fun _ => rfl)) sa_nil rfl) (by decide) rfl rfl rfl)))))
theorem sc6 : FnScope ["entry", "path"] ["entry"] (defScope s6) := ⟨rfl, rfl, rfl, by decide +kernel, rfl, by decide +kernel, by decide +kernel⟩
theorem w6 (T : TM (mkEn nm nmw K h0 P w) P w K mg base k r lay (fadK K) tpL) (cdv : Value) (A : Around) (outer : List Env) (s : Shared) (H : Hp) (Ex : XK) {f : Addr} (c : Ctx (mkEn nm nmw K h0 P w) k (cxD P w K mg base ["entry", "path"] "entry_text" (defScope s6) f cdv A outer s H Ex) (WD Ex)) :
    SSs (mkEn nm nmw K h0 P w) (cxD P w K mg base ["entry", "path"] "entry_text" (defScope s6) f cdv A outer s H Ex) (WD Ex) (defBody s6) (f136_0 r) := by
  have S := sc6
  unfold f136_0
  exact (sss_cons (ss_set (i := 1) S.nd rfl (loc_of rfl) (se_call c (T.fn 2 (by decide)) rfl (T.gf 2 "path_text" rfl (by decide)) (sa_cons (se_ix (ix_all c.b) (se_var (i := 0) rfl (vis_of rfl) rfl rfl) se_int (fun _ _ => rfl)) sa_nil rfl) rfl rfl rfl) rfl (.inl rfl)) (sss_cons (ss_if (st_cmp (os_eq c.hK c.b.hu) (se_ix (ix_all c.b) (se_var (i := 0) rfl (vis_of rfl) rfl rfl) se_int (fun _ _ => rfl)) (se_strL (by kernel_rfl)) (nobehind _ (by decide) (by decide))) (sss_one (ss_ret (se_bin (os_add c.hK) (se_strL (by kernel_rfl)) (se_var (i := 1) rfl (vis_of rfl) rfl rfl)))) sss_nil) (sss_cons (ss_if (st_cmp (os_eq c.hK c.b.hu) (se_ix (ix_all c.b) (se_var (i := 0) rfl (vis_of rfl) rfl rfl) se_int (fun _ _ => rfl)) (se_strL (by kernel_rfl)) (nobehind _ (by decide) (by decide))) (sss_one (ss_ret (se_bin (os_add c.hK) (se_bin (os_add c.hK) (se_bin (os_add c.hK) (se_strL (by kernel_rfl)) (se_var (i := 1) rfl (vis_of rfl) rfl rfl)) (se_strL (by kernel_rfl))) (se_callT cs_str rfl (T.fr "str" rfl) (by decide +kernel) (sa_cons (se_ix (ix_all c.b) (se_var (i := 0) rfl (vis_of rfl) rfl rfl) se_int (fun _ _ => rfl)) sa_nil rfl) (by decide) rfl rfl rfl)))) sss_nil) (sss_cons (ss_if (st_cmp os_is (se_ix (ix_all c.b) (se_var (i := 0) rfl (vis_of rfl) rfl rfl) se_int (fun _ _ => rfl)) se_non (nobehind _ (by decide) (by decide))) (sss_one (ss_ret (se_bin (os_add c.hK) (se_bin (os_add c.hK) (se_strL (by kernel_rfl)) (se_var (i := 1) rfl (vis_of rfl) rfl rfl)) (se_strL (by kernel_rfl))))) sss_nil) (sss_one (ss_ret (se_bin (os_add c.hK) (se_bin (os_add c.hK) (se_bin (os_add c.hK) (se_strL (by kernel_rfl)) (se_var (i := 1) rfl (vis_of rfl) rfl rfl)) (se_strL (by kernel_rfl))) (se_call c (T.fn 2 (by decide)) rfl (T.gf 2 "path_text" rfl (by decide)) (sa_cons (se_ix (ix_all c.b) (se_var (i := 0) rfl (vis_of rfl) rfl rfl) se_int (fun _ _ => rfl)) sa_nil rfl) rfl rfl rfl))))))))
theorem sc7 : FnScope ["pair", "origin", "text", "row"] ["pair"] (defScope s7) := ⟨rfl, rfl, rfl, by decide +kernel, rfl, by decide +kernel, by decide +kernel⟩
theorem w7 (T : TM (mkEn nm nmw K h0 P w) P w K mg base k r lay (fadK K) tpL) (cdv : Value) (A : Around) (outer : List Env) (s : Shared) (H : Hp) (Ex : XK) {f : Addr} (c : Ctx (mkEn nm nmw K h0 P w) k (cxD P w K mg base ["pair", "origin", "text", "row"] "pair_text" (defScope s7) f cdv A outer s H Ex) (WD Ex)) :
    SSs (mkEn nm nmw K h0 P w) (cxD P w K mg base ["pair", "origin", "text", "row"] "pair_text" (defScope s7) f cdv A outer s H Ex) (WD Ex) (defBody s7) (f137_0 r) := by
  have S := sc7
  unfold f137_0
  exact (sss_cons (ss_asg (se_var (i := 0) rfl (vis_of rfl) rfl rfl) (sg_tup c.calm (sgs_cons (sg_name (i := 1) S.nd rfl (loc_of rfl) (.inl rfl)) (sgs_cons (sg_name (i := 2) S.nd rfl (loc_of rfl) (.inl rfl)) sgs_nil rfl) rfl) rfl rfl) rfl rfl rfl) (sss_cons (ss_set (i := 3) S.nd rfl (loc_of rfl) (se_strL (by kernel_rfl)) rfl (.inl rfl)) (sss_cons (ss_if (st_cmp os_isnot (se_var (i := 1) rfl (vis_of rfl) rfl rfl) se_non (nobehind _ (by decide) (by decide))) (sss_one (ss_aug (i := 3) S.nd rfl (loc_of rfl) (se_bin (os_add c.hK) (se_strL (by kernel_rfl)) (se_call c (T.fn 2 (by decide)) rfl (T.gf 2 "path_text" rfl (by decide)) (sa_cons (se_var (i := 1) rfl (vis_of rfl) rfl rfl) sa_nil rfl) rfl rfl rfl)) is_add (.inl rfl))) sss_nil) (sss_cons (ss_if (st_cmp os_isnot (se_var (i := 2) rfl (vis_of rfl) rfl rfl) se_non (nobehind _ (by decide) (by decide))) (sss_one (ss_aug (i := 3) S.nd rfl (loc_of rfl) (se_bin (os_add c.hK) (se_strL (by kernel_rfl)) (se_var (i := 2) rfl (vis_of rfl) rfl rfl)) is_add (.inl rfl))) sss_nil) (sss_one (ss_ret (se_var (i := 3) rfl (vis_of rfl) rfl rfl)))))))
theorem sc8 : FnScope ["layer", "entry", "pair"] ["layer"] (defScope s8) := ⟨rfl, rfl, rfl, by decide +kernel, rfl, by decide +kernel, by decide +kernel⟩
theorem w8 (T : TM (mkEn nm nmw K h0 P w) P w K mg base k r lay (fadK K) tpL) (cdv : Value) (A : Around) (outer : List Env) (s : Shared) (H : Hp) (Ex : XK) {f : Addr} (c : Ctx (mkEn nm nmw K h0 P w) k (cxD P w K mg base ["layer", "entry", "pair"] "layer_text" (defScope s8) f cdv A outer s H Ex) (WD Ex)) :
    SSs (mkEn nm nmw K h0 P w) (cxD P w K mg base ["layer", "entry", "pair"] "layer_text" (defScope s8) f cdv A outer s H Ex) (WD Ex) (defBody s8) (f138_0 r) := by
  have S := sc8
  unfold f138_0 f138_0_c1 f138_0_c0
  exact (sss_one (ss_ret (se_bm PySem.F.plainAttrs_str PySem.F.slot_str_join PySem.F.type_str_join (ms_join c.hK) (se_strL (by kernel_rfl)) (sa_cons (se_bin (os_add c.hK) (se_lc (own := [("entry", 1)]) c S.nd (si_any c.hK (se_ix (ix_all c.b) (se_var (i := 0) rfl (vis_of rfl) rfl rfl) se_int (fun _ _ => rfl))) (blkOk_by (by kernel_rfl)) (fun s H C cl fp c => (sgw_name (i := 1) (by decide) S.nd rfl (loc_of rfl) (.inr rfl))) (fun s H C cl fp c => sts_nil) (fun s H C cl fp c => (se_call c (T.fn 6 (by decide)) rfl (T.gf 6 "entry_text" rfl (by decide)) (sa_cons (se_var (i := 1) rfl (vis_of rfl) rfl rfl) sa_nil rfl) rfl rfl rfl)) (fun _ => rfl)) (se_lc (own := [("pair", 2)]) c S.nd (si_any c.hK (se_ix (ix_all c.b) (se_var (i := 0) rfl (vis_of rfl) rfl rfl) se_int (fun _ _ => rfl))) (blkOk_by (by kernel_rfl)) (fun s H C cl fp c => (sgw_name (i := 2) (by decide) S.nd rfl (loc_of rfl) (.inr rfl))) (fun s H C cl fp c => sts_nil) (fun s H C cl fp c => (se_call c (T.fn 7 (by decide)) rfl (T.gf 7 "pair_text" rfl (by decide)) (sa_cons (se_var (i := 2) rfl (vis_of rfl) rfl rfl) sa_nil rfl) rfl rfl rfl)) (fun _ => rfl))) sa_nil rfl) rfl rfl rfl rfl rfl)))
theorem sc9 : FnScope ["word", "sign"] ["word"] (defScope s9) := ⟨rfl, rfl, rfl, by decide +kernel, rfl, by decide +kernel, by decide +kernel⟩
theorem w9 (T : TM (mkEn nm nmw K h0 P w) P w K mg base k r lay (fadK K) tpL) (cdv : Value) (A : Around) (outer : List Env) (s : Shared) (H : Hp) (Ex : XK) {f : Addr} (c : Ctx (mkEn nm nmw K h0 P w) k (cxD P w K mg base ["word", "sign"] "file_number_in" (defScope s9) f cdv A outer s H Ex) (WD Ex)) :
    SSs (mkEn nm nmw K h0 P w) (cxD P w K mg base ["word", "sign"] "file_number_in" (defScope s9) f cdv A outer s H Ex) (WD Ex) (defBody s9) (f150_0 r) := by
  have S := sc9
  unfold f150_0 f150_0_c0
  exact (sss_cons (ss_if (st_w (sw_or (st_cmp (os_eq c.hK c.b.hu) (se_var (i := 0) rfl (vis_of rfl) rfl rfl) (se_strL (by kernel_rfl)) (nobehind _ (by decide) (by decide))) (sw_or (st_cmp os_gt (se_callB (cs_len c) rfl (T.fr "len" rfl) PySem.boot_len (sa_cons (se_var (i := 0) rfl (vis_of rfl) rfl rfl) sa_nil rfl) (by decide) rfl rfl rfl) se_int (nobehind _ (by decide) (by decide))) (sw_or1 (st_w (sw_and (st_cmp (os_eq c.hK c.b.hu) (se_ix (ix_all c.b) (se_var (i := 0) rfl (vis_of rfl) rfl rfl) se_int (fun _ _ => rfl)) (se_strL (by kernel_rfl)) (nobehind _ (by decide) (by decide))) (sw_and1 (st_cmp (os_ne c.hK c.b.hu) (se_var (i := 0) rfl (vis_of rfl) rfl rfl) (se_strL (by kernel_rfl)) (nobehind _ (by decide) (by decide)))))))))) (sss_one (ss_ret se_non)) sss_nil) (sss_cons (ss_if (st_w (sw_or (st_not (st_tru c (se_callB (cs_all c) rfl (T.fr "all" rfl) (by decide +kernel) (sa_cons (se_lc (own := [("sign", 1)]) c S.nd (si_any c.hK (se_var (i := 0) rfl (vis_of rfl) rfl rfl)) (blkOk_by (by kernel_rfl)) (fun s H C cl fp c => (sgw_name (i := 1) (by decide) S.nd rfl (loc_of rfl) (.inr rfl))) (fun s H C cl fp c => sts_nil) (fun s H C cl fp c => (se_cmp (os_in c) (se_var (i := 1) rfl (vis_of rfl) rfl rfl) (se_gstrL rfl (T.cs "FIGURES" "0123456789" rfl) rfl (by kernel_rfl)) rfl)) (fun _ => rfl)) sa_nil rfl) (by decide) rfl rfl rfl) (fun _ => rfl))) (sw_or1 (st_cmp os_gt (se_callT cs_intS rfl (T.fr "int" rfl) (by decide +kernel) (sa_cons (se_var (i := 0) rfl (vis_of rfl) rfl rfl) sa_nil rfl) (by decide) rfl rfl rfl) (se_gint rfl (T.ci "MOST_NUMBER" 199 rfl) rfl) (nobehind _ (by decide) (by decide)))))) (sss_one (ss_ret se_non)) sss_nil) (sss_one (ss_ret (se_callT cs_intS rfl (T.fr "int" rfl) (by decide +kernel) (sa_cons (se_var (i := 0) rfl (vis_of rfl) rfl rfl) sa_nil rfl) (by decide) rfl rfl rfl)))))
theorem sc10 : FnScope ["word", "path"] ["word"] (defScope s10) := ⟨rfl, rfl, rfl, by decide +kernel, rfl, by decide +kernel, by decide +kernel⟩
theorem w10 (T : TM (mkEn nm nmw K h0 P w) P w K mg base k r lay (fadK K) tpL) (cdv : Value) (A : Around) (outer : List Env) (s : Shared) (H : Hp) (Ex : XK) {f : Addr} (c : Ctx (mkEn nm nmw K h0 P w) k (cxD P w K mg base ["word", "path"] "thing_path_in" (defScope s10) f cdv A outer s H Ex) (WD Ex)) :
    SSs (mkEn nm nmw K h0 P w) (cxD P w K mg base ["word", "path"] "thing_path_in" (defScope s10) f cdv A outer s H Ex) (WD Ex) (defBody s10) (f151_0 r) := by
  have S := sc10
  unfold f151_0
  exact (sss_cons (ss_set (i := 1) S.nd rfl (loc_of rfl) (se_call c (T.fn 3 (by decide)) rfl (T.gf 3 "path_in" rfl (by decide)) (sa_cons (se_var (i := 0) rfl (vis_of rfl) rfl rfl) sa_nil rfl) rfl rfl rfl) rfl (.inl rfl)) (sss_cons (ss_if (st_cmp (os_eq c.hK c.b.hu) (se_var (i := 1) rfl (vis_of rfl) rfl rfl) (se_tup sa_nil) (nobehind _ (by decide) (by decide))) (sss_one (ss_ret se_non)) sss_nil) (sss_one (ss_ret (se_var (i := 1) rfl (vis_of rfl) rfl rfl)))))
theorem sc11 : FnScope ["word", "at", "parent"] ["word"] (defScope s11) := ⟨rfl, rfl, rfl, by decide +kernel, rfl, by decide +kernel, by decide +kernel⟩
theorem w11 (T : TM (mkEn nm nmw K h0 P w) P w K mg base k r lay (fadK K) tpL) (cdv : Value) (A : Around) (outer : List Env) (s : Shared) (H : Hp) (Ex : XK) {f : Addr} (c : Ctx (mkEn nm nmw K h0 P w) k (cxD P w K mg base ["word", "at", "parent"] "gone_path_in" (defScope s11) f cdv A outer s H Ex) (WD Ex)) :
    SSs (mkEn nm nmw K h0 P w) (cxD P w K mg base ["word", "at", "parent"] "gone_path_in" (defScope s11) f cdv A outer s H Ex) (WD Ex) (defBody s11) (f152_0 r) := by
  have S := sc11
  unfold f152_0
  exact (sss_cons (ss_set (i := 1) S.nd rfl (loc_of rfl) (se_bm PySem.F.plainAttrs_str PySem.F.slot_str_rfind PySem.F.type_str_rfind ms_rfind (se_var (i := 0) rfl (vis_of rfl) rfl rfl) (sa_cons (se_strL (by kernel_rfl)) sa_nil rfl) rfl rfl rfl rfl rfl) rfl (.inl rfl)) (sss_cons (ss_set (i := 2) S.nd rfl (loc_of rfl) (se_tup sa_nil) rfl (.inl rfl)) (sss_cons (ss_if (st_cmp os_gt (se_var (i := 1) rfl (vis_of rfl) rfl rfl) se_int (nobehind _ (by decide) (by decide))) (sss_one (ss_set (i := 2) S.nd rfl (loc_of rfl) (se_call c (T.fn 10 (by decide)) rfl (T.gf 10 "thing_path_in" rfl (by decide)) (sa_cons (se_sl c.hK (se_var (i := 0) rfl (vis_of rfl) rfl rfl) so_none (so_some (se_var (i := 1) rfl (vis_of rfl) rfl rfl))) sa_nil rfl) rfl rfl rfl) rfl (.inl rfl))) sss_nil) (sss_cons (ss_if (st_w (sw_or (st_cmp os_lt (se_var (i := 1) rfl (vis_of rfl) rfl rfl) se_int (nobehind _ (by decide) (by decide))) (sw_or (st_cmp os_is (se_var (i := 2) rfl (vis_of rfl) rfl rfl) se_non (nobehind _ (by decide) (by decide))) (sw_or1 (st_not (st_tru c (se_call c (T.fn 1 (by decide)) rfl (T.gf 1 "is_name" rfl (by decide)) (sa_cons (se_sl c.hK (se_var (i := 0) rfl (vis_of rfl) rfl rfl) (so_some (se_bin (os_add c.hK) (se_var (i := 1) rfl (vis_of rfl) rfl rfl) se_int)) so_none) sa_nil rfl) rfl rfl rfl) (fun _ => rfl))))))) (sss_one (ss_ret se_non)) sss_nil) (sss_one (ss_ret (se_bin (os_add c.hK) (se_var (i := 2) rfl (vis_of rfl) rfl rfl) (se_tup (sa_cons (se_sl c.hK (se_var (i := 0) rfl (vis_of rfl) rfl rfl) (so_some (se_bin (os_add c.hK) (se_var (i := 1) rfl (vis_of rfl) rfl rfl) se_int)) so_none) sa_nil rfl)))))))))
theorem sc12 : FnScope ["path", "words"] ["path", "words"] (defScope s12) := ⟨rfl, rfl, rfl, by decide +kernel, rfl, by decide +kernel, by decide +kernel⟩
theorem w12 (T : TM (mkEn nm nmw K h0 P w) P w K mg base k r lay (fadK K) tpL) (cdv : Value) (A : Around) (outer : List Env) (s : Shared) (H : Hp) (Ex : XK) {f : Addr} (c : Ctx (mkEn nm nmw K h0 P w) k (cxD P w K mg base ["path", "words"] "folder_entry_in" (defScope s12) f cdv A outer s H Ex) (WD Ex)) :
    SSs (mkEn nm nmw K h0 P w) (cxD P w K mg base ["path", "words"] "folder_entry_in" (defScope s12) f cdv A outer s H Ex) (WD Ex) (defBody s12) (f153_0 r) := by
  have S := sc12
  unfold f153_0
  exact (sss_cons (ss_if (st_cmp (os_eq c.hK c.b.hu) (se_var (i := 1) rfl (vis_of rfl) rfl rfl) (se_lst (sa_cons (se_strL (by kernel_rfl)) sa_nil rfl)) (nobehind _ (by decide) (by decide))) (sss_one (ss_ret (se_tup (sa_cons (se_var (i := 0) rfl (vis_of rfl) rfl rfl) (sa_cons (se_strL (by kernel_rfl)) (sa_cons se_non sa_nil rfl) rfl) rfl)))) sss_nil) (sss_cons (ss_if (st_w (sw_or (st_cmp (os_ne c.hK c.b.hu) (se_callB (cs_len c) rfl (T.fr "len" rfl) PySem.boot_len (sa_cons (se_var (i := 1) rfl (vis_of rfl) rfl rfl) sa_nil rfl) (by decide) rfl rfl rfl) se_int (nobehind _ (by decide) (by decide))) (sw_or (st_cmp (os_ne c.hK c.b.hu) (se_ix (ix_all c.b) (se_var (i := 1) rfl (vis_of rfl) rfl rfl) se_int (fun _ _ => rfl)) (se_strL (by kernel_rfl)) (nobehind _ (by decide) (by decide))) (sw_or1 (st_cmp os_is (se_call c (T.fn 3 (by decide)) rfl (T.gf 3 "path_in" rfl (by decide)) (sa_cons (se_ix (ix_all c.b) (se_var (i := 1) rfl (vis_of rfl) rfl rfl) se_int (fun _ _ => rfl)) sa_nil rfl) rfl rfl rfl) se_non (nobehind _ (by decide) (by decide))))))) (sss_one (ss_ret se_non)) sss_nil) (sss_one (ss_ret (se_tup (sa_cons (se_var (i := 0) rfl (vis_of rfl) rfl rfl) (sa_cons (se_strL (by kernel_rfl)) (sa_cons (se_call c (T.fn 3 (by decide)) rfl (T.gf 3 "path_in" rfl (by decide)) (sa_cons (se_ix (ix_all c.b) (se_var (i := 1) rfl (vis_of rfl) rfl rfl) se_int (fun _ _ => rfl)) sa_nil rfl) rfl rfl rfl) sa_nil rfl) rfl) rfl))))))
theorem sc13 : FnScope ["row", "words", "path"] ["row"] (defScope s13) := ⟨rfl, rfl, rfl, by decide +kernel, rfl, by decide +kernel, by decide +kernel⟩
theorem w13 (T : TM (mkEn nm nmw K h0 P w) P w K mg base k r lay (fadK K) tpL) (cdv : Value) (A : Around) (outer : List Env) (s : Shared) (H : Hp) (Ex : XK) {f : Addr} (c : Ctx (mkEn nm nmw K h0 P w) k (cxD P w K mg base ["row", "words", "path"] "entry_in" (defScope s13) f cdv A outer s H Ex) (WD Ex)) :
    SSs (mkEn nm nmw K h0 P w) (cxD P w K mg base ["row", "words", "path"] "entry_in" (defScope s13) f cdv A outer s H Ex) (WD Ex) (defBody s13) (f154_0 r) := by
  have S := sc13
  unfold f154_0
  exact (sss_cons (ss_set (i := 1) S.nd rfl (loc_of rfl) (se_bm PySem.F.plainAttrs_str PySem.F.slot_str_split PySem.F.type_str_split ms_split (se_var (i := 0) rfl (vis_of rfl) rfl rfl) (sa_cons (se_strL (by kernel_rfl)) sa_nil rfl) rfl rfl rfl rfl rfl) rfl (.inl rfl)) (sss_cons (ss_if (st_w (sw_and (st_cmp (os_eq c.hK c.b.hu) (se_ix (ix_all c.b) (se_var (i := 1) rfl (vis_of rfl) rfl rfl) se_int (fun _ _ => rfl)) (se_strL (by kernel_rfl)) (nobehind _ (by decide) (by decide))) (sw_and (st_cmp (os_eq c.hK c.b.hu) (se_callB (cs_len c) rfl (T.fr "len" rfl) PySem.boot_len (sa_cons (se_var (i := 1) rfl (vis_of rfl) rfl rfl) sa_nil rfl) (by decide) rfl rfl rfl) se_int (nobehind _ (by decide) (by decide))) (sw_and1 (st_cmp os_isnot (se_call c (T.fn 11 (by decide)) rfl (T.gf 11 "gone_path_in" rfl (by decide)) (sa_cons (se_ix (ix_all c.b) (se_var (i := 1) rfl (vis_of rfl) rfl rfl) se_int (fun _ _ => rfl)) sa_nil rfl) rfl rfl rfl) se_non (nobehind _ (by decide) (by decide))))))) (sss_one (ss_ret (se_tup (sa_cons (se_call c (T.fn 11 (by decide)) rfl (T.gf 11 "gone_path_in" rfl (by decide)) (sa_cons (se_ix (ix_all c.b) (se_var (i := 1) rfl (vis_of rfl) rfl rfl) se_int (fun _ _ => rfl)) sa_nil rfl) rfl rfl rfl) (sa_cons (se_strL (by kernel_rfl)) sa_nil rfl) rfl)))) sss_nil) (sss_cons (ss_if (st_w (sw_or (st_cmp os_lt (se_callB (cs_len c) rfl (T.fr "len" rfl) PySem.boot_len (sa_cons (se_var (i := 1) rfl (vis_of rfl) rfl rfl) sa_nil rfl) (by decide) rfl rfl rfl) se_int (nobehind _ (by decide) (by decide))) (sw_or1 (st_cmp os_is (se_call c (T.fn 10 (by decide)) rfl (T.gf 10 "thing_path_in" rfl (by decide)) (sa_cons (se_ix (ix_all c.b) (se_var (i := 1) rfl (vis_of rfl) rfl rfl) se_int (fun _ _ => rfl)) sa_nil rfl) rfl rfl rfl) se_non (nobehind _ (by decide) (by decide)))))) (sss_one (ss_ret se_non)) sss_nil) (sss_cons (ss_set (i := 2) S.nd rfl (loc_of rfl) (se_call c (T.fn 10 (by decide)) rfl (T.gf 10 "thing_path_in" rfl (by decide)) (sa_cons (se_ix (ix_all c.b) (se_var (i := 1) rfl (vis_of rfl) rfl rfl) se_int (fun _ _ => rfl)) sa_nil rfl) rfl rfl rfl) rfl (.inl rfl)) (sss_cons (ss_if (st_w (sw_and (st_cmp (os_eq c.hK c.b.hu) (se_ix (ix_all c.b) (se_var (i := 1) rfl (vis_of rfl) rfl rfl) se_int (fun _ _ => rfl)) (se_strL (by kernel_rfl)) (nobehind _ (by decide) (by decide))) (sw_and (st_cmp (os_eq c.hK c.b.hu) (se_callB (cs_len c) rfl (T.fr "len" rfl) PySem.boot_len (sa_cons (se_var (i := 1) rfl (vis_of rfl) rfl rfl) sa_nil rfl) (by decide) rfl rfl rfl) se_int (nobehind _ (by decide) (by decide))) (sw_and1 (st_cmp os_isnot (se_call c (T.fn 9 (by decide)) rfl (T.gf 9 "file_number_in" rfl (by decide)) (sa_cons (se_ix (ix_all c.b) (se_var (i := 1) rfl (vis_of rfl) rfl rfl) se_int (fun _ _ => rfl)) sa_nil rfl) rfl rfl rfl) se_non (nobehind _ (by decide) (by decide))))))) (sss_one (ss_ret (se_tup (sa_cons (se_var (i := 2) rfl (vis_of rfl) rfl rfl) (sa_cons (se_strL (by kernel_rfl)) (sa_cons (se_call c (T.fn 9 (by decide)) rfl (T.gf 9 "file_number_in" rfl (by decide)) (sa_cons (se_ix (ix_all c.b) (se_var (i := 1) rfl (vis_of rfl) rfl rfl) se_int (fun _ _ => rfl)) sa_nil rfl) rfl rfl rfl) sa_nil rfl) rfl) rfl)))) sss_nil) (sss_cons (ss_if (st_cmp (os_eq c.hK c.b.hu) (se_ix (ix_all c.b) (se_var (i := 1) rfl (vis_of rfl) rfl rfl) se_int (fun _ _ => rfl)) (se_strL (by kernel_rfl)) (nobehind _ (by decide) (by decide))) (sss_one (ss_ret (se_call c (T.fn 12 (by decide)) rfl (T.gf 12 "folder_entry_in" rfl (by decide)) (sa_cons (se_var (i := 2) rfl (vis_of rfl) rfl rfl) (sa_cons (se_sl c.hK (se_var (i := 1) rfl (vis_of rfl) rfl rfl) (so_some se_int) so_none) sa_nil rfl) rfl) rfl rfl rfl))) sss_nil) (sss_one (ss_ret se_non))))))))
theorem sc14 : FnScope ["row", "at", "head", "text"] ["row"] (defScope s14) := ⟨rfl, rfl, rfl, by decide +kernel, rfl, by decide +kernel, by decide +kernel⟩
theorem w14 (T : TM (mkEn nm nmw K h0 P w) P w K mg base k r lay (fadK K) tpL) (cdv : Value) (A : Around) (outer : List Env) (s : Shared) (H : Hp) (Ex : XK) {f : Addr} (c : Ctx (mkEn nm nmw K h0 P w) k (cxD P w K mg base ["row", "at", "head", "text"] "pair_in" (defScope s14) f cdv A outer s H Ex) (WD Ex)) :
    SSs (mkEn nm nmw K h0 P w) (cxD P w K mg base ["row", "at", "head", "text"] "pair_in" (defScope s14) f cdv A outer s H Ex) (WD Ex) (defBody s14) (f155_0 r) := by
  have S := sc14
  unfold f155_0
  exact (sss_cons (ss_set (i := 1) S.nd rfl (loc_of rfl) (se_bm PySem.F.plainAttrs_str PySem.F.slot_str_find PySem.F.type_str_find ms_find (se_var (i := 0) rfl (vis_of rfl) rfl rfl) (sa_cons (se_strL (by kernel_rfl)) sa_nil rfl) rfl rfl rfl rfl rfl) rfl (.inl rfl)) (sss_cons (ss_set (i := 2) S.nd rfl (loc_of rfl) (se_var (i := 0) rfl (vis_of rfl) rfl rfl) rfl (.inl rfl)) (sss_cons (ss_set (i := 3) S.nd rfl (loc_of rfl) se_non rfl (.inl rfl)) (sss_cons (ss_if (st_cmp os_ge (se_var (i := 1) rfl (vis_of rfl) rfl rfl) se_int (nobehind _ (by decide) (by decide))) (sss_cons (ss_set (i := 2) S.nd rfl (loc_of rfl) (se_sl c.hK (se_var (i := 0) rfl (vis_of rfl) rfl rfl) so_none (so_some (se_var (i := 1) rfl (vis_of rfl) rfl rfl))) rfl (.inl rfl)) (sss_cons (ss_set (i := 3) S.nd rfl (loc_of rfl) (se_sl c.hK (se_var (i := 0) rfl (vis_of rfl) rfl rfl) (so_some (se_bin (os_add c.hK) (se_var (i := 1) rfl (vis_of rfl) rfl rfl) se_int)) so_none) rfl (.inl rfl)) (sss_one (ss_if (st_not (st_tru c (se_call c (T.fn 5 (by decide)) rfl (T.gf 5 "is_text" rfl (by decide)) (sa_cons (se_var (i := 3) rfl (vis_of rfl) rfl rfl) sa_nil rfl) rfl rfl rfl) (fun _ => rfl))) (sss_one (ss_ret se_non)) sss_nil)))) sss_nil) (sss_cons (ss_if (st_w (sw_and (st_cmp (os_eq c.hK c.b.hu) (se_var (i := 2) rfl (vis_of rfl) rfl rfl) (se_strL (by kernel_rfl)) (nobehind _ (by decide) (by decide))) (sw_and1 (st_cmp os_isnot (se_var (i := 3) rfl (vis_of rfl) rfl rfl) se_non (nobehind _ (by decide) (by decide)))))) (sss_one (ss_ret (se_tup (sa_cons se_non (sa_cons (se_var (i := 3) rfl (vis_of rfl) rfl rfl) sa_nil rfl) rfl)))) sss_nil) (sss_cons (ss_if (st_w (sw_or (st_not (st_tru c (se_bm PySem.F.plainAttrs_str PySem.F.slot_str_startswith PySem.F.type_str_startswith ms_startswith (se_var (i := 2) rfl (vis_of rfl) rfl rfl) (sa_cons (se_strL (by kernel_rfl)) sa_nil rfl) rfl rfl rfl rfl rfl) (fun _ => rfl))) (sw_or1 (st_cmp os_is (se_call c (T.fn 10 (by decide)) rfl (T.gf 10 "thing_path_in" rfl (by decide)) (sa_cons (se_sl c.hK (se_var (i := 2) rfl (vis_of rfl) rfl rfl) (so_some (se_callB (cs_len c) rfl (T.fr "len" rfl) PySem.boot_len (sa_cons (se_strL (by kernel_rfl)) sa_nil rfl) (by decide) rfl rfl rfl)) so_none) sa_nil rfl) rfl rfl rfl) se_non (nobehind _ (by decide) (by decide)))))) (sss_one (ss_ret se_non)) sss_nil) (sss_one (ss_ret (se_tup (sa_cons (se_call c (T.fn 10 (by decide)) rfl (T.gf 10 "thing_path_in" rfl (by decide)) (sa_cons (se_sl c.hK (se_var (i := 2) rfl (vis_of rfl) rfl rfl) (so_some (se_callB (cs_len c) rfl (T.fr "len" rfl) PySem.boot_len (sa_cons (se_strL (by kernel_rfl)) sa_nil rfl) (by decide) rfl rfl rfl)) so_none) sa_nil rfl) rfl rfl rfl) (sa_cons (se_var (i := 3) rfl (vis_of rfl) rfl rfl) sa_nil rfl) rfl))))))))))
theorem sc15 : FnScope ["self"] ["self"] (defScope s15) := ⟨rfl, rfl, rfl, by decide +kernel, rfl, by decide +kernel, by decide +kernel⟩
theorem w15 (T : TM (mkEn nm nmw K h0 P w) P w K mg base k r lay (fadK K) tpL) (cdv : Value) (A : Around) (outer : List Env) (s : Shared) (H : Hp) (Ex : XK) {f : Addr} (c : Ctx (mkEn nm nmw K h0 P w) k (cxD P w K mg base ["self"] "LayerRows.__init__" (defScope s15) f cdv A outer s H Ex) (WD Ex)) :
    SSs (mkEn nm nmw K h0 P w) (cxD P w K mg base ["self"] "LayerRows.__init__" (defScope s15) f cdv A outer s H Ex) (WD Ex) (defBody s15) (f156_0 r) := by
  have S := sc15
  unfold f156_0
  exact (sss_cons (ss_fld c rfl rfl (se_lst sa_nil) (se_var (i := 0) rfl (vis_of rfl) rfl rfl) rfl) (sss_cons (ss_fld c rfl rfl (se_lst sa_nil) (se_var (i := 0) rfl (vis_of rfl) rfl rfl) rfl) (sss_cons (ss_fld c rfl rfl (se_dictT (Nat.lt_of_le_of_lt (Nat.le_add_right _ _) c.b.hu) (se_tup sa_nil) se_bl) (se_var (i := 0) rfl (vis_of rfl) rfl rfl) rfl) (sss_one (ss_fld c rfl rfl se_newD (se_var (i := 0) rfl (vis_of rfl) rfl rfl) rfl)))))
theorem sc16 : FnScope ["self", "entry"] ["self", "entry"] (defScope s16) := ⟨rfl, rfl, rfl, by decide +kernel, rfl, by decide +kernel, by decide +kernel⟩
theorem w16 (T : TM (mkEn nm nmw K h0 P w) P w K mg base k r lay (fadK K) tpL) (cdv : Value) (A : Around) (outer : List Env) (s : Shared) (H : Hp) (Ex : XK) {f : Addr} (c : Ctx (mkEn nm nmw K h0 P w) k (cxD P w K mg base ["self", "entry"] "LayerRows.take_entry" (defScope s16) f cdv A outer s H Ex) (WD Ex)) :
    SSs (mkEn nm nmw K h0 P w) (cxD P w K mg base ["self", "entry"] "LayerRows.take_entry" (defScope s16) f cdv A outer s H Ex) (WD Ex) (defBody s16) (f157_0 r) := by
  have S := sc16
  unfold f157_0
  exact (sss_cons (ss_if (st_w (sw_or (st_cmp os_gt (se_callB (cs_len c) rfl (T.fr "len" rfl) PySem.boot_len (sa_cons (se_fld c rfl (se_var (i := 0) rfl (vis_of rfl) rfl rfl) rfl) sa_nil rfl) (by decide) rfl rfl rfl) se_int (nobehind _ (by decide) (by decide))) (sw_or (st_cmp (os_eq c.hK c.b.hu) (se_callB (cs_len c) rfl (T.fr "len" rfl) PySem.boot_len (sa_cons (se_fld c rfl (se_var (i := 0) rfl (vis_of rfl) rfl rfl) rfl) sa_nil rfl) (by decide) rfl rfl rfl) (se_gint rfl (T.ci "MOST_ENTRIES" 400 rfl) rfl) (nobehind _ (by decide) (by decide))) (sw_or1 (st_cmp (os_notin c) (se_call c (T.fn 4 (by decide)) rfl (T.gf 4 "parent_of" rfl (by decide)) (sa_cons (se_ix (ix_all c.b) (se_var (i := 1) rfl (vis_of rfl) rfl rfl) se_int (fun _ _ => rfl)) sa_nil rfl) rfl rfl rfl) (se_fld c rfl (se_var (i := 0) rfl (vis_of rfl) rfl rfl) rfl) rfl))))) (sss_one (ss_ret se_bl)) sss_nil) (sss_cons (ss_if (st_w (sw_and (st_cmp os_gt (se_callB (cs_len c) rfl (T.fr "len" rfl) PySem.boot_len (sa_cons (se_fld c rfl (se_var (i := 0) rfl (vis_of rfl) rfl rfl) rfl) sa_nil rfl) (by decide) rfl rfl rfl) se_int (nobehind _ (by decide) (by decide))) (sw_and1 (st_not (st_cmp (os_ltD c.b) (se_ix (ix_all c.b) (se_ix (ix_all c.b) (se_fld c rfl (se_var (i := 0) rfl (vis_of rfl) rfl rfl) rfl) (se_neg se_int) (fun _ _ => rfl)) se_int (fun _ _ => rfl)) (se_ix (ix_all c.b) (se_var (i := 1) rfl (vis_of rfl) rfl rfl) se_int (fun _ _ => rfl)) (nobehind _ (by decide) (by decide))))))) (sss_one (ss_ret se_bl)) sss_nil) (sss_cons (ss_if (st_cmp (os_eq c.hK c.b.hu) (se_ix (ix_all c.b) (se_var (i := 1) rfl (vis_of rfl) rfl rfl) se_int (fun _ _ => rfl)) (se_strL (by kernel_rfl)) (nobehind _ (by decide) (by decide))) (sss_one (ss_sput (ss_put c) se_bl (se_fld c rfl (se_var (i := 0) rfl (vis_of rfl) rfl rfl) rfl) (se_ix (ix_all c.b) (se_var (i := 1) rfl (vis_of rfl) rfl rfl) se_int (fun _ _ => rfl)) (fun _ => rfl) rfl rfl rfl)) sss_nil) (sss_cons (ss_expr (se_bm PySem.F.plainAttrs_list PySem.F.slot_list_append PySem.F.type_list_append ms_append (se_fld c rfl (se_var (i := 0) rfl (vis_of rfl) rfl rfl) rfl) (sa_cons (se_var (i := 1) rfl (vis_of rfl) rfl rfl) sa_nil rfl) rfl rfl rfl rfl rfl) rfl) (sss_one (ss_ret se_bl))))))
theorem sc17 : FnScope ["self", "pair"] ["self", "pair"] (defScope s17) := ⟨rfl, rfl, rfl, by decide +kernel, rfl, by decide +kernel, by decide +kernel⟩
theorem w17 (T : TM (mkEn nm nmw K h0 P w) P w K mg base k r lay (fadK K) tpL) (cdv : Value) (A : Around) (outer : List Env) (s : Shared) (H : Hp) (Ex : XK) {f : Addr} (c : Ctx (mkEn nm nmw K h0 P w) k (cxD P w K mg base ["self", "pair"] "LayerRows.take_pair" (defScope s17) f cdv A outer s H Ex) (WD Ex)) :
    SSs (mkEn nm nmw K h0 P w) (cxD P w K mg base ["self", "pair"] "LayerRows.take_pair" (defScope s17) f cdv A outer s H Ex) (WD Ex) (defBody s17) (f158_0 r) := by
  have S := sc17
  unfold f158_0
  exact (sss_cons (ss_if (st_w (sw_or (st_cmp (os_eq c.hK c.b.hu) (se_callB (cs_len c) rfl (T.fr "len" rfl) PySem.boot_len (sa_cons (se_fld c rfl (se_var (i := 0) rfl (vis_of rfl) rfl rfl) rfl) sa_nil rfl) (by decide) rfl rfl rfl) (se_gint rfl (T.ci "MOST_FILES" 200 rfl) rfl) (nobehind _ (by decide) (by decide))) (sw_or1 (st_w (sw_and (st_cmp os_isnot (se_ix (ix_all c.b) (se_var (i := 1) rfl (vis_of rfl) rfl rfl) se_int (fun _ _ => rfl)) se_non (nobehind _ (by decide) (by decide))) (sw_and1 (st_cmp (os_inN c) (se_ix (ix_all c.b) (se_var (i := 1) rfl (vis_of rfl) rfl rfl) se_int (fun _ _ => rfl)) (se_fld c rfl (se_var (i := 0) rfl (vis_of rfl) rfl rfl) rfl) rfl))))))) (sss_one (ss_ret se_bl)) sss_nil) (sss_cons (ss_sput (ss_putN c) se_bl (se_fld c rfl (se_var (i := 0) rfl (vis_of rfl) rfl rfl) rfl) (se_ix (ix_all c.b) (se_var (i := 1) rfl (vis_of rfl) rfl rfl) se_int (fun _ _ => rfl)) (fun _ => rfl) rfl rfl rfl) (sss_cons (ss_expr (se_bm PySem.F.plainAttrs_list PySem.F.slot_list_append PySem.F.type_list_append ms_append (se_fld c rfl (se_var (i := 0) rfl (vis_of rfl) rfl rfl) rfl) (sa_cons (se_var (i := 1) rfl (vis_of rfl) rfl rfl) sa_nil rfl) rfl rfl rfl rfl rfl) rfl) (sss_one (ss_ret se_bl)))))
theorem sc18 : FnScope ["self", "row", "entry", "pair"] ["self", "row"] (defScope s18) := ⟨rfl, rfl, rfl, by decide +kernel, rfl, by decide +kernel, by decide +kernel⟩
theorem w18 (T : TM (mkEn nm nmw K h0 P w) P w K mg base k r lay (fadK K) tpL) (cdv : Value) (A : Around) (outer : List Env) (s : Shared) (H : Hp) (Ex : XK) {f : Addr} (c : Ctx (mkEn nm nmw K h0 P w) k (cxD P w K mg base ["self", "row", "entry", "pair"] "LayerRows.take_row" (defScope s18) f cdv A outer s H Ex) (WD Ex)) :
    SSs (mkEn nm nmw K h0 P w) (cxD P w K mg base ["self", "row", "entry", "pair"] "LayerRows.take_row" (defScope s18) f cdv A outer s H Ex) (WD Ex) (defBody s18) (f159_0 r) := by
  have S := sc18
  unfold f159_0
  exact (sss_cons (ss_set (i := 2) S.nd rfl (loc_of rfl) (se_call c (T.fn 13 (by decide)) rfl (T.gf 13 "entry_in" rfl (by decide)) (sa_cons (se_var (i := 1) rfl (vis_of rfl) rfl rfl) sa_nil rfl) rfl rfl rfl) rfl (.inl rfl)) (sss_cons (ss_if (st_cmp os_isnot (se_var (i := 2) rfl (vis_of rfl) rfl rfl) se_non (nobehind _ (by decide) (by decide))) (sss_one (ss_ret (se_meth (j := 40) c rfl (mo40 T) (se_var (i := 0) rfl (vis_of rfl) rfl rfl) (sa_cons (se_var (i := 2) rfl (vis_of rfl) rfl rfl) sa_nil rfl) rfl rfl rfl))) sss_nil) (sss_cons (ss_set (i := 3) S.nd rfl (loc_of rfl) (se_call c (T.fn 14 (by decide)) rfl (T.gf 14 "pair_in" rfl (by decide)) (sa_cons (se_var (i := 1) rfl (vis_of rfl) rfl rfl) sa_nil rfl) rfl rfl rfl) rfl (.inl rfl)) (sss_one (ss_ret (se_and c (se_cmp os_isnot (se_var (i := 3) rfl (vis_of rfl) rfl rfl) se_non (nobehind _ (by decide) (by decide))) (se_one (se_meth (j := 41) c rfl (mo41 T) (se_var (i := 0) rfl (vis_of rfl) rfl rfl) (sa_cons (se_var (i := 3) rfl (vis_of rfl) rfl rfl) sa_nil rfl) rfl rfl rfl))))))))
theorem sc19 : FnScope ["self", "named", "entry", "number", "pair"] ["self"] (defScope s19) := ⟨rfl, rfl, rfl, by decide +kernel, rfl, by decide +kernel, by decide +kernel⟩
theorem w19 (T : TM (mkEn nm nmw K h0 P w) P w K mg base k r lay (fadK K) tpL) (cdv : Value) (A : Around) (outer : List Env) (s : Shared) (H : Hp) (Ex : XK) {f : Addr} (c : Ctx (mkEn nm nmw K h0 P w) k (cxD P w K mg base ["self", "named", "entry", "number", "pair"] "LayerRows.is_whole" (defScope s19) f cdv A outer s H Ex) (WD Ex)) :
    SSs (mkEn nm nmw K h0 P w) (cxD P w K mg base ["self", "named", "entry", "number", "pair"] "LayerRows.is_whole" (defScope s19) f cdv A outer s H Ex) (WD Ex) (defBody s19) (f160_0 r) := by
  have S := sc19
  unfold f160_0 f160_0_c2 f160_0_c1 f160_0_c0
  exact (sss_cons (ss_set (i := 1) S.nd rfl (loc_of rfl) (se_lc (own := [("entry", 2)]) c S.nd (si_any c.hK (se_fld c rfl (se_var (i := 0) rfl (vis_of rfl) rfl rfl) rfl)) (blkOk_by (by kernel_rfl)) (fun s H C cl fp c => (sgw_name (i := 2) (by decide) S.nd rfl (loc_of rfl) (.inr rfl))) (fun s H C cl fp c => (sts_one (st_cmp (os_eq c.hK c.b.hu) (se_ix (ix_all c.b) (se_var (i := 2) rfl (vis_of rfl) rfl rfl) se_int (fun _ _ => rfl)) (se_strL (by kernel_rfl)) (nobehind _ (by decide) (by decide))))) (fun s H C cl fp c => (se_ix (ix_all c.b) (se_var (i := 2) rfl (vis_of rfl) rfl rfl) se_int (fun _ _ => rfl))) (fun _ => rfl)) (by kernel_rfl) (.inl rfl)) (sss_cons (ss_if (st_tru c (se_callB (cs_any c) rfl (T.fr "any" rfl) (by decide +kernel) (sa_cons (se_lc (own := [("number", 3)]) c S.nd (si_any c.hK (se_var (i := 1) rfl (vis_of rfl) rfl rfl)) (blkOk_by (by kernel_rfl)) (fun s H C cl fp c => (sgw_name (i := 3) (by decide) S.nd rfl (loc_of rfl) (.inr rfl))) (fun s H C cl fp c => sts_nil) (fun s H C cl fp c => (se_cmp os_ge (se_var (i := 3) rfl (vis_of rfl) rfl rfl) (se_callB (cs_len c) rfl (T.fr "len" rfl) PySem.boot_len (sa_cons (se_fld c rfl (se_var (i := 0) rfl (vis_of rfl) rfl rfl) rfl) sa_nil rfl) (by decide) rfl rfl rfl) (nobehind _ (by decide) (by decide)))) (fun _ => rfl)) sa_nil rfl) (by decide) rfl rfl rfl) (fun _ => rfl)) (sss_one (ss_ret se_bl)) sss_nil) (sss_one (ss_ret (se_callB (cs_all c) rfl (T.fr "all" rfl) (by decide +kernel) (sa_cons (se_lc (own := [("number", 3), ("pair", 4)]) c S.nd (si_enum rfl (T.fr "enumerate" rfl) (sa_cons (se_fld c rfl (se_var (i := 0) rfl (vis_of rfl) rfl rfl) rfl) sa_nil rfl) rfl) (blkOk_by (by kernel_rfl)) (fun s H C cl fp c => (sgw_tup c.calm (sgsw_cons (sgw_name (i := 3) (by decide) S.nd rfl (loc_of rfl) (.inr rfl)) (sgsw_cons (sgw_name (i := 4) (by decide) S.nd rfl (loc_of rfl) (.inr rfl)) sgsw_nil rfl) rfl) rfl rfl)) (fun s H C cl fp c => sts_nil) (fun s H C cl fp c => (se_or c (se_cmp os_isnot (se_ix (ix_all c.b) (se_var (i := 4) rfl (vis_of rfl) rfl rfl) se_int (fun _ _ => rfl)) se_non (nobehind _ (by decide) (by decide))) (se_one (se_cmp (os_in c) (se_var (i := 3) rfl (vis_of rfl) rfl rfl) (se_var (i := 1) rfl (vis_of rfl) rfl rfl) rfl)))) (fun _ => rfl)) sa_nil rfl) (by decide) rfl rfl rfl)))))
theorem sc20 : FnScope ["text", "reader", "rows", "number", "row"] ["text"] (defScope s20) := ⟨rfl, rfl, rfl, by decide +kernel, rfl, by decide +kernel, by decide +kernel⟩
theorem w20 (T : TM (mkEn nm nmw K h0 P w) P w K mg base k r lay (fadK K) tpL) (cdv : Value) (A : Around) (outer : List Env) (s : Shared) (H : Hp) (Ex : XK) {f : Addr} (c : Ctx (mkEn nm nmw K h0 P w) k (cxD P w K mg base ["text", "reader", "rows", "number", "row"] "read_layer" (defScope s20) f cdv A outer s H Ex) (WD Ex)) :
    SSs (mkEn nm nmw K h0 P w) (cxD P w K mg base ["text", "reader", "rows", "number", "row"] "read_layer" (defScope s20) f cdv A outer s H Ex) (WD Ex) (defBody s20) (f161_0 r) := by
  have S := sc20
  unfold f161_0 f161_0_l0
  exact (sss_cons (ss_set (i := 1) S.nd rfl (loc_of rfl) (se_make0 (c := 17) c rfl (T.mke 17 0 rfl) (mkEn_kp rfl) rfl (T.cl "LayerRows" 17 rfl) rfl) rfl (.inl rfl)) (sss_cons (ss_set (i := 2) S.nd rfl (loc_of rfl) (se_lst sa_nil) rfl (.inl rfl)) (sss_cons (ss_if (st_cmp (os_ne c.hK c.b.hu) (se_var (i := 0) rfl (vis_of rfl) rfl rfl) (se_strL (by kernel_rfl)) (nobehind _ (by decide) (by decide))) (sss_one (ss_set (i := 2) S.nd rfl (loc_of rfl) (se_bm PySem.F.plainAttrs_str PySem.F.slot_str_split PySem.F.type_str_split ms_split (se_var (i := 0) rfl (vis_of rfl) rfl rfl) (sa_cons (se_strL (by kernel_rfl)) sa_nil rfl) rfl rfl rfl rfl rfl) rfl (.inl rfl))) sss_nil) (sss_cons (ss_for c (si_enum rfl (T.fr "enumerate" rfl) (sa_cons (se_var (i := 2) rfl (vis_of rfl) rfl rfl) sa_nil rfl) rfl) (sg_tup c.calm (sgs_cons (sg_name (i := 3) S.nd rfl (loc_of rfl) (.inl rfl)) (sgs_cons (sg_name (i := 4) S.nd rfl (loc_of rfl) (.inl rfl)) sgs_nil rfl) rfl) rfl rfl) (sss_one (ss_if (st_not (st_tru c (se_meth (j := 42) c rfl (mo42 T) (se_var (i := 1) rfl (vis_of rfl) rfl rfl) (sa_cons (se_var (i := 4) rfl (vis_of rfl) rfl rfl) sa_nil rfl) rfl rfl rfl) (fun _ => rfl))) (sss_one (ss_raiseN (c := 14) c rfl (T.xi 14 rfl) (T.cl "BadLayer" 14 rfl) rfl (sa_cons (se_strL (by kernel_rfl)) (sa_cons (se_var (i := 3) rfl (vis_of rfl) rfl rfl) sa_nil rfl) rfl) rfl rfl rfl)) sss_nil)) (fun _ => rfl)) (sss_cons (ss_if (st_not (st_tru c (se_meth0 (j := 43) c rfl (mo43 T) (se_var (i := 1) rfl (vis_of rfl) rfl rfl) rfl) (fun _ => rfl))) (sss_one (ss_raiseN (c := 14) c rfl (T.xi 14 rfl) (T.cl "BadLayer" 14 rfl) rfl (sa_cons (se_strL (by kernel_rfl)) (sa_cons (se_callB (cs_len c) rfl (T.fr "len" rfl) PySem.boot_len (sa_cons (se_var (i := 2) rfl (vis_of rfl) rfl rfl) sa_nil rfl) (by decide) rfl rfl rfl) sa_nil rfl) rfl) rfl rfl rfl)) sss_nil) (sss_one (ss_ret (se_tup (sa_cons (se_callT cs_tuple rfl (T.fr "tuple" rfl) (by decide +kernel) (sa_cons (se_fld c rfl (se_var (i := 1) rfl (vis_of rfl) rfl rfl) rfl) sa_nil rfl) (by decide) rfl rfl rfl) (sa_cons (se_callT cs_tuple rfl (T.fr "tuple" rfl) (by decide +kernel) (sa_cons (se_fld c rfl (se_var (i := 1) rfl (vis_of rfl) rfl rfl) rfl) sa_nil rfl) (by decide) rfl rfl rfl) sa_nil rfl) rfl)))))))))
theorem sc21 : FnScope ["_law_script", "_law_k", "_law_cell", "_law_digits"] ["_law_script", "_law_k"] (defScope s21) := ⟨rfl, rfl, rfl, by decide +kernel, rfl, by decide +kernel, by decide +kernel⟩
theorem w21 (T : TM (mkEn nm nmw K h0 P w) P w K mg base k r lay (fadK K) tpL) (cdv : Value) (A : Around) (outer : List Env) (s : Shared) (H : Hp) (Ex : XK) {f : Addr} (c : Ctx (mkEn nm nmw K h0 P w) k (cxD P w K mg base ["_law_script", "_law_k", "_law_cell", "_law_digits"] "_law_box" (defScope s21) f cdv A outer s H Ex) (WD Ex)) :
    SSs (mkEn nm nmw K h0 P w) (cxD P w K mg base ["_law_script", "_law_k", "_law_cell", "_law_digits"] "_law_box" (defScope s21) f cdv A outer s H Ex) (WD Ex) (defBody s21) (f94_1 r) := by
  have S := sc21
  unfold f94_1
  exact (sss_cons (ss_set (i := 2) S.nd rfl (loc_of rfl) se_int rfl (.inl rfl)) (sss_cons (ss_if (st_cmp os_lt (se_var (i := 1) rfl (vis_of rfl) rfl rfl) (se_callB (cs_len c) rfl (T.fr "len" rfl) PySem.boot_len (sa_cons (se_var (i := 0) rfl (vis_of rfl) rfl rfl) sa_nil rfl) (by decide) rfl rfl rfl) (nobehind _ (by decide) (by decide))) (sss_one (ss_set (i := 2) S.nd rfl (loc_of rfl) (se_ix (ix_all c.b) (se_var (i := 0) rfl (vis_of rfl) rfl rfl) (se_var (i := 1) rfl (vis_of rfl) rfl rfl) (fun _ _ => rfl)) rfl (.inl rfl))) sss_nil) (sss_cons (ss_set (i := 3) S.nd rfl (loc_of rfl) se_int rfl (.inl rfl)) (sss_cons (ss_if (st_cmp os_ge (se_callB cs_abs rfl (T.fr "abs" rfl) (by decide +kernel) (sa_cons (se_var (i := 2) rfl (vis_of rfl) rfl rfl) sa_nil rfl) (by decide) rfl rfl rfl) (se_bin os_pow se_int se_int) (nobehind _ (by decide) (by decide))) (sss_one (ss_set (i := 3) S.nd rfl (loc_of rfl) (se_callB cs_abs rfl (T.fr "abs" rfl) (by decide +kernel) (sa_cons (se_var (i := 2) rfl (vis_of rfl) rfl rfl) sa_nil rfl) (by decide) rfl rfl rfl) rfl (.inl rfl))) sss_nil) (sss_one (ss_ret (se_lst (sa_cons (se_var (i := 3) rfl (vis_of rfl) rfl rfl) (sa_cons (se_bin os_mod (se_bin os_mul (se_bin (os_add c.hK) (se_bin (os_add c.hK) (se_bin os_mod (se_var (i := 2) rfl (vis_of rfl) rfl rfl) se_int) (se_bin os_mul se_int (se_var (i := 1) rfl (vis_of rfl) rfl rfl))) se_int) se_int) se_int) (sa_cons se_int sa_nil rfl) rfl) rfl))))))))
theorem sc22 : FnScope ["_law_box_here", "_law_many", "_law_found", "_law_once"] ["_law_box_here", "_law_many"] (defScope s22) := ⟨rfl, rfl, rfl, by decide +kernel, rfl, by decide +kernel, by decide +kernel⟩
theorem w22 (T : TM (mkEn nm nmw K h0 P w) P w K mg base k r lay (fadK K) tpL) (cdv : Value) (A : Around) (outer : List Env) (s : Shared) (H : Hp) (Ex : XK) {f : Addr} (c : Ctx (mkEn nm nmw K h0 P w) k (cxD P w K mg base ["_law_box_here", "_law_many", "_law_found", "_law_once"] "_law_take" (defScope s22) f cdv A outer s H Ex) (WD Ex)) :
    SSs (mkEn nm nmw K h0 P w) (cxD P w K mg base ["_law_box_here", "_law_many", "_law_found", "_law_once"] "_law_take" (defScope s22) f cdv A outer s H Ex) (WD Ex) (defBody s22) (f95_0 r) := by
  have S := sc22
  unfold f95_0
  exact (sss_cons (ss_if (st_cmp os_gt (se_ix (ix_all c.b) (se_var (i := 0) rfl (vis_of rfl) rfl rfl) se_int (fun _ _ => rfl)) se_int (nobehind _ (by decide) (by decide))) (sss_cons (ss_set (i := 2) S.nd rfl (loc_of rfl) (se_bin os_mod (se_ix (ix_all c.b) (se_var (i := 0) rfl (vis_of rfl) rfl rfl) se_int (fun _ _ => rfl)) (se_var (i := 1) rfl (vis_of rfl) rfl rfl)) rfl (.inl rfl)) (sss_cons (ss_sput (ss_put c) (se_bin os_fdiv (se_ix (ix_all c.b) (se_var (i := 0) rfl (vis_of rfl) rfl rfl) se_int (fun _ _ => rfl)) (se_var (i := 1) rfl (vis_of rfl) rfl rfl)) (se_var (i := 0) rfl (vis_of rfl) rfl rfl) se_int (fun _ => rfl) rfl rfl rfl) (sss_one (ss_ret (se_var (i := 2) rfl (vis_of rfl) rfl rfl))))) sss_nil) (sss_cons (ss_sput (ss_put c) (se_bin (os_add c.hK) (se_ix (ix_all c.b) (se_var (i := 0) rfl (vis_of rfl) rfl rfl) se_int (fun _ _ => rfl)) se_int) (se_var (i := 0) rfl (vis_of rfl) rfl rfl) se_int (fun _ => rfl) rfl rfl rfl) (sss_cons (ss_set (i := 3) S.nd rfl (loc_of rfl) (se_bin os_mod (se_bin os_mul (se_bin (os_add c.hK) (se_ix (ix_all c.b) (se_var (i := 0) rfl (vis_of rfl) rfl rfl) se_int (fun _ _ => rfl)) (se_bin os_mul se_int (se_ix (ix_all c.b) (se_var (i := 0) rfl (vis_of rfl) rfl rfl) se_int (fun _ _ => rfl)))) (se_bin (os_add c.hK) se_int (se_ix (ix_all c.b) (se_var (i := 0) rfl (vis_of rfl) rfl rfl) se_int (fun _ _ => rfl)))) se_int) rfl (.inl rfl)) (sss_cons (ss_sput (ss_put c) (se_bin os_mod (se_bin (os_add c.hK) (se_bin os_mul (se_var (i := 3) rfl (vis_of rfl) rfl rfl) (se_bin (os_add c.hK) (se_bin os_mod (se_var (i := 3) rfl (vis_of rfl) rfl rfl) se_int) se_int)) (se_ix (ix_all c.b) (se_var (i := 0) rfl (vis_of rfl) rfl rfl) se_int (fun _ _ => rfl))) se_int) (se_var (i := 0) rfl (vis_of rfl) rfl rfl) se_int (fun _ => rfl) rfl rfl rfl) (sss_one (ss_ret (se_bin os_mod (se_bin os_fdiv (se_bin os_mod (se_bin os_mul (se_ix (ix_all c.b) (se_var (i := 0) rfl (vis_of rfl) rfl rfl) se_int (fun _ _ => rfl)) (se_bin (os_add c.hK) (se_bin os_mod (se_ix (ix_all c.b) (se_var (i := 0) rfl (vis_of rfl) rfl rfl) se_int (fun _ _ => rfl)) se_int) se_int)) se_int) se_int) (se_var (i := 1) rfl (vis_of rfl) rfl rfl))))))))
theorem sc23 : FnScope ["_law_box_here", "_law_some", "_law_letters", "_law_k"] ["_law_box_here"] (defScope s23) := ⟨rfl, rfl, rfl, by decide +kernel, rfl, by decide +kernel, by decide +kernel⟩
theorem w23 (T : TM (mkEn nm nmw K h0 P w) P w K mg base k r lay (fadK K) tpL) (cdv : Value) (A : Around) (outer : List Env) (s : Shared) (H : Hp) (Ex : XK) {f : Addr} (c : Ctx (mkEn nm nmw K h0 P w) k (cxD P w K mg base ["_law_box_here", "_law_some", "_law_letters", "_law_k"] "_law_word" (defScope s23) f cdv A outer s H Ex) (WD Ex)) :
    SSs (mkEn nm nmw K h0 P w) (cxD P w K mg base ["_law_box_here", "_law_some", "_law_letters", "_law_k"] "_law_word" (defScope s23) f cdv A outer s H Ex) (WD Ex) (defBody s23) (f5_2 r) := by
  have S := sc23
  unfold f5_2 f5_2_c0
  exact (sss_cons (ss_set (i := 1) S.nd rfl (loc_of rfl) (se_lst (sa_cons (se_strL (by kernel_rfl)) (sa_cons (se_strL (by kernel_rfl)) (sa_cons (se_strL (by kernel_rfl)) (sa_cons (se_strL (by kernel_rfl)) (sa_cons (se_strL (by kernel_rfl)) (sa_cons (se_strL (by kernel_rfl)) (sa_cons (se_strL (by kernel_rfl)) (sa_cons (se_strL (by kernel_rfl)) (sa_cons (se_strL (by kernel_rfl)) (sa_cons (se_strL (by kernel_rfl)) (sa_cons (se_strL (by kernel_rfl)) (sa_cons (se_strL (by kernel_rfl)) (sa_cons (se_strL (by kernel_rfl)) (sa_cons (se_strL (by kernel_rfl)) sa_nil rfl) rfl) rfl) rfl) rfl) rfl) rfl) rfl) rfl) rfl) rfl) rfl) rfl) rfl)) rfl (.inl rfl)) (sss_cons (ss_if (st_cmp (os_eq c.hK c.b.hu) (se_call c (T.fn 22 (by decide)) rfl (T.gf 22 "_law_take" rfl (by decide)) (sa_cons (se_var (i := 0) rfl (vis_of rfl) rfl rfl) (sa_cons se_int sa_nil rfl) rfl) rfl rfl rfl) se_int (nobehind _ (by decide) (by decide))) (sss_cons (ss_set (i := 2) S.nd rfl (loc_of rfl) (se_strL (by kernel_rfl)) rfl (.inl rfl)) (sss_one (ss_ret (se_bm PySem.F.plainAttrs_str PySem.F.slot_str_join PySem.F.type_str_join (ms_join c.hK) (se_strL (by kernel_rfl)) (sa_cons (se_lc (own := [("_law_k", 3)]) c S.nd (si_r1 rfl (T.fr "range" rfl) (sa_cons (se_bin (os_add c.hK) se_int (se_call c (T.fn 22 (by decide)) rfl (T.gf 22 "_law_take" rfl (by decide)) (sa_cons (se_var (i := 0) rfl (vis_of rfl) rfl rfl) (sa_cons se_int sa_nil rfl) rfl) rfl rfl rfl)) sa_nil rfl) rfl) (blkOk_by (by kernel_rfl)) (fun s H C cl fp c => (sgw_name (i := 3) (by decide) S.nd rfl (loc_of rfl) (.inr rfl))) (fun s H C cl fp c => sts_nil) (fun s H C cl fp c => (se_ix (ix_all c.b) (se_var (i := 2) rfl (vis_of rfl) rfl rfl) (se_call c (T.fn 22 (by decide)) rfl (T.gf 22 "_law_take" rfl (by decide)) (sa_cons (se_var (i := 0) rfl (vis_of rfl) rfl rfl) (sa_cons se_int sa_nil rfl) rfl) rfl rfl rfl) (fun _ _ => rfl))) (fun _ => rfl)) sa_nil rfl) rfl rfl rfl rfl rfl)))) sss_nil) (sss_one (ss_ret (se_ix (ix_all c.b) (se_var (i := 1) rfl (vis_of rfl) rfl rfl) (se_call c (T.fn 22 (by decide)) rfl (T.gf 22 "_law_take" rfl (by decide)) (sa_cons (se_var (i := 0) rfl (vis_of rfl) rfl rfl) (sa_cons se_int sa_nil rfl) rfl) rfl rfl rfl) (fun _ _ => rfl))))))
theorem sc24 : FnScope ["_law_box_here", "_law_signs", "_law_many", "_law_first", "_law_step", "_law_k"] ["_law_box_here"] (defScope s24) := ⟨rfl, rfl, rfl, by decide +kernel, rfl, by decide +kernel, by decide +kernel⟩
theorem w24 (T : TM (mkEn nm nmw K h0 P w) P w K mg base k r lay (fadK K) tpL) (cdv : Value) (A : Around) (outer : List Env) (s : Shared) (H : Hp) (Ex : XK) {f : Addr} (c : Ctx (mkEn nm nmw K h0 P w) k (cxD P w K mg base ["_law_box_here", "_law_signs", "_law_many", "_law_first", "_law_step", "_law_k"] "_law_text" (defScope s24) f cdv A outer s H Ex) (WD Ex)) :
    SSs (mkEn nm nmw K h0 P w) (cxD P w K mg base ["_law_box_here", "_law_signs", "_law_many", "_law_first", "_law_step", "_law_k"] "_law_text" (defScope s24) f cdv A outer s H Ex) (WD Ex) (defBody s24) (f96_1 r) := by
  have S := sc24
  unfold f96_1 f96_1_c0
  exact (sss_cons (ss_set (i := 1) S.nd rfl (loc_of rfl) (se_strL (by kernel_rfl)) rfl (.inl rfl)) (sss_cons (ss_set (i := 2) S.nd rfl (loc_of rfl) (se_call c (T.fn 22 (by decide)) rfl (T.gf 22 "_law_take" rfl (by decide)) (sa_cons (se_var (i := 0) rfl (vis_of rfl) rfl rfl) (sa_cons se_int sa_nil rfl) rfl) rfl rfl rfl) rfl (.inl rfl)) (sss_cons (ss_if (st_cmp (os_eq c.hK c.b.hu) (se_call c (T.fn 22 (by decide)) rfl (T.gf 22 "_law_take" rfl (by decide)) (sa_cons (se_var (i := 0) rfl (vis_of rfl) rfl rfl) (sa_cons se_int sa_nil rfl) rfl) rfl rfl rfl) se_int (nobehind _ (by decide) (by decide))) (sss_one (ss_set (i := 2) S.nd rfl (loc_of rfl) (se_ix (ix_all c.b) (se_lst (sa_cons (se_call c (T.fn 22 (by decide)) rfl (T.gf 22 "_law_take" rfl (by decide)) (sa_cons (se_var (i := 0) rfl (vis_of rfl) rfl rfl) (sa_cons se_int sa_nil rfl) rfl) rfl rfl rfl) (sa_cons se_int (sa_cons se_int sa_nil rfl) rfl) rfl)) (se_call c (T.fn 22 (by decide)) rfl (T.gf 22 "_law_take" rfl (by decide)) (sa_cons (se_var (i := 0) rfl (vis_of rfl) rfl rfl) (sa_cons se_int sa_nil rfl) rfl) rfl rfl rfl) (fun _ _ => rfl)) rfl (.inl rfl))) sss_nil) (sss_cons (ss_set (i := 3) S.nd rfl (loc_of rfl) (se_call c (T.fn 22 (by decide)) rfl (T.gf 22 "_law_take" rfl (by decide)) (sa_cons (se_var (i := 0) rfl (vis_of rfl) rfl rfl) (sa_cons se_int sa_nil rfl) rfl) rfl rfl rfl) rfl (.inl rfl)) (sss_cons (ss_set (i := 4) S.nd rfl (loc_of rfl) (se_call c (T.fn 22 (by decide)) rfl (T.gf 22 "_law_take" rfl (by decide)) (sa_cons (se_var (i := 0) rfl (vis_of rfl) rfl rfl) (sa_cons se_int sa_nil rfl) rfl) rfl rfl rfl) rfl (.inl rfl)) (sss_one (ss_ret (se_bm PySem.F.plainAttrs_str PySem.F.slot_str_join PySem.F.type_str_join (ms_join c.hK) (se_strL (by kernel_rfl)) (sa_cons (se_lc (own := [("_law_k", 5)]) c S.nd (si_r1 rfl (T.fr "range" rfl) (sa_cons (se_var (i := 2) rfl (vis_of rfl) rfl rfl) sa_nil rfl) rfl) (blkOk_by (by kernel_rfl)) (fun s H C cl fp c => (sgw_name (i := 5) (by decide) S.nd rfl (loc_of rfl) (.inr rfl))) (fun s H C cl fp c => sts_nil) (fun s H C cl fp c => (se_ix (ix_all c.b) (se_var (i := 1) rfl (vis_of rfl) rfl rfl) (se_bin os_mod (se_bin (os_add c.hK) (se_var (i := 3) rfl (vis_of rfl) rfl rfl) (se_bin os_mul (se_var (i := 5) rfl (vis_of rfl) rfl rfl) (se_var (i := 4) rfl (vis_of rfl) rfl rfl))) se_int) (fun _ _ => rfl))) (fun _ => rfl)) sa_nil rfl) rfl rfl rfl rfl rfl))))))))
theorem sc25 : FnScope ["_law_box_here", "_law_many", "_law_k"] ["_law_box_here"] (defScope s25) := ⟨rfl, rfl, rfl, by decide +kernel, rfl, by decide +kernel, by decide +kernel⟩
theorem w25 (T : TM (mkEn nm nmw K h0 P w) P w K mg base k r lay (fadK K) tpL) (cdv : Value) (A : Around) (outer : List Env) (s : Shared) (H : Hp) (Ex : XK) {f : Addr} (c : Ctx (mkEn nm nmw K h0 P w) k (cxD P w K mg base ["_law_box_here", "_law_many", "_law_k"] "_law_any_path" (defScope s25) f cdv A outer s H Ex) (WD Ex)) :
    SSs (mkEn nm nmw K h0 P w) (cxD P w K mg base ["_law_box_here", "_law_many", "_law_k"] "_law_any_path" (defScope s25) f cdv A outer s H Ex) (WD Ex) (defBody s25) (f139_0 r) := by
  have S := sc25
  unfold f139_0 f139_0_c0
  exact (sss_cons (ss_set (i := 1) S.nd rfl (loc_of rfl) (se_bin (os_add c.hK) (se_bin (os_add c.hK) se_int (se_call c (T.fn 22 (by decide)) rfl (T.gf 22 "_law_take" rfl (by decide)) (sa_cons (se_var (i := 0) rfl (vis_of rfl) rfl rfl) (sa_cons se_int sa_nil rfl) rfl) rfl rfl rfl)) (se_bin os_mul se_int (se_callT cs_int rfl (T.fr "int" rfl) (by decide +kernel) (sa_cons (se_cmp (os_eq c.hK c.b.hu) (se_call c (T.fn 22 (by decide)) rfl (T.gf 22 "_law_take" rfl (by decide)) (sa_cons (se_var (i := 0) rfl (vis_of rfl) rfl rfl) (sa_cons se_int sa_nil rfl) rfl) rfl rfl rfl) se_int (nobehind _ (by decide) (by decide))) sa_nil rfl) (by decide) rfl rfl rfl))) rfl (.inl rfl)) (sss_one (ss_ret (se_callT cs_tuple rfl (T.fr "tuple" rfl) (by decide +kernel) (sa_cons (se_lc (own := [("_law_k", 2)]) c S.nd (si_r1 rfl (T.fr "range" rfl) (sa_cons (se_var (i := 1) rfl (vis_of rfl) rfl rfl) sa_nil rfl) rfl) (blkOk_by (by kernel_rfl)) (fun s H C cl fp c => (sgw_name (i := 2) (by decide) S.nd rfl (loc_of rfl) (.inr rfl))) (fun s H C cl fp c => sts_nil) (fun s H C cl fp c => (se_call c (T.fn 23 (by decide)) rfl (T.gf 23 "_law_word" rfl (by decide)) (sa_cons (se_var (i := 0) rfl (vis_of rfl) rfl rfl) sa_nil rfl) rfl rfl rfl)) (fun _ => rfl)) sa_nil rfl) (by decide) rfl rfl rfl))))
theorem sc26 : FnScope ["_law_box_here", "_law_pairs", "_law_origin", "_law_pair", "_law_text_here"] ["_law_box_here", "_law_pairs"] (defScope s26) := ⟨rfl, rfl, rfl, by decide +kernel, rfl, by decide +kernel, by decide +kernel⟩
theorem w26 (T : TM (mkEn nm nmw K h0 P w) P w K mg base k r lay (fadK K) tpL) (cdv : Value) (A : Around) (outer : List Env) (s : Shared) (H : Hp) (Ex : XK) {f : Addr} (c : Ctx (mkEn nm nmw K h0 P w) k (cxD P w K mg base ["_law_box_here", "_law_pairs", "_law_origin", "_law_pair", "_law_text_here"] "_law_new_file" (defScope s26) f cdv A outer s H Ex) (WD Ex)) :
    SSs (mkEn nm nmw K h0 P w) (cxD P w K mg base ["_law_box_here", "_law_pairs", "_law_origin", "_law_pair", "_law_text_here"] "_law_new_file" (defScope s26) f cdv A outer s H Ex) (WD Ex) (defBody s26) (f140_0 r) := by
  have S := sc26
  unfold f140_0 f140_0_c0
  exact (sss_cons (ss_set (i := 2) S.nd rfl (loc_of rfl) se_non rfl (.inl rfl)) (sss_cons (ss_if (st_cmp os_gt (se_call c (T.fn 22 (by decide)) rfl (T.gf 22 "_law_take" rfl (by decide)) (sa_cons (se_var (i := 0) rfl (vis_of rfl) rfl rfl) (sa_cons se_int sa_nil rfl) rfl) rfl rfl rfl) se_int (nobehind _ (by decide) (by decide))) (sss_one (ss_set (i := 2) S.nd rfl (loc_of rfl) (se_call c (T.fn 25 (by decide)) rfl (T.gf 25 "_law_any_path" rfl (by decide)) (sa_cons (se_var (i := 0) rfl (vis_of rfl) rfl rfl) sa_nil rfl) rfl rfl rfl) rfl (.inl rfl))) sss_nil) (sss_cons (ss_if (st_w (sw_and (st_cmp os_isnot (se_var (i := 2) rfl (vis_of rfl) rfl rfl) se_non (nobehind _ (by decide) (by decide))) (sw_and1 (st_cmp (os_in c) (se_var (i := 2) rfl (vis_of rfl) rfl rfl) (se_lc (own := [("_law_pair", 3)]) c S.nd (si_any c.hK (se_var (i := 1) rfl (vis_of rfl) rfl rfl)) (blkOk_by (by kernel_rfl)) (fun s H C cl fp c => (sgw_name (i := 3) (by decide) S.nd rfl (loc_of rfl) (.inr rfl))) (fun s H C cl fp c => sts_nil) (fun s H C cl fp c => (se_ix (ix_all c.b) (se_var (i := 3) rfl (vis_of rfl) rfl rfl) se_int (fun _ _ => rfl))) (fun _ => rfl)) rfl)))) (sss_one (ss_ret (se_neg se_int))) sss_nil) (sss_cons (ss_set (i := 4) S.nd rfl (loc_of rfl) (se_call c (T.fn 24 (by decide)) rfl (T.gf 24 "_law_text" rfl (by decide)) (sa_cons (se_var (i := 0) rfl (vis_of rfl) rfl rfl) sa_nil rfl) rfl rfl rfl) rfl (.inl rfl)) (sss_cons (ss_if (st_w (sw_and (st_cmp os_isnot (se_var (i := 2) rfl (vis_of rfl) rfl rfl) se_non (nobehind _ (by decide) (by decide))) (sw_and1 (st_cmp (os_eq c.hK c.b.hu) (se_call c (T.fn 22 (by decide)) rfl (T.gf 22 "_law_take" rfl (by decide)) (sa_cons (se_var (i := 0) rfl (vis_of rfl) rfl rfl) (sa_cons se_int sa_nil rfl) rfl) rfl rfl rfl) se_int (nobehind _ (by decide) (by decide)))))) (sss_one (ss_set (i := 4) S.nd rfl (loc_of rfl) se_non rfl (.inl rfl))) sss_nil) (sss_cons (ss_expr (se_bm PySem.F.plainAttrs_list PySem.F.slot_list_append PySem.F.type_list_append ms_append (se_var (i := 1) rfl (vis_of rfl) rfl rfl) (sa_cons (se_tup (sa_cons (se_var (i := 2) rfl (vis_of rfl) rfl rfl) (sa_cons (se_var (i := 4) rfl (vis_of rfl) rfl rfl) sa_nil rfl) rfl)) sa_nil rfl) rfl rfl rfl rfl rfl) rfl) (sss_one (ss_ret (se_bin os_sub (se_callB (cs_len c) rfl (T.fr "len" rfl) PySem.boot_len (sa_cons (se_var (i := 1) rfl (vis_of rfl) rfl rfl) sa_nil rfl) (by decide) rfl rfl rfl) se_int)))))))))
theorem sc27 : FnScope ["_law_box_here", "_law_rows", "_law_pairs", "_law_folders", "_law_path", "_law_way", "_law_number", "_law_origin", "_law_pair"] ["_law_box_here", "_law_rows", "_law_pairs", "_law_folders"] (defScope s27) := ⟨rfl, rfl, rfl, by decide +kernel, rfl, by decide +kernel, by decide +kernel⟩
theorem w27 (T : TM (mkEn nm nmw K h0 P w) P w K mg base k r lay (fadK K) tpL) (cdv : Value) (A : Around) (outer : List Env) (s : Shared) (H : Hp) (Ex : XK) {f : Addr} (c : Ctx (mkEn nm nmw K h0 P w) k (cxD P w K mg base ["_law_box_here", "_law_rows", "_law_pairs", "_law_folders", "_law_path", "_law_way", "_law_number", "_law_origin", "_law_pair"] "_law_grow" (defScope s27) f cdv A outer s H Ex) (WD Ex)) :
    SSs (mkEn nm nmw K h0 P w) (cxD P w K mg base ["_law_box_here", "_law_rows", "_law_pairs", "_law_folders", "_law_path", "_law_way", "_law_number", "_law_origin", "_law_pair"] "_law_grow" (defScope s27) f cdv A outer s H Ex) (WD Ex) (defBody s27) (f141_0 r) := by
  have S := sc27
  unfold f141_0 f141_0_c0
  exact (sss_cons (ss_set (i := 4) S.nd rfl (loc_of rfl) (se_bin (os_add c.hK) (se_ix (ix_all c.b) (se_var (i := 3) rfl (vis_of rfl) rfl rfl) (se_call c (T.fn 22 (by decide)) rfl (T.gf 22 "_law_take" rfl (by decide)) (sa_cons (se_var (i := 0) rfl (vis_of rfl) rfl rfl) (sa_cons (se_callB (cs_len c) rfl (T.fr "len" rfl) PySem.boot_len (sa_cons (se_var (i := 3) rfl (vis_of rfl) rfl rfl) sa_nil rfl) (by decide) rfl rfl rfl) sa_nil rfl) rfl) rfl rfl rfl) (fun _ _ => rfl)) (se_tup (sa_cons (se_call c (T.fn 23 (by decide)) rfl (T.gf 23 "_law_word" rfl (by decide)) (sa_cons (se_var (i := 0) rfl (vis_of rfl) rfl rfl) sa_nil rfl) rfl rfl rfl) sa_nil rfl))) rfl (.inl rfl)) (sss_cons (ss_set (i := 5) S.nd rfl (loc_of rfl) (se_call c (T.fn 22 (by decide)) rfl (T.gf 22 "_law_take" rfl (by decide)) (sa_cons (se_var (i := 0) rfl (vis_of rfl) rfl rfl) (sa_cons se_int sa_nil rfl) rfl) rfl rfl rfl) rfl (.inl rfl)) (sss_cons (ss_if (st_w (sw_or (st_cmp (os_in c) (se_var (i := 4) rfl (vis_of rfl) rfl rfl) (se_var (i := 1) rfl (vis_of rfl) rfl rfl) rfl) (sw_or (st_cmp os_gt (se_callB (cs_len c) rfl (T.fr "len" rfl) PySem.boot_len (sa_cons (se_var (i := 4) rfl (vis_of rfl) rfl rfl) sa_nil rfl) (by decide) rfl rfl rfl) se_int (nobehind _ (by decide) (by decide))) (sw_or1 (st_cmp os_gt (se_callB (cs_len c) rfl (T.fr "len" rfl) PySem.boot_len (sa_cons (se_var (i := 2) rfl (vis_of rfl) rfl rfl) sa_nil rfl) (by decide) rfl rfl rfl) se_int (nobehind _ (by decide) (by decide))))))) (sss_one ss_retN) sss_nil) (sss_cons (ss_if (st_cmp os_lt (se_var (i := 5) rfl (vis_of rfl) rfl rfl) se_int (nobehind _ (by decide) (by decide))) (sss_cons (ss_sput (ss_put c) (se_tup (sa_cons (se_var (i := 4) rfl (vis_of rfl) rfl rfl) (sa_cons (se_strL (by kernel_rfl)) (sa_cons (se_ix (ix_all c.b) (se_lst (sa_cons se_non (sa_cons (se_var (i := 4) rfl (vis_of rfl) rfl rfl) (sa_cons (se_tup sa_nil) (sa_cons (se_call c (T.fn 25 (by decide)) rfl (T.gf 25 "_law_any_path" rfl (by decide)) (sa_cons (se_var (i := 0) rfl (vis_of rfl) rfl rfl) sa_nil rfl) rfl rfl rfl) sa_nil rfl) rfl) rfl) rfl)) (se_call c (T.fn 22 (by decide)) rfl (T.gf 22 "_law_take" rfl (by decide)) (sa_cons (se_var (i := 0) rfl (vis_of rfl) rfl rfl) (sa_cons se_int sa_nil rfl) rfl) rfl rfl rfl) (fun _ _ => rfl)) sa_nil rfl) rfl) rfl)) (se_var (i := 1) rfl (vis_of rfl) rfl rfl) (se_var (i := 4) rfl (vis_of rfl) rfl rfl) (fun _ => rfl) rfl rfl rfl) (sss_one (ss_expr (se_bm PySem.F.plainAttrs_list PySem.F.slot_list_append PySem.F.type_list_append ms_append (se_var (i := 3) rfl (vis_of rfl) rfl rfl) (sa_cons (se_var (i := 4) rfl (vis_of rfl) rfl rfl) sa_nil rfl) rfl rfl rfl rfl rfl) rfl))) (sss_one (ss_if (st_cmp os_lt (se_var (i := 5) rfl (vis_of rfl) rfl rfl) se_int (nobehind _ (by decide) (by decide))) (sss_cons (ss_set (i := 6) S.nd rfl (loc_of rfl) (se_neg se_int) rfl (.inl rfl)) (sss_cons (ss_if (st_w (sw_and (st_cmp os_gt (se_callB (cs_len c) rfl (T.fr "len" rfl) PySem.boot_len (sa_cons (se_var (i := 2) rfl (vis_of rfl) rfl rfl) sa_nil rfl) (by decide) rfl rfl rfl) se_int (nobehind _ (by decide) (by decide))) (sw_and1 (st_cmp (os_eq c.hK c.b.hu) (se_call c (T.fn 22 (by decide)) rfl (T.gf 22 "_law_take" rfl (by decide)) (sa_cons (se_var (i := 0) rfl (vis_of rfl) rfl rfl) (sa_cons se_int sa_nil rfl) rfl) rfl rfl rfl) se_int (nobehind _ (by decide) (by decide)))))) (sss_one (ss_set (i := 6) S.nd rfl (loc_of rfl) (se_call c (T.fn 22 (by decide)) rfl (T.gf 22 "_law_take" rfl (by decide)) (sa_cons (se_var (i := 0) rfl (vis_of rfl) rfl rfl) (sa_cons (se_callB (cs_len c) rfl (T.fr "len" rfl) PySem.boot_len (sa_cons (se_var (i := 2) rfl (vis_of rfl) rfl rfl) sa_nil rfl) (by decide) rfl rfl rfl) sa_nil rfl) rfl) rfl rfl rfl) rfl (.inl rfl))) sss_nil) (sss_cons (ss_if (st_cmp os_lt (se_var (i := 6) rfl (vis_of rfl) rfl rfl) se_int (nobehind _ (by decide) (by decide))) (sss_one (ss_set (i := 6) S.nd rfl (loc_of rfl) (se_call c (T.fn 26 (by decide)) rfl (T.gf 26 "_law_new_file" rfl (by decide)) (sa_cons (se_var (i := 0) rfl (vis_of rfl) rfl rfl) (sa_cons (se_var (i := 2) rfl (vis_of rfl) rfl rfl) sa_nil rfl) rfl) rfl rfl rfl) rfl (.inl rfl))) sss_nil) (sss_one (ss_if (st_cmp os_ge (se_var (i := 6) rfl (vis_of rfl) rfl rfl) se_int (nobehind _ (by decide) (by decide))) (sss_one (ss_sput (ss_put c) (se_tup (sa_cons (se_var (i := 4) rfl (vis_of rfl) rfl rfl) (sa_cons (se_strL (by kernel_rfl)) (sa_cons (se_var (i := 6) rfl (vis_of rfl) rfl rfl) sa_nil rfl) rfl) rfl)) (se_var (i := 1) rfl (vis_of rfl) rfl rfl) (se_var (i := 4) rfl (vis_of rfl) rfl rfl) (fun _ => rfl) rfl rfl rfl)) sss_nil))))) (sss_one (ss_sput (ss_put c) (se_tup (sa_cons (se_var (i := 4) rfl (vis_of rfl) rfl rfl) (sa_cons (se_strL (by kernel_rfl)) sa_nil rfl) rfl)) (se_var (i := 1) rfl (vis_of rfl) rfl rfl) (se_var (i := 4) rfl (vis_of rfl) rfl rfl) (fun _ => rfl) rfl rfl rfl))))) (sss_one (ss_if (st_cmp (os_eq c.hK c.b.hu) (se_var (i := 5) rfl (vis_of rfl) rfl rfl) se_int (nobehind _ (by decide) (by decide))) (sss_cons (ss_set (i := 7) S.nd rfl (loc_of rfl) (se_call c (T.fn 25 (by decide)) rfl (T.gf 25 "_law_any_path" rfl (by decide)) (sa_cons (se_var (i := 0) rfl (vis_of rfl) rfl rfl) sa_nil rfl) rfl rfl rfl) rfl (.inl rfl)) (sss_one (ss_if (st_cmp (os_notin c) (se_var (i := 7) rfl (vis_of rfl) rfl rfl) (se_lc (own := [("_law_pair", 8)]) c S.nd (si_any c.hK (se_var (i := 2) rfl (vis_of rfl) rfl rfl)) (blkOk_by (by kernel_rfl)) (fun s H C cl fp c => (sgw_name (i := 8) (by decide) S.nd rfl (loc_of rfl) (.inr rfl))) (fun s H C cl fp c => sts_nil) (fun s H C cl fp c => (se_ix (ix_all c.b) (se_var (i := 8) rfl (vis_of rfl) rfl rfl) se_int (fun _ _ => rfl))) (fun _ => rfl)) rfl) (sss_one (ss_expr (se_bm PySem.F.plainAttrs_list PySem.F.slot_list_append PySem.F.type_list_append ms_append (se_var (i := 2) rfl (vis_of rfl) rfl rfl) (sa_cons (se_tup (sa_cons (se_var (i := 7) rfl (vis_of rfl) rfl rfl) (sa_cons (se_ix (ix_all c.b) (se_lst (sa_cons se_non (sa_cons (se_call c (T.fn 24 (by decide)) rfl (T.gf 24 "_law_text" rfl (by decide)) (sa_cons (se_var (i := 0) rfl (vis_of rfl) rfl rfl) sa_nil rfl) rfl rfl rfl) sa_nil rfl) rfl)) (se_call c (T.fn 22 (by decide)) rfl (T.gf 22 "_law_take" rfl (by decide)) (sa_cons (se_var (i := 0) rfl (vis_of rfl) rfl rfl) (sa_cons se_int sa_nil rfl) rfl) rfl rfl rfl) (fun _ _ => rfl)) sa_nil rfl) rfl)) sa_nil rfl) rfl rfl rfl rfl rfl) rfl)) sss_nil))) sss_nil))))))
theorem sc28 : FnScope ["_law_rows", "_law_name", "_law_path", "_law_k"] ["_law_rows", "_law_name"] (defScope s28) := ⟨rfl, rfl, rfl, by decide +kernel, rfl, by decide +kernel, by decide +kernel⟩
theorem w28 (T : TM (mkEn nm nmw K h0 P w) P w K mg base k r lay (fadK K) tpL) (cdv : Value) (A : Around) (outer : List Env) (s : Shared) (H : Hp) (Ex : XK) {f : Addr} (c : Ctx (mkEn nm nmw K h0 P w) k (cxD P w K mg base ["_law_rows", "_law_name", "_law_path", "_law_k"] "_law_deep" (defScope s28) f cdv A outer s H Ex) (WD Ex)) :
    SSs (mkEn nm nmw K h0 P w) (cxD P w K mg base ["_law_rows", "_law_name", "_law_path", "_law_k"] "_law_deep" (defScope s28) f cdv A outer s H Ex) (WD Ex) (defBody s28) (f142_0 r) := by
  have S := sc28
  unfold f142_0 f142_0_l0
  exact (sss_cons (ss_set (i := 2) S.nd rfl (loc_of rfl) (se_tup sa_nil) rfl (.inl rfl)) (sss_cons (ss_for c (si_r1 rfl (T.fr "range" rfl) (sa_cons se_int sa_nil rfl) rfl) (sg_name (i := 3) S.nd rfl (loc_of rfl) (.inl rfl)) (sss_cons (ss_set (i := 2) S.nd rfl (loc_of rfl) (se_bin (os_add c.hK) (se_var (i := 2) rfl (vis_of rfl) rfl rfl) (se_tup (sa_cons (se_var (i := 1) rfl (vis_of rfl) rfl rfl) sa_nil rfl))) rfl (.inl rfl)) (sss_one (ss_if (st_cmp (os_ne c.hK c.b.hu) (se_ix (ix_all c.b) (se_bm PySem.F.plainAttrs_dict PySem.F.slot_dict_setdefault PySem.F.type_dict_setdefault (ms_setd c) (se_var (i := 0) rfl (vis_of rfl) rfl rfl) (sa_cons (se_var (i := 2) rfl (vis_of rfl) rfl rfl) (sa_cons (se_tup (sa_cons (se_var (i := 2) rfl (vis_of rfl) rfl rfl) (sa_cons (se_strL (by kernel_rfl)) (sa_cons se_non sa_nil rfl) rfl) rfl)) sa_nil rfl) rfl) rfl rfl rfl rfl rfl) se_int (fun _ _ => rfl)) (se_strL (by kernel_rfl)) (nobehind _ (by decide) (by decide))) (sss_one ss_retN) sss_nil))) (fun _ => rfl)) (sss_one (ss_sput (ss_put c) (se_tup (sa_cons (se_bin (os_add c.hK) (se_var (i := 2) rfl (vis_of rfl) rfl rfl) (se_tup (sa_cons (se_var (i := 1) rfl (vis_of rfl) rfl rfl) sa_nil rfl))) (sa_cons (se_strL (by kernel_rfl)) sa_nil rfl) rfl)) (se_var (i := 0) rfl (vis_of rfl) rfl rfl) (se_bin (os_add c.hK) (se_var (i := 2) rfl (vis_of rfl) rfl rfl) (se_tup (sa_cons (se_var (i := 1) rfl (vis_of rfl) rfl rfl) sa_nil rfl))) (fun _ => rfl) rfl rfl rfl))))
theorem sc29 : FnScope ["_law_script", "_law_rows", "_law_pairs", "_law_folders", "_law_k", "_law_box_here", "_law_turn", "_law_last", "_law_entries", "_law_path", "_law_row"] ["_law_script"] (defScope s29) := ⟨rfl, rfl, rfl, by decide +kernel, rfl, by decide +kernel, by decide +kernel⟩
theorem w29 (T : TM (mkEn nm nmw K h0 P w) P w K mg base k r lay (fadK K) tpL) (cdv : Value) (A : Around) (outer : List Env) (s : Shared) (H : Hp) (Ex : XK) {f : Addr} (c : Ctx (mkEn nm nmw K h0 P w) k (cxD P w K mg base ["_law_script", "_law_rows", "_law_pairs", "_law_folders", "_law_k", "_law_box_here", "_law_turn", "_law_last", "_law_entries", "_law_path", "_law_row"] "_law_layer" (defScope s29) f cdv A outer s H Ex) (WD Ex)) :
    SSs (mkEn nm nmw K h0 P w) (cxD P w K mg base ["_law_script", "_law_rows", "_law_pairs", "_law_folders", "_law_k", "_law_box_here", "_law_turn", "_law_last", "_law_entries", "_law_path", "_law_row"] "_law_layer" (defScope s29) f cdv A outer s H Ex) (WD Ex) (defBody s29) (f143_0 r) := by
  have S := sc29
  unfold f143_0 f143_0_l2 f143_0_l1 f143_0_l0
  exact (sss_cons (ss_set (i := 1) S.nd rfl (loc_of rfl) se_newD rfl (.inl rfl)) (sss_cons (ss_set (i := 2) S.nd rfl (loc_of rfl) (se_lst sa_nil) rfl (.inl rfl)) (sss_cons (ss_set (i := 3) S.nd rfl (loc_of rfl) (se_lst (sa_cons (se_tup sa_nil) sa_nil rfl)) rfl (.inl rfl)) (sss_cons (ss_for c (si_r1 rfl (T.fr "range" rfl) (sa_cons (se_callB (cs_len c) rfl (T.fr "len" rfl) PySem.boot_len (sa_cons (se_var (i := 0) rfl (vis_of rfl) rfl rfl) sa_nil rfl) (by decide) rfl rfl rfl) sa_nil rfl) rfl) (sg_name (i := 4) S.nd rfl (loc_of rfl) (.inl rfl)) (sss_cons (ss_set (i := 5) S.nd rfl (loc_of rfl) (se_call c (T.fn 21 (by decide)) rfl (T.gf 21 "_law_box" rfl (by decide)) (sa_cons (se_var (i := 0) rfl (vis_of rfl) rfl rfl) (sa_cons (se_var (i := 4) rfl (vis_of rfl) rfl rfl) sa_nil rfl) rfl) rfl rfl rfl) rfl (.inl rfl)) (sss_one (ss_for c (si_r1 rfl (T.fr "range" rfl) (sa_cons (se_bin (os_add c.hK) se_int (se_call c (T.fn 22 (by decide)) rfl (T.gf 22 "_law_take" rfl (by decide)) (sa_cons (se_var (i := 5) rfl (vis_of rfl) rfl rfl) (sa_cons se_int sa_nil rfl) rfl) rfl rfl rfl)) sa_nil rfl) rfl) (sg_name (i := 6) S.nd rfl (loc_of rfl) (.inl rfl)) (sss_one (ss_expr (se_call c (T.fn 27 (by decide)) rfl (T.gf 27 "_law_grow" rfl (by decide)) (sa_cons (se_var (i := 5) rfl (vis_of rfl) rfl rfl) (sa_cons (se_var (i := 1) rfl (vis_of rfl) rfl rfl) (sa_cons (se_var (i := 2) rfl (vis_of rfl) rfl rfl) (sa_cons (se_var (i := 3) rfl (vis_of rfl) rfl rfl) sa_nil rfl) rfl) rfl) rfl) rfl rfl rfl) rfl)) (fun _ => rfl)))) (fun _ => rfl)) (sss_cons (ss_set (i := 7) S.nd rfl (loc_of rfl) (se_call c (T.fn 21 (by decide)) rfl (T.gf 21 "_law_box" rfl (by decide)) (sa_cons (se_var (i := 0) rfl (vis_of rfl) rfl rfl) (sa_cons (se_bin os_fdiv (se_callB (cs_len c) rfl (T.fr "len" rfl) PySem.boot_len (sa_cons (se_var (i := 0) rfl (vis_of rfl) rfl rfl) sa_nil rfl) (by decide) rfl rfl rfl) se_int) sa_nil rfl) rfl) rfl rfl rfl) rfl (.inl rfl)) (sss_cons (ss_if (st_cmp (os_eq c.hK c.b.hu) (se_call c (T.fn 22 (by decide)) rfl (T.gf 22 "_law_take" rfl (by decide)) (sa_cons (se_var (i := 7) rfl (vis_of rfl) rfl rfl) (sa_cons se_int sa_nil rfl) rfl) rfl rfl rfl) se_int (nobehind _ (by decide) (by decide))) (sss_one (ss_expr (se_call c (T.fn 28 (by decide)) rfl (T.gf 28 "_law_deep" rfl (by decide)) (sa_cons (se_var (i := 1) rfl (vis_of rfl) rfl rfl) (sa_cons (se_call c (T.fn 23 (by decide)) rfl (T.gf 23 "_law_word" rfl (by decide)) (sa_cons (se_var (i := 7) rfl (vis_of rfl) rfl rfl) sa_nil rfl) rfl rfl rfl) sa_nil rfl) rfl) rfl rfl rfl) rfl)) sss_nil) (sss_cons (ss_set (i := 6) S.nd rfl (loc_of rfl) (se_call c (T.fn 22 (by decide)) rfl (T.gf 22 "_law_take" rfl (by decide)) (sa_cons (se_var (i := 7) rfl (vis_of rfl) rfl rfl) (sa_cons (se_bin (os_add c.hK) se_int (se_callB (cs_len c) rfl (T.fr "len" rfl) PySem.boot_len (sa_cons (se_var (i := 2) rfl (vis_of rfl) rfl rfl) sa_nil rfl) (by decide) rfl rfl rfl)) sa_nil rfl) rfl) rfl rfl rfl) rfl (.inl rfl)) (sss_cons (ss_set (i := 8) S.nd rfl (loc_of rfl) (se_lst sa_nil) rfl (.inl rfl)) (sss_cons (ss_for c (si_any c.hK (se_callB (cs_sorted c) rfl (T.fr "sorted" rfl) (by decide +kernel) (sa_cons (se_var (i := 1) rfl (vis_of rfl) rfl rfl) sa_nil rfl) (by decide) rfl rfl rfl)) (sg_name (i := 9) S.nd rfl (loc_of rfl) (.inl rfl)) (sss_cons (ss_set (i := 10) S.nd rfl (loc_of rfl) (se_ix (ix_all c.b) (se_var (i := 1) rfl (vis_of rfl) rfl rfl) (se_var (i := 9) rfl (vis_of rfl) rfl rfl) (fun _ _ => rfl)) rfl (.inl rfl)) (sss_cons (ss_if (st_cmp (os_eq c.hK c.b.hu) (se_ix (ix_all c.b) (se_var (i := 10) rfl (vis_of rfl) rfl rfl) se_int (fun _ _ => rfl)) (se_strL (by kernel_rfl)) (nobehind _ (by decide) (by decide))) (sss_one (ss_set (i := 10) S.nd rfl (loc_of rfl) (se_tup (sa_cons (se_var (i := 9) rfl (vis_of rfl) rfl rfl) (sa_cons (se_strL (by kernel_rfl)) (sa_cons (se_bin os_mod (se_bin (os_add c.hK) (se_ix (ix_all c.b) (se_var (i := 10) rfl (vis_of rfl) rfl rfl) se_int (fun _ _ => rfl)) (se_var (i := 6) rfl (vis_of rfl) rfl rfl)) (se_callB (cs_len c) rfl (T.fr "len" rfl) PySem.boot_len (sa_cons (se_var (i := 2) rfl (vis_of rfl) rfl rfl) sa_nil rfl) (by decide) rfl rfl rfl)) sa_nil rfl) rfl) rfl)) rfl (.inl rfl))) sss_nil) (sss_one (ss_expr (se_bm PySem.F.plainAttrs_list PySem.F.slot_list_append PySem.F.type_list_append ms_append (se_var (i := 8) rfl (vis_of rfl) rfl rfl) (sa_cons (se_var (i := 10) rfl (vis_of rfl) rfl rfl) sa_nil rfl) rfl rfl rfl rfl rfl) rfl)))) (fun _ => rfl)) (sss_one (ss_ret (se_tup (sa_cons (se_callT cs_tuple rfl (T.fr "tuple" rfl) (by decide +kernel) (sa_cons (se_var (i := 8) rfl (vis_of rfl) rfl rfl) sa_nil rfl) (by decide) rfl rfl rfl) (sa_cons (se_callT cs_tuple rfl (T.fr "tuple" rfl) (by decide +kernel) (sa_cons (se_bin (os_add c.hK) (se_sl c.hK (se_var (i := 2) rfl (vis_of rfl) rfl rfl) (so_some (se_bin os_sub (se_callB (cs_len c) rfl (T.fr "len" rfl) PySem.boot_len (sa_cons (se_var (i := 2) rfl (vis_of rfl) rfl rfl) sa_nil rfl) (by decide) rfl rfl rfl) (se_var (i := 6) rfl (vis_of rfl) rfl rfl))) so_none) (se_sl c.hK (se_var (i := 2) rfl (vis_of rfl) rfl rfl) so_none (so_some (se_bin os_sub (se_callB (cs_len c) rfl (T.fr "len" rfl) PySem.boot_len (sa_cons (se_var (i := 2) rfl (vis_of rfl) rfl rfl) sa_nil rfl) (by decide) rfl rfl rfl) (se_var (i := 6) rfl (vis_of rfl) rfl rfl))))) sa_nil rfl) (by decide) rfl rfl rfl) sa_nil rfl) rfl)))))))))))))
theorem sc30 : FnScope ["_law_found", "_law_due", "_law_one", "_law_other"] ["_law_found", "_law_due"] (defScope s30) := ⟨rfl, rfl, rfl, by decide +kernel, rfl, by decide +kernel, by decide +kernel⟩
theorem w30 (T : TM (mkEn nm nmw K h0 P w) P w K mg base k r lay (fadK K) tpL) (cdv : Value) (A : Around) (outer : List Env) (s : Shared) (H : Hp) (Ex : XK) {f : Addr} (c : Ctx (mkEn nm nmw K h0 P w) k (cxD P w K mg base ["_law_found", "_law_due", "_law_one", "_law_other"] "_law_alike" (defScope s30) f cdv A outer s H Ex) (WD Ex)) :
    SSs (mkEn nm nmw K h0 P w) (cxD P w K mg base ["_law_found", "_law_due", "_law_one", "_law_other"] "_law_alike" (defScope s30) f cdv A outer s H Ex) (WD Ex) (defBody s30) (f116_1 r) := by
  have S := sc30
  unfold f116_1 f116_1_c0
  exact (sss_cons (ss_if (st_tru c (se_callB (cs_isi c.hK) rfl (T.fr "isinstance" rfl) (by decide +kernel) (sa_cons (se_var (i := 1) rfl (vis_of rfl) rfl rfl) (sa_cons (se_ty rfl (T.fr "tuple" rfl) (by decide +kernel) (by decide) rfl) sa_nil rfl) rfl) (by decide) rfl rfl rfl) (fun _ => rfl)) (sss_cons (ss_if (st_w (sw_or (st_not (st_tru c (se_callB (cs_isi c.hK) rfl (T.fr "isinstance" rfl) (by decide +kernel) (sa_cons (se_var (i := 0) rfl (vis_of rfl) rfl rfl) (sa_cons (se_ty rfl (T.fr "tuple" rfl) (by decide +kernel) (by decide) rfl) sa_nil rfl) rfl) (by decide) rfl rfl rfl) (fun _ => rfl))) (sw_or1 (st_cmp (os_ne c.hK c.b.hu) (se_callB (cs_len c) rfl (T.fr "len" rfl) PySem.boot_len (sa_cons (se_var (i := 0) rfl (vis_of rfl) rfl rfl) sa_nil rfl) (by decide) rfl rfl rfl) (se_callB (cs_len c) rfl (T.fr "len" rfl) PySem.boot_len (sa_cons (se_var (i := 1) rfl (vis_of rfl) rfl rfl) sa_nil rfl) (by decide) rfl rfl rfl) (nobehind _ (by decide) (by decide)))))) (sss_one (ss_ret se_bl)) sss_nil) (sss_one (ss_ret (se_callB (cs_all c) rfl (T.fr "all" rfl) (by decide +kernel) (sa_cons (se_lc (own := [("_law_one", 2), ("_law_other", 3)]) c S.nd (si_zip rfl (T.fr "zip" rfl) (sa_cons (se_var (i := 0) rfl (vis_of rfl) rfl rfl) (sa_cons (se_var (i := 1) rfl (vis_of rfl) rfl rfl) sa_nil rfl) rfl) rfl rfl) (blkOk_by (by kernel_rfl)) (fun s H C cl fp c => (sgw_tup c.calm (sgsw_cons (sgw_name (i := 2) (by decide) S.nd rfl (loc_of rfl) (.inr rfl)) (sgsw_cons (sgw_name (i := 3) (by decide) S.nd rfl (loc_of rfl) (.inr rfl)) sgsw_nil rfl) rfl) rfl rfl)) (fun s H C cl fp c => sts_nil) (fun s H C cl fp c => (se_call c (T.fn 30 (by decide)) rfl (T.gf 30 "_law_alike" rfl (by decide)) (sa_cons (se_var (i := 2) rfl (vis_of rfl) rfl rfl) (sa_cons (se_var (i := 3) rfl (vis_of rfl) rfl rfl) sa_nil rfl) rfl) rfl rfl rfl)) (fun _ => rfl)) sa_nil rfl) (by decide) rfl rfl rfl)))) sss_nil) (sss_cons (ss_if (st_cmp os_is (se_var (i := 1) rfl (vis_of rfl) rfl rfl) se_non (nobehind _ (by decide) (by decide))) (sss_one (ss_ret (se_cmp os_is (se_var (i := 0) rfl (vis_of rfl) rfl rfl) se_non (nobehind _ (by decide) (by decide))))) sss_nil) (sss_cons (ss_if (st_tru c (se_callB (cs_isi c.hK) rfl (T.fr "isinstance" rfl) (by decide +kernel) (sa_cons (se_var (i := 1) rfl (vis_of rfl) rfl rfl) (sa_cons (se_ty rfl (T.fr "str" rfl) (by decide +kernel) (by decide) rfl) sa_nil rfl) rfl) (by decide) rfl rfl rfl) (fun _ => rfl)) (sss_one (ss_ret (se_and c (se_callB (cs_isi c.hK) rfl (T.fr "isinstance" rfl) (by decide +kernel) (sa_cons (se_var (i := 0) rfl (vis_of rfl) rfl rfl) (sa_cons (se_ty rfl (T.fr "str" rfl) (by decide +kernel) (by decide) rfl) sa_nil rfl) rfl) (by decide) rfl rfl rfl) (se_one (se_cmp (os_eq c.hK c.b.hu) (se_var (i := 0) rfl (vis_of rfl) rfl rfl) (se_var (i := 1) rfl (vis_of rfl) rfl rfl) (nobehind _ (by decide) (by decide))))))) sss_nil) (sss_one (ss_ret (se_and c (se_callB (cs_isi c.hK) rfl (T.fr "isinstance" rfl) (by decide +kernel) (sa_cons (se_var (i := 0) rfl (vis_of rfl) rfl rfl) (sa_cons (se_ty rfl (T.fr "int" rfl) (by decide +kernel) (by decide) rfl) sa_nil rfl) rfl) (by decide) rfl rfl rfl) (se_and c (se_not c (se_callB (cs_isi c.hK) rfl (T.fr "isinstance" rfl) (by decide +kernel) (sa_cons (se_var (i := 0) rfl (vis_of rfl) rfl rfl) (sa_cons (se_ty rfl (T.fr "bool" rfl) (by decide +kernel) (by decide) rfl) sa_nil rfl) rfl) (by decide) rfl rfl rfl)) (se_one (se_cmp (os_eq c.hK c.b.hu) (se_var (i := 0) rfl (vis_of rfl) rfl rfl) (se_var (i := 1) rfl (vis_of rfl) rfl rfl) (nobehind _ (by decide) (by decide)))))))))))
theorem sc31 : FnScope ["_law_script", "_law_layer_here", "_law_other", "_law_texts", "_law_one", "_law_text_here", "_law_marks", "_law_entry", "_law_size", "_law_part"] ["_law_script"] (defScope s31) := ⟨rfl, rfl, rfl, by decide +kernel, rfl, by decide +kernel, by decide +kernel⟩
theorem w31 (T : TM (mkEn nm nmw K h0 P w) P w K mg base k r lay (fadK K) tpL) (cdv : Value) (A : Around) (outer : List Env) (s : Shared) (H : Hp) (Ex : XK) {f : Addr} (c : Ctx (mkEn nm nmw K h0 P w) k (cxD P w K mg base ["_law_script", "_law_layer_here", "_law_other", "_law_texts", "_law_one", "_law_text_here", "_law_marks", "_law_entry", "_law_size", "_law_part"] "law" (defScope s31) f cdv A outer s H Ex) (WD Ex)) :
    SSs (mkEn nm nmw K h0 P w) (cxD P w K mg base ["_law_script", "_law_layer_here", "_law_other", "_law_texts", "_law_one", "_law_text_here", "_law_marks", "_law_entry", "_law_size", "_law_part"] "law" (defScope s31) f cdv A outer s H Ex) (WD Ex) (defBody s31) (f7_21 r) := by
  have S := sc31
  unfold f7_21 f7_21_l2 f7_21_c1 f7_21_l0
  exact (sss_cons (ss_set (i := 1) S.nd rfl (loc_of rfl) (se_call c (T.fn 29 (by decide)) rfl (T.gf 29 "_law_layer" rfl (by decide)) (sa_cons (se_var (i := 0) rfl (vis_of rfl) rfl rfl) sa_nil rfl) rfl rfl rfl) rfl (.inl rfl)) (sss_cons (ss_set (i := 2) S.nd rfl (loc_of rfl) (se_call c (T.fn 29 (by decide)) rfl (T.gf 29 "_law_layer" rfl (by decide)) (sa_cons (se_listRev c rfl (T.fr "list" rfl) rfl (T.fr "reversed" rfl) (se_var (i := 0) rfl (vis_of rfl) rfl rfl) rfl rfl) sa_nil rfl) rfl rfl rfl) rfl (.inl rfl)) (sss_cons (ss_set (i := 3) S.nd rfl (loc_of rfl) (se_lst sa_nil) rfl (.inl rfl)) (sss_cons (ss_for c (si_any c.hK (se_lst (sa_cons (se_var (i := 1) rfl (vis_of rfl) rfl rfl) (sa_cons (se_var (i := 2) rfl (vis_of rfl) rfl rfl) sa_nil rfl) rfl))) (sg_name (i := 4) S.nd rfl (loc_of rfl) (.inl rfl)) (sss_cons (ss_set (i := 5) S.nd rfl (loc_of rfl) (se_call c (T.fn 8 (by decide)) rfl (T.gf 8 "layer_text" rfl (by decide)) (sa_cons (se_var (i := 4) rfl (vis_of rfl) rfl rfl) sa_nil rfl) rfl rfl rfl) rfl (.inl rfl)) (sss_cons (ss_if (st_w (sw_or (st_not (st_tru c (se_callB (cs_isi c.hK) rfl (T.fr "isinstance" rfl) (by decide +kernel) (sa_cons (se_var (i := 5) rfl (vis_of rfl) rfl rfl) (sa_cons (se_ty rfl (T.fr "str" rfl) (by decide +kernel) (by decide) rfl) sa_nil rfl) rfl) (by decide) rfl rfl rfl) (fun _ => rfl))) (sw_or (st_not (st_tru c (se_call c (T.fn 30 (by decide)) rfl (T.gf 30 "_law_alike" rfl (by decide)) (sa_cons (se_call c (T.fn 20 (by decide)) rfl (T.gf 20 "read_layer" rfl (by decide)) (sa_cons (se_var (i := 5) rfl (vis_of rfl) rfl rfl) sa_nil rfl) rfl rfl rfl) (sa_cons (se_var (i := 4) rfl (vis_of rfl) rfl rfl) sa_nil rfl) rfl) rfl rfl rfl) (fun _ => rfl))) (sw_or1 (st_cmp (os_ne c.hK c.b.hu) (se_call c (T.fn 8 (by decide)) rfl (T.gf 8 "layer_text" rfl (by decide)) (sa_cons (se_call c (T.fn 20 (by decide)) rfl (T.gf 20 "read_layer" rfl (by decide)) (sa_cons (se_var (i := 5) rfl (vis_of rfl) rfl rfl) sa_nil rfl) rfl rfl rfl) sa_nil rfl) rfl rfl rfl) (se_var (i := 5) rfl (vis_of rfl) rfl rfl) (nobehind _ (by decide) (by decide))))))) (sss_one (ss_ret se_bl)) sss_nil) (sss_one (ss_expr (se_bm PySem.F.plainAttrs_list PySem.F.slot_list_append PySem.F.type_list_append ms_append (se_var (i := 3) rfl (vis_of rfl) rfl rfl) (sa_cons (se_var (i := 5) rfl (vis_of rfl) rfl rfl) sa_nil rfl) rfl rfl rfl rfl rfl) rfl)))) (fun _ => rfl)) (sss_cons (ss_if (st_cmp (os_ne c.hK c.b.hu) (se_cmp (os_eq c.hK c.b.hu) (se_ix (ix_all c.b) (se_var (i := 3) rfl (vis_of rfl) rfl rfl) se_int (fun _ _ => rfl)) (se_ix (ix_all c.b) (se_var (i := 3) rfl (vis_of rfl) rfl rfl) se_int (fun _ _ => rfl)) (nobehind _ (by decide) (by decide))) (se_cmp (os_eq c.hK c.b.hu) (se_var (i := 1) rfl (vis_of rfl) rfl rfl) (se_var (i := 2) rfl (vis_of rfl) rfl rfl) (nobehind _ (by decide) (by decide))) (nobehind _ (by decide) (by decide))) (sss_one (ss_ret se_bl)) sss_nil) (sss_cons (ss_set (i := 6) S.nd rfl (loc_of rfl) (se_callT cs_tuple rfl (T.fr "tuple" rfl) (by decide +kernel) (sa_cons (se_lc (own := [("_law_entry", 7)]) c S.nd (si_any c.hK (se_ix (ix_all c.b) (se_var (i := 1) rfl (vis_of rfl) rfl rfl) se_int (fun _ _ => rfl))) (blkOk_by (by kernel_rfl)) (fun s H C cl fp c => (sgw_name (i := 7) (by decide) S.nd rfl (loc_of rfl) (.inr rfl))) (fun s H C cl fp c => (sts_one (st_cmp (os_ne c.hK c.b.hu) (se_ix (ix_all c.b) (se_var (i := 7) rfl (vis_of rfl) rfl rfl) se_int (fun _ _ => rfl)) (se_strL (by kernel_rfl)) (nobehind _ (by decide) (by decide))))) (fun s H C cl fp c => (se_var (i := 7) rfl (vis_of rfl) rfl rfl)) (fun _ => rfl)) sa_nil rfl) (by decide) rfl rfl rfl) rfl (.inl rfl)) (sss_cons (ss_set (i := 5) S.nd rfl (loc_of rfl) (se_call c (T.fn 8 (by decide)) rfl (T.gf 8 "layer_text" rfl (by decide)) (sa_cons (se_tup (sa_cons (se_var (i := 6) rfl (vis_of rfl) rfl rfl) (sa_cons (se_tup sa_nil) sa_nil rfl) rfl)) sa_nil rfl) rfl rfl rfl) rfl (.inl rfl)) (sss_cons (ss_for c (si_any c.hK (se_lst (sa_cons se_int (sa_cons (se_bin os_fdiv (se_callB (cs_len c) rfl (T.fr "len" rfl) PySem.boot_len (sa_cons (se_var (i := 6) rfl (vis_of rfl) rfl rfl) sa_nil rfl) (by decide) rfl rfl rfl) se_int) (sa_cons (se_callB (cs_len c) rfl (T.fr "len" rfl) PySem.boot_len (sa_cons (se_var (i := 6) rfl (vis_of rfl) rfl rfl) sa_nil rfl) (by decide) rfl rfl rfl) sa_nil rfl) rfl) rfl))) (sg_name (i := 8) S.nd rfl (loc_of rfl) (.inl rfl)) (sss_cons (ss_set (i := 9) S.nd rfl (loc_of rfl) (se_bm PySem.F.plainAttrs_str PySem.F.slot_str_join PySem.F.type_str_join (ms_join c.hK) (se_strL (by kernel_rfl)) (sa_cons (se_sl c.hK (se_bm PySem.F.plainAttrs_str PySem.F.slot_str_split PySem.F.type_str_split ms_split (se_var (i := 5) rfl (vis_of rfl) rfl rfl) (sa_cons (se_strL (by kernel_rfl)) sa_nil rfl) rfl rfl rfl rfl rfl) so_none (so_some (se_var (i := 8) rfl (vis_of rfl) rfl rfl))) sa_nil rfl) rfl rfl rfl rfl rfl) rfl (.inl rfl)) (sss_one (ss_if (st_not (st_tru c (se_call c (T.fn 30 (by decide)) rfl (T.gf 30 "_law_alike" rfl (by decide)) (sa_cons (se_call c (T.fn 20 (by decide)) rfl (T.gf 20 "read_layer" rfl (by decide)) (sa_cons (se_var (i := 9) rfl (vis_of rfl) rfl rfl) sa_nil rfl) rfl rfl rfl) (sa_cons (se_tup (sa_cons (se_sl c.hK (se_var (i := 6) rfl (vis_of rfl) rfl rfl) so_none (so_some (se_var (i := 8) rfl (vis_of rfl) rfl rfl))) (sa_cons (se_tup sa_nil) sa_nil rfl) rfl)) sa_nil rfl) rfl) rfl rfl rfl) (fun _ => rfl))) (sss_one (ss_ret se_bl)) sss_nil))) (fun _ => rfl)) (sss_one (ss_ret se_bl))))))))))
end
def fnL : List He.DefD := [⟨("BadLayer", some "__init__"), "__init__", "BadLayer.__init__", defArgs s0, defBody s0, defScope s0, [], []⟩,
  ⟨("is_name", none), "is_name", "is_name", defArgs s1, defBody s1, defScope s1, [], []⟩,
  ⟨("path_text", none), "path_text", "path_text", defArgs s2, defBody s2, defScope s2, [], []⟩,
  ⟨("path_in", none), "path_in", "path_in", defArgs s3, defBody s3, defScope s3, [], []⟩,
  ⟨("parent_of", none), "parent_of", "parent_of", defArgs s4, defBody s4, defScope s4, [], []⟩,
  ⟨("is_text", none), "is_text", "is_text", defArgs s5, defBody s5, defScope s5, [], []⟩,
  ⟨("entry_text", none), "entry_text", "entry_text", defArgs s6, defBody s6, defScope s6, [], []⟩,
  ⟨("pair_text", none), "pair_text", "pair_text", defArgs s7, defBody s7, defScope s7, [], []⟩,
  ⟨("layer_text", none), "layer_text", "layer_text", defArgs s8, defBody s8, defScope s8, [], []⟩,
  ⟨("file_number_in", none), "file_number_in", "file_number_in", defArgs s9, defBody s9, defScope s9, [], []⟩,
  ⟨("thing_path_in", none), "thing_path_in", "thing_path_in", defArgs s10, defBody s10, defScope s10, [], []⟩,
  ⟨("gone_path_in", none), "gone_path_in", "gone_path_in", defArgs s11, defBody s11, defScope s11, [], []⟩,
  ⟨("folder_entry_in", none), "folder_entry_in", "folder_entry_in", defArgs s12, defBody s12, defScope s12, [], []⟩,
  ⟨("entry_in", none), "entry_in", "entry_in", defArgs s13, defBody s13, defScope s13, [], []⟩,
  ⟨("pair_in", none), "pair_in", "pair_in", defArgs s14, defBody s14, defScope s14, [], []⟩,
  ⟨("LayerRows", some "__init__"), "__init__", "LayerRows.__init__", defArgs s15, defBody s15, defScope s15, [], []⟩,
  ⟨("LayerRows", some "take_entry"), "take_entry", "LayerRows.take_entry", defArgs s16, defBody s16, defScope s16, [], []⟩,
  ⟨("LayerRows", some "take_pair"), "take_pair", "LayerRows.take_pair", defArgs s17, defBody s17, defScope s17, [], []⟩,
  ⟨("LayerRows", some "take_row"), "take_row", "LayerRows.take_row", defArgs s18, defBody s18, defScope s18, [], []⟩,
  ⟨("LayerRows", some "is_whole"), "is_whole", "LayerRows.is_whole", defArgs s19, defBody s19, defScope s19, [], []⟩,
  ⟨("read_layer", none), "read_layer", "read_layer", defArgs s20, defBody s20, defScope s20, [], []⟩,
  ⟨("_law_box", none), "_law_box", "_law_box", defArgs s21, defBody s21, defScope s21, [], []⟩,
  ⟨("_law_take", none), "_law_take", "_law_take", defArgs s22, defBody s22, defScope s22, [], []⟩,
  ⟨("_law_word", none), "_law_word", "_law_word", defArgs s23, defBody s23, defScope s23, [], []⟩,
  ⟨("_law_text", none), "_law_text", "_law_text", defArgs s24, defBody s24, defScope s24, [], []⟩,
  ⟨("_law_any_path", none), "_law_any_path", "_law_any_path", defArgs s25, defBody s25, defScope s25, [], []⟩,
  ⟨("_law_new_file", none), "_law_new_file", "_law_new_file", defArgs s26, defBody s26, defScope s26, [], []⟩,
  ⟨("_law_grow", none), "_law_grow", "_law_grow", defArgs s27, defBody s27, defScope s27, [], []⟩,
  ⟨("_law_deep", none), "_law_deep", "_law_deep", defArgs s28, defBody s28, defScope s28, [], []⟩,
  ⟨("_law_layer", none), "_law_layer", "_law_layer", defArgs s29, defBody s29, defScope s29, [], []⟩,
  ⟨("_law_alike", none), "_law_alike", "_law_alike", defArgs s30, defBody s30, defScope s30, [], []⟩,
  ⟨("law", none), "law", "law", defArgs s31, defBody s31, defScope s31, [], []⟩]
def faL : List He.Fa := [.glo "is_name", .glo "path_text", .glo "path_in", .glo "parent_of", .glo "is_text", .glo "entry_text", .glo "pair_text", .glo "layer_text", .glo "file_number_in", .glo "thing_path_in", .glo "gone_path_in", .glo "folder_entry_in", .glo "entry_in", .glo "pair_in", .glo "read_layer", .glo "_law_box", .glo "_law_take", .glo "_law_word", .glo "_law_text", .glo "_law_any_path", .glo "_law_new_file", .glo "_law_grow", .glo "_law_deep", .glo "_law_layer", .glo "_law_alike", .glo "law", .glo "ShelfError", .glo "BadLayer", .glo "LayerRows", .free "abs", .free "all", .free "any", .free "bool", .free "enumerate", .free "int", .free "isinstance", .free "len", .free "list", .free "range", .free "reversed", .free "sorted", .free "str", .free "tuple", .free "zip", .int "MOST_LETTERS" 8, .int "MOST_NAMES" 8, .int "MOST_SIGNS" 200, .int "MOST_NUMBER" 199, .int "MOST_ENTRIES" 400, .int "MOST_FILES" 200, .str "FIGURES" "0123456789", .mkr "LayerRows"]
abbrev RR : PySem.W.OpenRow := PySem.W.OpenLaw.row PySem.Challenge.rw_overfold_k25_whole_written_and_read
abbrev hk : PySem.W.Hook := hookM 5 nm faL fnL
def ob (s : PySem.W.SharedT) : He.AlD × Bool := obsMG 5 nm faL fnL (HandSHeadRun.getT s)
theorem ob_eq (s : PySem.W.SharedT) : ob s = hk.obs s.abs := obsMG_eq (HandSHeadRun.getT_eq s)
def loose0 : List PySem.Str := [("is_name" : PySem.Str), ("path_text" : PySem.Str), ("path_in" : PySem.Str), ("parent_of" : PySem.Str), ("is_text" : PySem.Str), ("entry_text" : PySem.Str), ("pair_text" : PySem.Str), ("layer_text" : PySem.Str), ("file_number_in" : PySem.Str), ("thing_path_in" : PySem.Str), ("gone_path_in" : PySem.Str), ("folder_entry_in" : PySem.Str), ("entry_in" : PySem.Str), ("pair_in" : PySem.Str), ("read_layer" : PySem.Str), ("_law_box" : PySem.Str), ("_law_take" : PySem.Str), ("_law_word" : PySem.Str), ("_law_text" : PySem.Str), ("_law_any_path" : PySem.Str), ("_law_new_file" : PySem.Str), ("_law_grow" : PySem.Str), ("_law_deep" : PySem.Str), ("_law_layer" : PySem.Str), ("_law_alike" : PySem.Str), ("ShelfError" : PySem.Str), ("BadLayer" : PySem.Str), ("LayerRows" : PySem.Str), ("MOST_LETTERS" : PySem.Str), ("MOST_NAMES" : PySem.Str), ("MOST_SIGNS" : PySem.Str), ("MOST_NUMBER" : PySem.Str), ("MOST_ENTRIES" : PySem.Str), ("MOST_FILES" : PySem.Str), ("FIGURES" : PySem.Str)]
def loose : List PySem.Str := loose0
theorem run (w : World) : HandSHeadRun.RunEq RR (PySem.W.view RR.prog [39]) hk ob 40000 loose w := by
  intro os
  kernel_rfl
section
variable {P : Program} {w : World} {K : PySem.W.Frag} {mg : Str → Option Value} {base h : Heap}
theorem all_ok {h0 : NmOk nm K} (X : K.In h) (G : h.Ns mainGlobals mg) (c : He.SaysD faL fnL K) : ∀ k, TM (mkEn nm nmw K h0 P w) P w K mg base k (R k) lay (fadK K) tpL := by
  have gf : ∀ i (x : String), (lay.nms.map (·.1))[i]? = some x → x ≠ "" → mg (x : Str) = some (.ref (fadK K i)) := by
    intro i x hi hx
    match i, hi with
    | 0, hi => cases hi; exact absurd rfl hx
    | 1, hi => cases hi; exact He.glo_ok X G (c.fact 0 (f := .glo "is_name") rfl)
    | 2, hi => cases hi; exact He.glo_ok X G (c.fact 1 (f := .glo "path_text") rfl)
    | 3, hi => cases hi; exact He.glo_ok X G (c.fact 2 (f := .glo "path_in") rfl)
    | 4, hi => cases hi; exact He.glo_ok X G (c.fact 3 (f := .glo "parent_of") rfl)
    | 5, hi => cases hi; exact He.glo_ok X G (c.fact 4 (f := .glo "is_text") rfl)
    | 6, hi => cases hi; exact He.glo_ok X G (c.fact 5 (f := .glo "entry_text") rfl)
    | 7, hi => cases hi; exact He.glo_ok X G (c.fact 6 (f := .glo "pair_text") rfl)
    | 8, hi => cases hi; exact He.glo_ok X G (c.fact 7 (f := .glo "layer_text") rfl)
    | 9, hi => cases hi; exact He.glo_ok X G (c.fact 8 (f := .glo "file_number_in") rfl)
    | 10, hi => cases hi; exact He.glo_ok X G (c.fact 9 (f := .glo "thing_path_in") rfl)
    | 11, hi => cases hi; exact He.glo_ok X G (c.fact 10 (f := .glo "gone_path_in") rfl)
    | 12, hi => cases hi; exact He.glo_ok X G (c.fact 11 (f := .glo "folder_entry_in") rfl)
    | 13, hi => cases hi; exact He.glo_ok X G (c.fact 12 (f := .glo "entry_in") rfl)
    | 14, hi => cases hi; exact He.glo_ok X G (c.fact 13 (f := .glo "pair_in") rfl)
    | 15, hi => cases hi; exact absurd rfl hx
    | 16, hi => cases hi; exact absurd rfl hx
    | 17, hi => cases hi; exact absurd rfl hx
    | 18, hi => cases hi; exact absurd rfl hx
    | 19, hi => cases hi; exact absurd rfl hx
    | 20, hi => cases hi; exact He.glo_ok X G (c.fact 14 (f := .glo "read_layer") rfl)
    | 21, hi => cases hi; exact He.glo_ok X G (c.fact 15 (f := .glo "_law_box") rfl)
    | 22, hi => cases hi; exact He.glo_ok X G (c.fact 16 (f := .glo "_law_take") rfl)
    | 23, hi => cases hi; exact He.glo_ok X G (c.fact 17 (f := .glo "_law_word") rfl)
    | 24, hi => cases hi; exact He.glo_ok X G (c.fact 18 (f := .glo "_law_text") rfl)
    | 25, hi => cases hi; exact He.glo_ok X G (c.fact 19 (f := .glo "_law_any_path") rfl)
    | 26, hi => cases hi; exact He.glo_ok X G (c.fact 20 (f := .glo "_law_new_file") rfl)
    | 27, hi => cases hi; exact He.glo_ok X G (c.fact 21 (f := .glo "_law_grow") rfl)
    | 28, hi => cases hi; exact He.glo_ok X G (c.fact 22 (f := .glo "_law_deep") rfl)
    | 29, hi => cases hi; exact He.glo_ok X G (c.fact 23 (f := .glo "_law_layer") rfl)
    | 30, hi => cases hi; exact He.glo_ok X G (c.fact 24 (f := .glo "_law_alike") rfl)
    | 31, hi => cases hi; exact He.glo_ok X G (c.fact 25 (f := .glo "law") rfl)
    | i + 32, hi => cases hi
  have cl : ∀ (x : String) (c : Nat), lay.cL.contains (x, c) = true → mg (x : Str) = some (.ref ((mkEn nm nmw K h0 P w).cad c)) := by
    intro x c hx
    have hx := List.contains_iff_mem.mp hx
    unfold lay at hx
    dsimp only at hx
    simp only [List.mem_cons, List.not_mem_nil, or_false, Prod.mk.injEq] at hx
    rcases hx with ⟨rfl, rfl⟩ | ⟨rfl, rfl⟩ | ⟨rfl, rfl⟩
    · exact He.glo_ok X G (c.fact 26 (f := .glo "ShelfError") rfl)
    · exact He.glo_ok X G (c.fact 27 (f := .glo "BadLayer") rfl)
    · exact He.glo_ok X G (c.fact 28 (f := .glo "LayerRows") rfl)
  have fr : ∀ x : String, lay.frees.contains x = true → mg (x : Str) = none := by
    intro x hx
    have hx := List.contains_iff_mem.mp hx
    unfold lay at hx
    dsimp only at hx
    simp only [List.mem_cons, List.not_mem_nil, or_false, Prod.mk.injEq] at hx
    rcases hx with rfl | rfl | rfl | rfl | rfl | rfl | rfl | rfl | rfl | rfl | rfl | rfl | rfl | rfl | rfl
    · exact He.free_ok X G (c.fact 29 (f := .free "abs") rfl)
    · exact He.free_ok X G (c.fact 30 (f := .free "all") rfl)
    · exact He.free_ok X G (c.fact 31 (f := .free "any") rfl)
    · exact He.free_ok X G (c.fact 32 (f := .free "bool") rfl)
    · exact He.free_ok X G (c.fact 33 (f := .free "enumerate") rfl)
    · exact He.free_ok X G (c.fact 34 (f := .free "int") rfl)
    · exact He.free_ok X G (c.fact 35 (f := .free "isinstance") rfl)
    · exact He.free_ok X G (c.fact 36 (f := .free "len") rfl)
    · exact He.free_ok X G (c.fact 37 (f := .free "list") rfl)
    · exact He.free_ok X G (c.fact 38 (f := .free "range") rfl)
    · exact He.free_ok X G (c.fact 39 (f := .free "reversed") rfl)
    · exact He.free_ok X G (c.fact 40 (f := .free "sorted") rfl)
    · exact He.free_ok X G (c.fact 41 (f := .free "str") rfl)
    · exact He.free_ok X G (c.fact 42 (f := .free "tuple") rfl)
    · exact He.free_ok X G (c.fact 43 (f := .free "zip") rfl)
  have ci : ∀ (x : String) (i : Int), lay.iL.contains (x, i) = true → ∃ t, mg (x : Str) = some (.int i t) := by
    intro x i hx
    have hx := List.contains_iff_mem.mp hx
    unfold lay at hx
    dsimp only at hx
    simp only [List.mem_cons, List.not_mem_nil, or_false, Prod.mk.injEq] at hx
    rcases hx with ⟨rfl, rfl⟩ | ⟨rfl, rfl⟩ | ⟨rfl, rfl⟩ | ⟨rfl, rfl⟩ | ⟨rfl, rfl⟩ | ⟨rfl, rfl⟩
    · exact He.int_ok X G (c.fact 44 (f := .int "MOST_LETTERS" 8) rfl)
    · exact He.int_ok X G (c.fact 45 (f := .int "MOST_NAMES" 8) rfl)
    · exact He.int_ok X G (c.fact 46 (f := .int "MOST_SIGNS" 200) rfl)
    · exact He.int_ok X G (c.fact 47 (f := .int "MOST_NUMBER" 199) rfl)
    · exact He.int_ok X G (c.fact 48 (f := .int "MOST_ENTRIES" 400) rfl)
    · exact He.int_ok X G (c.fact 49 (f := .int "MOST_FILES" 200) rfl)
  have cs : ∀ (x z : String), lay.sL.contains (x, z) = true → ∃ t, mg (x : Str) = some (.str (z : Str) t) := by
    intro x z hx
    have hx := List.contains_iff_mem.mp hx
    unfold lay at hx
    dsimp only at hx
    simp only [List.mem_cons, List.not_mem_nil, or_false, Prod.mk.injEq] at hx
    rcases hx with ⟨rfl, rfl⟩
    · exact He.str_ok X G (c.fact 50 (f := .str "FIGURES" "0123456789") rfl)
  have ex : ∀ c, lay.xL.contains c = true → ExF K ((mkEn nm nmw K h0 P w).cad c) := by
    intro c hx
    have hx := List.contains_iff_mem.mp hx
    unfold lay at hx
    dsimp only at hx
    simp only [List.mem_cons, List.not_mem_nil, or_false, Prod.mk.injEq] at hx
  have tp : ∀ (x : String) (zs : List Str), (x, zs) ∈ tpL → ∃ a, mg (x : Str) = some (.ref a) ∧ ∀ H, SqT K H a (zs.map V.str) := fun x zs e => mkEn_tp h0 X G e
  have q14 : XiF K ((mkEn nm nmw K h0 P w).cad 14) (He.fAd K ("BadLayer", some "__init__")) "row" (He.ga K "ShelfError") := mkEn_xi (List.mem_of_getElem? (i := 0) rfl)
  have xin14 : XIn (mkEn nm nmw K h0 P w) P w K mg base 14 := by
    obtain ⟨fd, F⟩ := c.def_ 0 rfl
    exact xin_of rfl q14 F sc0 rfl (fun _ _ _ => rfl) (F.bindsN fun _ _ _ _ _ _ us hl => match us, hl with | [_, _, _], _ => rfl) (fun cdv A outer s H Ex => xw0 (cl "ShelfError" 0 rfl) q14 cdv A outer s H Ex)
  have xf : ∀ c, lay.xiL.contains c = true → XfI (mkEn nm nmw K h0 P w) K c := by
    intro c hx
    have hx := List.contains_iff_mem.mp hx
    unfold lay at hx
    dsimp only at hx
    simp only [List.mem_cons, List.not_mem_nil, or_false, Prod.mk.injEq] at hx
    rcases hx with rfl
    · exact ⟨q14.nof, q14.hd⟩
  have c0 := c
  intro k
  induction k with
  | zero =>
    refine ⟨fun i hi => ?_, gf, fr, ci, cs, cl, ?_, ex, tp, ?_, xf, ?_⟩
    rotate_left
    · intro c n hx
      have hx := List.contains_iff_mem.mp hx
      unfold lay at hx
      dsimp only at hx
      simp only [List.mem_cons, List.not_mem_nil, or_false, Prod.mk.injEq] at hx
      rcases hx with ⟨rfl, rfl⟩
      · exact .inl fun _ _ => rfl
    · intro c hx
      have hx := List.contains_iff_mem.mp hx
      unfold lay at hx
      dsimp only at hx
      simp only [List.mem_cons, List.not_mem_nil, or_false] at hx
      rcases hx with rfl
      · exact .inl fun _ _ => rfl
    · intro z i hx
      have hx := List.contains_iff_mem.mp hx
      unfold lay at hx
      dsimp only at hx
      simp only [List.mem_cons, List.not_mem_nil, or_false] at hx
    match i, hi with
    | 0, _ => obtain ⟨fd, F⟩ := c.def_ 0 rfl; exact cal_bad F (ps := ["self", "words", "row"]) (F.bindsN fun _ _ _ _ _ _ us hl => match us, hl with | [_, _, _], _ => rfl)
    | 1, _ => obtain ⟨fd, F⟩ := c.def_ 1 rfl; exact cal_bad F (ps := ["word"]) (F.bindsN fun _ _ _ _ _ _ us hl => match us, hl with | [_], _ => rfl)
    | 2, _ => obtain ⟨fd, F⟩ := c.def_ 2 rfl; exact cal_bad F (ps := ["path"]) (F.bindsN fun _ _ _ _ _ _ us hl => match us, hl with | [_], _ => rfl)
    | 3, _ => obtain ⟨fd, F⟩ := c.def_ 3 rfl; exact cal_bad F (ps := ["text"]) (F.bindsN fun _ _ _ _ _ _ us hl => match us, hl with | [_], _ => rfl)
    | 4, _ => obtain ⟨fd, F⟩ := c.def_ 4 rfl; exact cal_bad F (ps := ["path"]) (F.bindsN fun _ _ _ _ _ _ us hl => match us, hl with | [_], _ => rfl)
    | 5, _ => obtain ⟨fd, F⟩ := c.def_ 5 rfl; exact cal_bad F (ps := ["text"]) (F.bindsN fun _ _ _ _ _ _ us hl => match us, hl with | [_], _ => rfl)
    | 6, _ => obtain ⟨fd, F⟩ := c.def_ 6 rfl; exact cal_bad F (ps := ["entry"]) (F.bindsN fun _ _ _ _ _ _ us hl => match us, hl with | [_], _ => rfl)
    | 7, _ => obtain ⟨fd, F⟩ := c.def_ 7 rfl; exact cal_bad F (ps := ["pair"]) (F.bindsN fun _ _ _ _ _ _ us hl => match us, hl with | [_], _ => rfl)
    | 8, _ => obtain ⟨fd, F⟩ := c.def_ 8 rfl; exact cal_bad F (ps := ["layer"]) (F.bindsN fun _ _ _ _ _ _ us hl => match us, hl with | [_], _ => rfl)
    | 9, _ => obtain ⟨fd, F⟩ := c.def_ 9 rfl; exact cal_bad F (ps := ["word"]) (F.bindsN fun _ _ _ _ _ _ us hl => match us, hl with | [_], _ => rfl)
    | 10, _ => obtain ⟨fd, F⟩ := c.def_ 10 rfl; exact cal_bad F (ps := ["word"]) (F.bindsN fun _ _ _ _ _ _ us hl => match us, hl with | [_], _ => rfl)
    | 11, _ => obtain ⟨fd, F⟩ := c.def_ 11 rfl; exact cal_bad F (ps := ["word"]) (F.bindsN fun _ _ _ _ _ _ us hl => match us, hl with | [_], _ => rfl)
    | 12, _ => obtain ⟨fd, F⟩ := c.def_ 12 rfl; exact cal_bad F (ps := ["path", "words"]) (F.bindsN fun _ _ _ _ _ _ us hl => match us, hl with | [_, _], _ => rfl)
    | 13, _ => obtain ⟨fd, F⟩ := c.def_ 13 rfl; exact cal_bad F (ps := ["row"]) (F.bindsN fun _ _ _ _ _ _ us hl => match us, hl with | [_], _ => rfl)
    | 14, _ => obtain ⟨fd, F⟩ := c.def_ 14 rfl; exact cal_bad F (ps := ["row"]) (F.bindsN fun _ _ _ _ _ _ us hl => match us, hl with | [_], _ => rfl)
    | 15, _ => obtain ⟨fd, F⟩ := c.def_ 15 rfl; exact cal_bad F (ps := ["self"]) (F.bindsN fun _ _ _ _ _ _ us hl => match us, hl with | [_], _ => rfl)
    | 16, _ => obtain ⟨fd, F⟩ := c.def_ 16 rfl; exact cal_bad F (ps := ["self", "entry"]) (F.bindsN fun _ _ _ _ _ _ us hl => match us, hl with | [_, _], _ => rfl)
    | 17, _ => obtain ⟨fd, F⟩ := c.def_ 17 rfl; exact cal_bad F (ps := ["self", "pair"]) (F.bindsN fun _ _ _ _ _ _ us hl => match us, hl with | [_, _], _ => rfl)
    | 18, _ => obtain ⟨fd, F⟩ := c.def_ 18 rfl; exact cal_bad F (ps := ["self", "row"]) (F.bindsN fun _ _ _ _ _ _ us hl => match us, hl with | [_, _], _ => rfl)
    | 19, _ => obtain ⟨fd, F⟩ := c.def_ 19 rfl; exact cal_bad F (ps := ["self"]) (F.bindsN fun _ _ _ _ _ _ us hl => match us, hl with | [_], _ => rfl)
    | 20, _ => obtain ⟨fd, F⟩ := c.def_ 20 rfl; exact cal_bad F (ps := ["text"]) (F.bindsN fun _ _ _ _ _ _ us hl => match us, hl with | [_], _ => rfl)
    | 21, _ => obtain ⟨fd, F⟩ := c.def_ 21 rfl; exact cal_bad F (ps := ["_law_script", "_law_k"]) (F.bindsN fun _ _ _ _ _ _ us hl => match us, hl with | [_, _], _ => rfl)
    | 22, _ => obtain ⟨fd, F⟩ := c.def_ 22 rfl; exact cal_bad F (ps := ["_law_box_here", "_law_many"]) (F.bindsN fun _ _ _ _ _ _ us hl => match us, hl with | [_, _], _ => rfl)
    | 23, _ => obtain ⟨fd, F⟩ := c.def_ 23 rfl; exact cal_bad F (ps := ["_law_box_here"]) (F.bindsN fun _ _ _ _ _ _ us hl => match us, hl with | [_], _ => rfl)
    | 24, _ => obtain ⟨fd, F⟩ := c.def_ 24 rfl; exact cal_bad F (ps := ["_law_box_here"]) (F.bindsN fun _ _ _ _ _ _ us hl => match us, hl with | [_], _ => rfl)
    | 25, _ => obtain ⟨fd, F⟩ := c.def_ 25 rfl; exact cal_bad F (ps := ["_law_box_here"]) (F.bindsN fun _ _ _ _ _ _ us hl => match us, hl with | [_], _ => rfl)
    | 26, _ => obtain ⟨fd, F⟩ := c.def_ 26 rfl; exact cal_bad F (ps := ["_law_box_here", "_law_pairs"]) (F.bindsN fun _ _ _ _ _ _ us hl => match us, hl with | [_, _], _ => rfl)
    | 27, _ => obtain ⟨fd, F⟩ := c.def_ 27 rfl; exact cal_bad F (ps := ["_law_box_here", "_law_rows", "_law_pairs", "_law_folders"]) (F.bindsN fun _ _ _ _ _ _ us hl => match us, hl with | [_, _, _, _], _ => rfl)
    | 28, _ => obtain ⟨fd, F⟩ := c.def_ 28 rfl; exact cal_bad F (ps := ["_law_rows", "_law_name"]) (F.bindsN fun _ _ _ _ _ _ us hl => match us, hl with | [_, _], _ => rfl)
    | 29, _ => obtain ⟨fd, F⟩ := c.def_ 29 rfl; exact cal_bad F (ps := ["_law_script"]) (F.bindsN fun _ _ _ _ _ _ us hl => match us, hl with | [_], _ => rfl)
    | 30, _ => obtain ⟨fd, F⟩ := c.def_ 30 rfl; exact cal_bad F (ps := ["_law_found", "_law_due"]) (F.bindsN fun _ _ _ _ _ _ us hl => match us, hl with | [_, _], _ => rfl)
    | 31, _ => obtain ⟨fd, F⟩ := c.def_ 31 rfl; exact cal_bad F (ps := ["_law_script"]) (F.bindsN fun _ _ _ _ _ _ us hl => match us, hl with | [_], _ => rfl)
    | i + 32, hi => exact absurd hi (by show ¬ (i + 32 < 32); omega)
  | succ k ih =>
    refine ⟨fun i hi => ?_, gf, fr, ci, cs, cl, ?_, ex, tp, ?_, xf, ?_⟩
    rotate_left
    · intro c n hx
      have hx := List.contains_iff_mem.mp hx
      unfold lay at hx
      dsimp only at hx
      simp only [List.mem_cons, List.not_mem_nil, or_false, Prod.mk.injEq] at hx
      rcases hx with ⟨rfl, rfl⟩
      · exact .inr ⟨k, _, _, rfl, He.mkr_ok (c0.fact 51 (f := .mkr "LayerRows") rfl), ih.fn 15 (by decide), rfl⟩
    · intro c hx
      have hx := List.contains_iff_mem.mp hx
      unfold lay at hx
      dsimp only at hx
      simp only [List.mem_cons, List.not_mem_nil, or_false] at hx
      rcases hx with rfl
      · exact (match k with | 0 => .inl fun _ _ => rfl | k' + 1 => .inr ⟨k', rfl, rfl, xin14⟩)
    · intro z i hx
      have hx := List.contains_iff_mem.mp hx
      unfold lay at hx
      dsimp only at hx
      simp only [List.mem_cons, List.not_mem_nil, or_false] at hx
    match i, hi with
    | 0, _ => obtain ⟨fd, F⟩ := c.def_ 0 rfl; exact cal_of rfl (ps := ["self", "words", "row"]) rfl F sc0 (F.bindsN fun _ _ _ _ _ _ us hl => match us, hl with | [_, _, _], _ => rfl) (fun cdv A outer s H Ex cc => w0 ih cdv A outer s H Ex cc)
    | 1, _ => obtain ⟨fd, F⟩ := c.def_ 1 rfl; exact cal_of rfl (ps := ["word"]) rfl F sc1 (F.bindsN fun _ _ _ _ _ _ us hl => match us, hl with | [_], _ => rfl) (fun cdv A outer s H Ex cc => w1 ih cdv A outer s H Ex cc)
    | 2, _ => obtain ⟨fd, F⟩ := c.def_ 2 rfl; exact cal_of rfl (ps := ["path"]) rfl F sc2 (F.bindsN fun _ _ _ _ _ _ us hl => match us, hl with | [_], _ => rfl) (fun cdv A outer s H Ex cc => w2 ih cdv A outer s H Ex cc)
    | 3, _ => obtain ⟨fd, F⟩ := c.def_ 3 rfl; exact cal_of rfl (ps := ["text"]) rfl F sc3 (F.bindsN fun _ _ _ _ _ _ us hl => match us, hl with | [_], _ => rfl) (fun cdv A outer s H Ex cc => w3 ih cdv A outer s H Ex cc)
    | 4, _ => obtain ⟨fd, F⟩ := c.def_ 4 rfl; exact cal_of rfl (ps := ["path"]) rfl F sc4 (F.bindsN fun _ _ _ _ _ _ us hl => match us, hl with | [_], _ => rfl) (fun cdv A outer s H Ex cc => w4 ih cdv A outer s H Ex cc)
    | 5, _ => obtain ⟨fd, F⟩ := c.def_ 5 rfl; exact cal_of rfl (ps := ["text"]) rfl F sc5 (F.bindsN fun _ _ _ _ _ _ us hl => match us, hl with | [_], _ => rfl) (fun cdv A outer s H Ex cc => w5 ih cdv A outer s H Ex cc)
    | 6, _ => obtain ⟨fd, F⟩ := c.def_ 6 rfl; exact cal_of rfl (ps := ["entry"]) rfl F sc6 (F.bindsN fun _ _ _ _ _ _ us hl => match us, hl with | [_], _ => rfl) (fun cdv A outer s H Ex cc => w6 ih cdv A outer s H Ex cc)
    | 7, _ => obtain ⟨fd, F⟩ := c.def_ 7 rfl; exact cal_of rfl (ps := ["pair"]) rfl F sc7 (F.bindsN fun _ _ _ _ _ _ us hl => match us, hl with | [_], _ => rfl) (fun cdv A outer s H Ex cc => w7 ih cdv A outer s H Ex cc)
    | 8, _ => obtain ⟨fd, F⟩ := c.def_ 8 rfl; exact cal_of rfl (ps := ["layer"]) rfl F sc8 (F.bindsN fun _ _ _ _ _ _ us hl => match us, hl with | [_], _ => rfl) (fun cdv A outer s H Ex cc => w8 ih cdv A outer s H Ex cc)
    | 9, _ => obtain ⟨fd, F⟩ := c.def_ 9 rfl; exact cal_of rfl (ps := ["word"]) rfl F sc9 (F.bindsN fun _ _ _ _ _ _ us hl => match us, hl with | [_], _ => rfl) (fun cdv A outer s H Ex cc => w9 ih cdv A outer s H Ex cc)
    | 10, _ => obtain ⟨fd, F⟩ := c.def_ 10 rfl; exact cal_of rfl (ps := ["word"]) rfl F sc10 (F.bindsN fun _ _ _ _ _ _ us hl => match us, hl with | [_], _ => rfl) (fun cdv A outer s H Ex cc => w10 ih cdv A outer s H Ex cc)
    | 11, _ => obtain ⟨fd, F⟩ := c.def_ 11 rfl; exact cal_of rfl (ps := ["word"]) rfl F sc11 (F.bindsN fun _ _ _ _ _ _ us hl => match us, hl with | [_], _ => rfl) (fun cdv A outer s H Ex cc => w11 ih cdv A outer s H Ex cc)
    | 12, _ => obtain ⟨fd, F⟩ := c.def_ 12 rfl; exact cal_of rfl (ps := ["path", "words"]) rfl F sc12 (F.bindsN fun _ _ _ _ _ _ us hl => match us, hl with | [_, _], _ => rfl) (fun cdv A outer s H Ex cc => w12 ih cdv A outer s H Ex cc)
    | 13, _ => obtain ⟨fd, F⟩ := c.def_ 13 rfl; exact cal_of rfl (ps := ["row"]) rfl F sc13 (F.bindsN fun _ _ _ _ _ _ us hl => match us, hl with | [_], _ => rfl) (fun cdv A outer s H Ex cc => w13 ih cdv A outer s H Ex cc)
    | 14, _ => obtain ⟨fd, F⟩ := c.def_ 14 rfl; exact cal_of rfl (ps := ["row"]) rfl F sc14 (F.bindsN fun _ _ _ _ _ _ us hl => match us, hl with | [_], _ => rfl) (fun cdv A outer s H Ex cc => w14 ih cdv A outer s H Ex cc)
    | 15, _ => obtain ⟨fd, F⟩ := c.def_ 15 rfl; exact cal_of rfl (ps := ["self"]) rfl F sc15 (F.bindsN fun _ _ _ _ _ _ us hl => match us, hl with | [_], _ => rfl) (fun cdv A outer s H Ex cc => w15 ih cdv A outer s H Ex cc)
    | 16, _ => obtain ⟨fd, F⟩ := c.def_ 16 rfl; exact cal_of rfl (ps := ["self", "entry"]) rfl F sc16 (F.bindsN fun _ _ _ _ _ _ us hl => match us, hl with | [_, _], _ => rfl) (fun cdv A outer s H Ex cc => w16 ih cdv A outer s H Ex cc)
    | 17, _ => obtain ⟨fd, F⟩ := c.def_ 17 rfl; exact cal_of rfl (ps := ["self", "pair"]) rfl F sc17 (F.bindsN fun _ _ _ _ _ _ us hl => match us, hl with | [_, _], _ => rfl) (fun cdv A outer s H Ex cc => w17 ih cdv A outer s H Ex cc)
    | 18, _ => obtain ⟨fd, F⟩ := c.def_ 18 rfl; exact cal_of rfl (ps := ["self", "row"]) rfl F sc18 (F.bindsN fun _ _ _ _ _ _ us hl => match us, hl with | [_, _], _ => rfl) (fun cdv A outer s H Ex cc => w18 ih cdv A outer s H Ex cc)
    | 19, _ => obtain ⟨fd, F⟩ := c.def_ 19 rfl; exact cal_of rfl (ps := ["self"]) rfl F sc19 (F.bindsN fun _ _ _ _ _ _ us hl => match us, hl with | [_], _ => rfl) (fun cdv A outer s H Ex cc => w19 ih cdv A outer s H Ex cc)
    | 20, _ => obtain ⟨fd, F⟩ := c.def_ 20 rfl; exact cal_of rfl (ps := ["text"]) rfl F sc20 (F.bindsN fun _ _ _ _ _ _ us hl => match us, hl with | [_], _ => rfl) (fun cdv A outer s H Ex cc => w20 ih cdv A outer s H Ex cc)
    | 21, _ => obtain ⟨fd, F⟩ := c.def_ 21 rfl; exact cal_of rfl (ps := ["_law_script", "_law_k"]) rfl F sc21 (F.bindsN fun _ _ _ _ _ _ us hl => match us, hl with | [_, _], _ => rfl) (fun cdv A outer s H Ex cc => w21 ih cdv A outer s H Ex cc)
    | 22, _ => obtain ⟨fd, F⟩ := c.def_ 22 rfl; exact cal_of rfl (ps := ["_law_box_here", "_law_many"]) rfl F sc22 (F.bindsN fun _ _ _ _ _ _ us hl => match us, hl with | [_, _], _ => rfl) (fun cdv A outer s H Ex cc => w22 ih cdv A outer s H Ex cc)
    | 23, _ => obtain ⟨fd, F⟩ := c.def_ 23 rfl; exact cal_of rfl (ps := ["_law_box_here"]) rfl F sc23 (F.bindsN fun _ _ _ _ _ _ us hl => match us, hl with | [_], _ => rfl) (fun cdv A outer s H Ex cc => w23 ih cdv A outer s H Ex cc)
    | 24, _ => obtain ⟨fd, F⟩ := c.def_ 24 rfl; exact cal_of rfl (ps := ["_law_box_here"]) rfl F sc24 (F.bindsN fun _ _ _ _ _ _ us hl => match us, hl with | [_], _ => rfl) (fun cdv A outer s H Ex cc => w24 ih cdv A outer s H Ex cc)
    | 25, _ => obtain ⟨fd, F⟩ := c.def_ 25 rfl; exact cal_of rfl (ps := ["_law_box_here"]) rfl F sc25 (F.bindsN fun _ _ _ _ _ _ us hl => match us, hl with | [_], _ => rfl) (fun cdv A outer s H Ex cc => w25 ih cdv A outer s H Ex cc)
    | 26, _ => obtain ⟨fd, F⟩ := c.def_ 26 rfl; exact cal_of rfl (ps := ["_law_box_here", "_law_pairs"]) rfl F sc26 (F.bindsN fun _ _ _ _ _ _ us hl => match us, hl with | [_, _], _ => rfl) (fun cdv A outer s H Ex cc => w26 ih cdv A outer s H Ex cc)
    | 27, _ => obtain ⟨fd, F⟩ := c.def_ 27 rfl; exact cal_of rfl (ps := ["_law_box_here", "_law_rows", "_law_pairs", "_law_folders"]) rfl F sc27 (F.bindsN fun _ _ _ _ _ _ us hl => match us, hl with | [_, _, _, _], _ => rfl) (fun cdv A outer s H Ex cc => w27 ih cdv A outer s H Ex cc)
    | 28, _ => obtain ⟨fd, F⟩ := c.def_ 28 rfl; exact cal_of rfl (ps := ["_law_rows", "_law_name"]) rfl F sc28 (F.bindsN fun _ _ _ _ _ _ us hl => match us, hl with | [_, _], _ => rfl) (fun cdv A outer s H Ex cc => w28 ih cdv A outer s H Ex cc)
    | 29, _ => obtain ⟨fd, F⟩ := c.def_ 29 rfl; exact cal_of rfl (ps := ["_law_script"]) rfl F sc29 (F.bindsN fun _ _ _ _ _ _ us hl => match us, hl with | [_], _ => rfl) (fun cdv A outer s H Ex cc => w29 ih cdv A outer s H Ex cc)
    | 30, _ => obtain ⟨fd, F⟩ := c.def_ 30 rfl; exact cal_of rfl (ps := ["_law_found", "_law_due"]) rfl F sc30 (F.bindsN fun _ _ _ _ _ _ us hl => match us, hl with | [_, _], _ => rfl) (fun cdv A outer s H Ex cc => w30 ih cdv A outer s H Ex cc)
    | 31, _ => obtain ⟨fd, F⟩ := c.def_ 31 rfl; exact cal_of rfl (ps := ["_law_script"]) rfl F sc31 (F.bindsN fun _ _ _ _ _ _ us hl => match us, hl with | [_], _ => rfl) (fun cdv A outer s H Ex cc => w31 ih cdv A outer s H Ex cc)
    | i + 32, hi => exact absurd hi (by show ¬ (i + 32 < 32); omega)
end
theorem facts (htrue : ∀ ns : List Int, ns.length ≤ 63 → ∃ A', R 40 7 [scriptV ns] [] = .ok (.bl true) A') {P : Program} {w : World} {K : PySem.W.Frag} {h : Heap} {mg : Str → Option Value} {f : Addr} (X : K.In h) (G : h.Ns mainGlobals mg) (hfa : mg ("law" : Str) = some (.ref f)) (c : He.SaysD faL fnL K) (h0 : NmOk nm K) :
    ∃ (fd : FuncData) (sp : Sp), (∀ (s : Shared) (u : Value), BindsTo s fd ⟨[u], []⟩ [("_law_script", u)]) ∧
      (∀ (H : Hp) (a : Addr) (ns : List Int), ns.length ≤ 63 → Only H → SqL K H a (ns.map V.int) → sp [.ref a] H (fun v _ => v = .bl true) fun _ _ _ => False) ∧
      ∀ base : Heap, K.In base → base.Ns mainGlobals mg → FnOk P w K mg base (fun _ _ _ _ _ _ => False) 40 f fd ["_law_script"] sp := by
  obtain ⟨fd, F⟩ := c.def_ 31 rfl
  have hf : f = fadK K 31 := by
    have e := hfa.symm.trans ((all_ok (h0 := h0) (P := P) (w := w) (base := h) X G c 0).gf 31 "law" rfl (by decide))
    cases e
    rfl
  subst hf
  have b := FunD.bindsA (ps := ["_law_script"]) F fun _ _ _ _ _ _ us hl => match us, hl with | [_], _ => rfl
  refine ⟨fd, fun vs H Q _ => spOf (mkEn nm nmw K h0 P w) 1 (R 40 7) vs H Q fun _ _ _ => False, fun s v => b s [v] rfl, fun H a ns hl hO hS => sp_law rfl hO hS (htrue ns hl), fun base X2 G2 => ?_⟩
  have T := all_ok (h0 := h0) (P := P) (w := w) (base := base) X G c 39
  exact fn_cx0 (fn_at (E := mkEn nm nmw K h0 P w) rfl (ps := ["_law_script"]) rfl F sc31 (fun cdv A outer s H Ex cc => w31 T cdv A outer s H Ex cc))
end Law
open PySem PySem.W PySem.Calls PyProof.Rows
theorem holds_of (htrue : ∀ ns : List Int, ns.length ≤ 63 → ∃ A', Law.R 40 7 [Ev.scriptV ns] [] = .ok (.bl true) A') : PySem.Challenge.rw_overfold_k25_whole_written_and_read.Holds := by
  w_on; o_law
  refine HandSHeadRun.head_any (r := OpenLaw.row PySem.Challenge.rw_overfold_k25_whole_written_and_read) (q := view (OpenLaw.row PySem.Challenge.rw_overfold_k25_whole_written_and_read).prog [39]) (H := Law.hk) (ob := Law.ob) (M := 40000) (loose := Law.loose) (d := HandSHeadRun.topDef (OpenLaw.row PySem.Challenge.rw_overfold_k25_whole_written_and_read).prog 39) (kwd := []) Law.ob_eq
    (by kernel_rfl) (fun s => by kernel_rfl) Law.run (by kernel_rfl) (by kernel_rfl) (by kernel_rfl) (by rfl) (by first | assumption | decide +kernel) (by decide +kernel) ⟨rfl, rfl, rfl, rfl, rfl, by decide +kernel⟩ ?hw ?hc
  case hw => w_witness2
  case hc =>
    refine L2.walk_ofE (l := PySem.Challenge.rw_overfold_k25_whole_written_and_read) (n := 63) (k := 40) (x := "_law_script") (CX := fun _ _ _ _ _ _ => False) rfl (by decide) (by kernel_rfl) ⟨rfl, by decide, by decide⟩ ?F (fun _ _ _ _ z => z)
    intro w mg fa h Y G hmg0
    obtain ⟨K, KX, c, h0⟩ := Y
    have hmg : mg ("law" : PySem.Str) = some (.ref fa) := by
      have e : (HandSHeadRun.topDef (OpenLaw.row PySem.Challenge.rw_overfold_k25_whole_written_and_read).prog 39).name = ("law" : PySem.Str) := by kernel_rfl
      rw [← e]
      exact hmg0
    obtain ⟨fd, sp, hb, h1, hF⟩ := Law.facts htrue (P := (PySem.Challenge.rw_overfold_k25_whole_written_and_read).prog) (w := w) KX G hmg c h0
    exact ⟨K, fd, sp, KX, hb, h1, hF⟩
end
section
namespace Law
open PySem PySem.Spec L2 Ev
set_option autoImplicit false
/-! the layer laws' draws -/
theorem succ_of {k n : Nat} (h : n + 1 ≤ k) : ∃ j, k = j + 1 ∧ n ≤ j := ⟨k - 1, by omega, by omega⟩
theorem fr_wide {l : List Nat} {A B : AHp} (h : Fr [] A B) : Fr l A B := ⟨h.1, fun m hm _ => h.2 m hm (by simp)⟩
def boxO (a x y : Int) : AO := .lst [.int a, .int x, .int y] false
abbrev S3 := Int × Int × Int
def Box (A : AHp) (b : Nat) (c : Int) (s : S3) : Prop := gt A b = some (boxO s.1 s.2.1 s.2.2) ∧ 0 ≤ s.1 ∧ 0 ≤ s.2.1 ∧ s.2.1 < 2147483647 ∧ 0 ≤ s.2.2 ∧ s.2.2 ≤ c
theorem Box.fr {A B : AHp} {b : Nat} {c : Int} {s : S3} (h : Box A b c s) {l : List Nat} (k : Fr l A B) (hb : b ∉ l) : Box B b c s := ⟨k.gt h.1 hb, h.2⟩
theorem Box.mono {A : AHp} {b : Nat} {c c' : Int} {s : S3} (h : Box A b c s) (k : c ≤ c') : Box A b c' s := by
  obtain ⟨h1, h2, h3, h4, h5, h6⟩ := h
  exact ⟨h1, h2, h3, h4, h5, by omega⟩
theorem Box.lt {A : AHp} {b : Nat} {c : Int} {s : S3} (h : Box A b c s) : b < A.length := gt_lt h.1
/-- a draw -/
def tkF (s : S3) (m : Int) : Int × S3 := if 0 < s.1 then (s.1 % m, s.1 / m, s.2.1, s.2.2) else
  ((((s.2.1 + 39373 * (s.2.2 + 1)) * (48271 + (s.2.2 + 1)) % 2147483647) * (((s.2.1 + 39373 * (s.2.2 + 1)) * (48271 + (s.2.2 + 1)) % 2147483647) % 40009 + 7) + (s.2.2 + 1)) % 2147483629 * (((((s.2.1 + 39373 * (s.2.2 + 1)) * (48271 + (s.2.2 + 1)) % 2147483647) * (((s.2.1 + 39373 * (s.2.2 + 1)) * (48271 + (s.2.2 + 1)) % 2147483647) % 40009 + 7) + (s.2.2 + 1)) % 2147483629) % 1009 + 3) % 998244353 / 7 % m,
    s.1, (((s.2.1 + 39373 * (s.2.2 + 1)) * (48271 + (s.2.2 + 1)) % 2147483647) * (((s.2.1 + 39373 * (s.2.2 + 1)) * (48271 + (s.2.2 + 1)) % 2147483647) % 40009 + 7) + (s.2.2 + 1)) % 2147483629, s.2.2 + 1)
/-- n draws of a kind, one behind the other -/
def itF {α : Type} (f : Nat → S3 → α × S3) : Nat → S3 → List α × S3
  | 0, s => ([], s)
  | n + 1, s => ((itF f n s).1 ++ [(f n (itF f n s).2).1], (f n (itF f n s).2).2)
theorem itF_len {α : Type} (f : Nat → S3 → α × S3) : ∀ (n : Nat) (s : S3), (itF f n s).1.length = n
  | 0, _ => rfl
  | n + 1, s => by rw [itF]; simp [itF_len f n s]
theorem abs_I (i : Int) (A : AHp) : fAbs [.int i] A = some (.int i.natAbs, A) := by
  show some (AV.int (if i < 0 then -i else i), A) = _
  have : (if i < 0 then -i else i) = (i.natAbs : Int) := by split <;> omega
  rw [this]
theorem ix30 : ixN 3 0 = some 0 := by decide
theorem ix31 : ixN 3 1 = some 1 := by decide
theorem ix32 : ixN 3 2 = some 2 := by decide
/-- a script: the law's own, or a list -/
def ScV (A : AHp) (v : AV) (ns : List Int) : Prop := v = .kl (ns.map .int) ∨ ∃ j, v = .ref j ∧ gt A j = some (.lst (ns.map .int) false)
theorem ScV.fr {A B : AHp} {v : AV} {ns : List Int} (h : ScV A v ns) (hF : Fr [] A B) : ScV B v ns := by
  rcases h with h | ⟨j, h1, h2⟩
  · exact .inl h
  · exact .inr ⟨j, h1, hF.gt h2 (by simp)⟩
theorem ScV.len {A : AHp} {v : AV} {ns : List Int} (h : ScV A v ns) : fLen [v] A = some (.int ns.length, A) := by
  rcases h with rfl | ⟨j, rfl, h2⟩
  · simp
  · simp [h2]
theorem ScV.ix {A : AHp} {v : AV} {ns : List Int} (h : ScV A v ns) (i : Int) : pIx v (.int i) A = (atI ns i).map fun x => (.int x, A) := by
  rcases h with rfl | ⟨j, rfl, h2⟩
  · simp [atI_map]
    rfl
  · simp [h2, atI_map]
    rfl
section
variable {k : Nat} {A : AHp} {b : Nat} {c : Int} {s : S3}
theorem take_R (hk : 1 ≤ k) (h : Box A b c s) (hc : c ≤ 1000000) {m : Int} (hm : 0 < m) (hm2 : m ≤ 100000) : ∃ i A' s', R k 95 [.ref b, .int m] A = .ok (.int i) A' ∧ 0 ≤ i ∧ i < m ∧ Box A' b (c + 1) s' ∧ Fr [b] A A' ∧ tkF s m = (i, s') := by
  obtain ⟨k, rfl, hk⟩ := succ_of hk
  obtain ⟨a, x, y⟩ := s
  obtain ⟨h1, h2, h3, h4, h5, h6⟩ := h
  dsimp only at h1 h2 h3 h4 h5 h6
  have hb := gt_lt h1
  rw [R95]
  have main : ∃ i s', runBody (f95_0 (R k)) 4 [.ref b, .int m] A = .ok (.int i) (A.set b (boxO s'.1 s'.2.1 s'.2.2)) ∧ 0 ≤ i ∧ i < m ∧ 0 ≤ s'.1 ∧ 0 ≤ s'.2.1 ∧ s'.2.1 < 2147483647 ∧ 0 ≤ s'.2.2 ∧ s'.2.2 ≤ c + 1 ∧ tkF (a, x, y) m = (i, s') := by
    by_cases ha : 0 < a
    · refine ⟨a % m, (a / m, x, y), ?_, Int.emod_nonneg _ (by omega), Int.emod_lt_of_pos _ hm, Int.ediv_nonneg (by omega) (by omega), h3, h4, h5, by dsimp only; omega, by unfold tkF; rw [if_pos ha]⟩
      simp (disch := omega) [runBody_eq, f95_0, h1, boxO, ha, ix30]
    · refine ⟨_, _, ?_, ?_, ?_, ?_, ?_, ?_, ?_, ?_, by unfold tkF; rw [if_neg ha]⟩
      · obtain ⟨y1, hy1⟩ : ∃ y1, y1 = y + 1 := ⟨_, rfl⟩
        dsimp only
        rw [← hy1]
        obtain ⟨on, hon⟩ : ∃ on, on = (x + 39373 * y1) * (48271 + y1) % 2147483647 := ⟨_, rfl⟩
        have on0 : 0 ≤ on := by rw [hon]; exact Int.emod_nonneg _ (by omega)
        have on1 : on < 2147483647 := by rw [hon]; exact Int.emod_lt_of_pos _ (by omega)
        rw [← hon]
        obtain ⟨xn, hxn⟩ : ∃ xn, xn = (on * (on % 40009 + 7) + y1) % 2147483629 := ⟨_, rfl⟩
        have xn0 : 0 ≤ xn := by rw [hxn]; exact Int.emod_nonneg _ (by omega)
        have xn1 : xn < 2147483629 := by rw [hxn]; exact Int.emod_lt_of_pos _ (by omega)
        rw [← hxn]
        simp (disch := omega) [runBody_eq, f95_0, h1, boxO, ha, ix30, ix31, ix32, hb, ← hy1, ← hon, ← hxn]
      · exact Int.emod_nonneg _ (by omega)
      · exact Int.emod_lt_of_pos _ hm
      · exact h2
      · exact Int.emod_nonneg _ (by omega)
      · have := Int.emod_lt_of_pos ((((x + 39373 * (y + 1)) * (48271 + (y + 1)) % 2147483647) * (((x + 39373 * (y + 1)) * (48271 + (y + 1)) % 2147483647) % 40009 + 7) + (y + 1))) (show (0 : Int) < 2147483629 by omega)
        dsimp only
        omega
      · dsimp only; omega
      · dsimp only; omega
  obtain ⟨i, s', e, g1, g2, g3, g4, g5, g6, g7, g8⟩ := main
  exact ⟨i, _, s', e, g1, g2, ⟨gt_set hb, g3, g4, g5, g6, g7⟩, Fr.set (by simp), g8⟩
def boxF (ns : List Int) (i : Int) : S3 := match atI ns i with
  | some x => if i < ns.length ∧ (1000000000000000000 : Int) ≤ (x.natAbs : Int) then ((x.natAbs : Int), (x % 2147483647 + 7919 * i + 11) * 48271 % 2147483629, 0) else (0, (x % 2147483647 + 7919 * i + 11) * 48271 % 2147483629, 0)
  | none => (0, (0 % 2147483647 + 7919 * i + 11) * 48271 % 2147483629, 0)
theorem box20 (hk : 1 ≤ k) (A : AHp) {v : AV} {ns : List Int} (hs : ScV A v ns) (i : Int) (h0 : 0 ≤ i) : ∃ j A', R k 94 [v, .int i] A = .ok (.ref j) A' ∧ Box A' j 0 (boxF ns i) ∧ A.length ≤ j ∧ Fr [] A A' := by
  obtain ⟨k, rfl, hk⟩ := succ_of hk
  rw [R94]
  have fin : ∀ (cell : Int) (a : Int), 0 ≤ a → Box (A ++ [boxO a ((cell % 2147483647 + 7919 * i + 11) * 48271 % 2147483629) 0]) A.length 0 (a, (cell % 2147483647 + 7919 * i + 11) * 48271 % 2147483629, 0) := fun cell a ha =>
    ⟨gt_new, ha, Int.emod_nonneg _ (by omega), by have := Int.emod_lt_of_pos ((cell % 2147483647 + 7919 * i + 11) * 48271) (show (0 : Int) < 2147483629 by omega); dsimp only; omega, by dsimp only; omega, by dsimp only; omega⟩
  have hl := hs.len
  by_cases he : i < ns.length
  · obtain ⟨x, ex, _⟩ := atI_at (xs := ns) (i := i) h0 he
    have hx := hs.ix i
    rw [ex] at hx
    simp at hx
    unfold boxF
    rw [ex]
    dsimp only
    by_cases hb : (1000000000000000000 : Int) ≤ (x.natAbs : Int)
    · rw [if_pos ⟨he, hb⟩]
      refine ⟨_, _, ?_, fin x x.natAbs (by omega), Nat.le_refl _, Fr.app _ _ _⟩
      simp (disch := first | omega | decide) [runBody_eq, f94_1, boxO, hl, he, hx, abs_I, hb]
    · rw [if_neg fun z => hb z.2]
      refine ⟨_, _, ?_, fin x 0 (by omega), Nat.le_refl _, Fr.app _ _ _⟩
      simp (disch := first | omega | decide) [runBody_eq, f94_1, boxO, hl, he, hx, abs_I, hb]
  · have en : atI ns i = none := by
      rw [atI_nn _ h0]
      exact List.getElem?_eq_none (by omega)
    unfold boxF
    rw [en]
    refine ⟨_, _, ?_, fin 0 0 (by omega), Nat.le_refl _, Fr.app _ _ _⟩
    simp (disch := first | omega | decide) [runBody_eq, f94_1, boxO, hl, he, abs_I]
end
section
variable {k : Nat} {A : AHp} {b : Nat} {c : Int} {s : S3}
/-- n signs drawn, joined; slots as told by g and the frame -/
theorem signs {e : Den AV} {g : GDen} {τ : ASt} (al : List Nat) (f : Nat → S3 → Nat × S3) (m : Nat) (hm : m ≤ 1000) (h : Box A b c s) (hc : c ≤ 500000)
    (he : ∀ (j : Nat) (B : AHp) (cB : Int) (z : S3), Box B b cB z → cB ≤ 600000 → ∃ σ1 B2, g (.int (0 + (j : Int))) τ B = some σ1 ∧ (f j z).1 ∈ al ∧ e σ1 B = .ok (.str (S [(f j z).1])) B2 ∧ Box B2 b (cB + 1) (f j z).2 ∧ Fr [b] B B2) :
    ∃ (A' : AHp), compL (srcR 0 m) g dYes e A.length τ (m + 1) 0 (A ++ [.lst [] false]) = .ok (.ref A.length) A' ∧ mJoin (.str (S [])) [.ref A.length] A' = some (.str (S (itF f m s).1), A') ∧ (∀ x ∈ (itF f m s).1, x ∈ al) ∧ Box A' b (c + m) (itF f m s).2 ∧ Fr [b] A A' := by
  have hb := h.lt
  obtain ⟨vs, A', e1, e2, e3, e4, e5, e6, e8⟩ := comp_run (src := srcR 0 m) (g := g) (t := dYes) (e := e) (d := A.length) (τ := τ) (rngL 0 m)
    (fun i acc B => Box B b (c + i) (itF f i s).2 ∧ Fr [b] A B ∧ A.length < B.length ∧ acc = (itF f i s).1.map (fun c => .str (S [c])) ∧ ∀ x ∈ (itF f i s).1, x ∈ al) (by rw [rngL_length]; omega) (fun i acc B hi hd ⟨hI1, hI2, hI3, hI4, hI6⟩ => by
      refine ⟨src_R _ _ _ _, fun x hx => ?_⟩
      obtain ⟨rfl, hi2⟩ := rngL_get hx
      obtain ⟨σ1, B2, q0, qm, q1, q2, q3⟩ := he i B (c + i) _ hI1 (by omega)
      refine ⟨σ1, true, B, q0, by simp, ?_⟩
      rw [if_pos rfl]
      refine ⟨_, B2, q1, q3.gt hd (by simp; omega), ?_, (hI2.trans q3).setNew (Nat.le_refl _), by rw [List.length_set]; have := q3.1; omega, by rw [hI4, itF]; simp, fun x hx => ?_⟩
      · have := q2.fr (Fr.set (l := [A.length]) (A := B2) (n := A.length) (o := .lst (acc ++ [.str (S [(f i (itF f i s).2).1])]) false) (by simp)) (by simp; omega)
        exact this.mono (by omega)
      · rw [itF] at hx
        rcases List.mem_append.mp hx with hx | hx
        · exact hI6 x hx
        · rw [List.mem_singleton.mp hx]; exact qm) (A0 := A ++ [.lst [] false]) gt_new ⟨(h.fr (Fr.app [] A _) (by simp)).mono (by omega), Fr.app _ _ _, by simp, rfl, fun x hx => (by cases hx)⟩
  rw [rngL_length] at e1 e3 e6 e8
  refine ⟨A', e1, ?_, e8, e3, e4⟩
  have hlen := itF_len f m s
  have hj := joinA_ok A' (a := []) (ls := (itF f m s).1.map fun c => [c]) (by simp; omega)
  rw [List.map_map] at hj
  have hj2 : joinA [] vs A' = some (AV.str (S (itF f m s).1), A') := by
    rw [e6]
    refine hj.trans ?_
    simp
  rw [e_joinR, lstAt_gt, e2]
  exact hj2
end
def azL : List Nat := [97, 98, 99, 100, 101, 102, 103, 104, 105, 106, 107, 108, 109, 110, 111, 112, 113, 114, 115, 116, 117, 118, 119, 120, 121, 122]
def sgL : List Nat := [32, 33, 34, 35, 36, 38, 39, 40, 41, 42, 43, 44, 45, 46, 47, 48, 49, 50, 51, 52, 53, 54, 55, 56, 57, 58, 59, 60, 61, 62, 63, 64, 65, 66, 67, 68, 69, 70, 71, 72, 73, 74, 75, 76, 77, 78, 79, 80, 81, 82, 83, 84, 85, 86, 87, 88, 89, 90, 91, 92, 93, 94, 95, 96, 97, 98, 99, 100, 101, 102, 103, 104, 105, 106, 107, 108, 109, 110, 111, 112, 113, 114, 115, 116, 117, 118, 119, 120, 121, 122, 123, 124, 125, 126]
def wdL : List (List Nat) := [[97], [97, 97], [97, 98], [98], [98, 97], [98, 111, 120], [99], [102, 111, 108, 100, 101, 114], [109], [109, 109], [113, 117, 97, 114, 116, 122, 101, 115], [122], [122, 101, 98, 114, 97], [110]]
/-- a name: one to eight letters a to z -/
def nmB (l : List Nat) : Bool := decide (1 ≤ l.length) && decide (l.length ≤ 8) && l.all fun c => decide (97 ≤ c) && decide (c ≤ 122)
theorem nm_ok {l : List Nat} (h : nmB l = true) : okS l = true := by
  unfold nmB at h
  rw [Bool.and_eq_true] at h
  unfold okS
  rw [List.all_eq_true]
  intro x hx
  have := List.all_eq_true.mp h.2 x hx
  simp at this ⊢
  omega
theorem nm_len {l : List Nat} (h : nmB l = true) : l.length ≤ 8 := by
  unfold nmB at h
  simp at h
  omega
theorem az_nm {l : List Nat} (h : ∀ x ∈ l, x ∈ azL) (h1 : 1 ≤ l.length) (h8 : l.length ≤ 8) : nmB l = true := by
  unfold nmB
  simp only [Bool.and_eq_true, decide_eq_true_eq, List.all_eq_true]
  refine ⟨⟨h1, h8⟩, fun x hx => ?_⟩
  have := h x hx
  unfold azL at this
  simp at this
  omega
theorem wd_nm {w : List Nat} (h : w ∈ wdL) : nmB w = true := by
  have : wdL.all nmB = true := by decide
  exact List.all_eq_true.mp this w h
def nmP (p : Pth) : Prop := ∀ w ∈ p, nmB w = true
theorem nmP.ok {p : Pth} (h : nmP p) : okP p := fun w hw => nm_ok (h w hw)
theorem nmP.snoc {p : Pth} {w : List Nat} (h : nmP p) (hw : nmB w = true) : nmP (p ++ [w]) := fun x hx => by
  rcases List.mem_append.mp hx with hx | hx
  · exact h x hx
  · rw [List.mem_singleton.mp hx]; exact hw
/-- the item of a drawn place -/
theorem at_get {α : Type} (d : α) {xs : List α} {i : Int} (h0 : 0 ≤ i) (h : i < xs.length) : ∃ w, xs.getD i.toNat d = w ∧ atI xs i = some w ∧ w ∈ xs := by
  have hl : i.toNat < xs.length := by omega
  refine ⟨_, rfl, ?_⟩
  rw [atI_nn _ h0, List.getD_eq_getElem?_getD, List.getElem?_eq_getElem hl]
  exact ⟨rfl, List.getElem_mem hl⟩
def wordF (s : S3) : List Nat × S3 := if (tkF s 4).1 = 0 then itF (fun _ z => (azL.getD (tkF z 26).1.toNat 0, (tkF z 26).2)) (1 + (tkF (tkF s 4).2 8).1).toNat (tkF (tkF s 4).2 8).2
  else (wdL.getD (tkF (tkF s 4).2 14).1.toNat [], (tkF (tkF s 4).2 14).2)
section
variable {k : Nat} {A : AHp} {b : Nat} {c : Int} {s : S3}
theorem word_R (hk : 2 ≤ k) (h : Box A b c s) (hc : c ≤ 400000) : ∃ w A' s', R k 5 [.ref b] A = .ok (.str (S w)) A' ∧ nmB w = true ∧ Box A' b (c + 10) s' ∧ Fr [b] A A' ∧ wordF s = (w, s') := by
  obtain ⟨k, rfl, hk⟩ := succ_of hk
  have hb := h.lt
  obtain ⟨A1, hA1⟩ : ∃ A1, A1 = A ++ [.lst (wdL.map fun w => .str (S w)) false] := ⟨_, rfl⟩
  have F1 : Fr [b] A A1 := by rw [hA1]; exact Fr.app _ _ _
  have g1 : gt A1 A.length = some (.lst (wdL.map fun w => .str (S w)) false) := by rw [hA1]; exact gt_new
  have hA1' : A1 = A ++ [.lst [.str (S [97]), .str (S [97, 97]), .str (S [97, 98]), .str (S [98]), .str (S [98, 97]), .str (S [98, 111, 120]), .str (S [99]), .str (S [102, 111, 108, 100, 101, 114]), .str (S [109]), .str (S [109, 109]), .str (S [113, 117, 97, 114, 116, 122, 101, 115]), .str (S [122]), .str (S [122, 101, 98, 114, 97]), .str (S [110])] false] := hA1
  have hx : Box A1 b c s := by
    have : Fr [] A A1 := by rw [hA1]; exact Fr.app _ _ _
    exact h.fr this (by simp)
  obtain ⟨i, A2, s2, e2, i0, i1, b2, f2, t2⟩ := take_R (k := k) (by omega) hx (by omega) (m := 4) (by omega) (by omega)
  rw [R5]
  unfold wordF
  rw [t2]
  dsimp only
  by_cases hi : i = 0
  · subst hi
    rw [if_pos rfl]
    obtain ⟨m, A3, s3, e3, m0, m1, b3, f3, t3⟩ := take_R (k := k) (by omega) b2 (by omega) (m := 8) (by omega) (by omega)
    rw [t3]
    dsimp only
    obtain ⟨A4, e4, e5, e7, b4, f4⟩ := signs (e := dBin pIx (dVar 2) (dCall 2 (R k 95) (dCons (dVar 0) (dCons (dC (.int 26)) dNil)))) (g := gNm 3) (τ := [some (.ref b), some (.ref A.length), some (.str (S azL)), none]) azL (fun _ z => (azL.getD (tkF z 26).1.toNat 0, (tkF z 26).2)) (1 + m).toNat (by omega) b3 (by omega) (fun j B cB z hB hcB => by
      obtain ⟨y, B2, z2, q1, q2, q3, q4, q5, q6⟩ := take_R (k := k) (by omega) hB (by omega) (m := 26) (by omega) (by omega)
      obtain ⟨w, hw, ez, mz⟩ := at_get 0 (xs := azL) (i := y) q2 (by simpa [azL] using q3)
      dsimp only
      rw [q6]
      dsimp only
      rw [hw]
      exact ⟨[some (.ref b), some (.ref A.length), some (.str (S azL)), some (.int (0 + (j : Int)))], B2, by simp, mz, by simp (disch := first | omega | decide | (simp [azL]; done)) [q1, ez], q4, q5⟩)
    have hl := itF_len (fun _ z => (azL.getD (tkF z 26).1.toNat 0, (tkF z 26).2)) (1 + m).toNat s3
    refine ⟨_, A4, _, ?_, az_nm e7 (by omega) (by omega), b4.mono (by omega), ((F1.trans f2).trans f3).trans f4, rfl⟩
    unfold azL at e4 e5
    simp (disch := first | omega | decide) [runBody_eq, f5_2, f5_2_c0, dLc, wipeA, ← hA1', e2, e3, e4, e5, -e_joinR]
    rfl
  · rw [if_neg hi]
    obtain ⟨m, A3, s3, e3, m0, m1, b3, f3, t3⟩ := take_R (k := k) (by omega) b2 (by omega) (m := 14) (by omega) (by omega)
    obtain ⟨w, hw, ew, mw⟩ := at_get [] (xs := wdL) (i := m) m0 (by simpa [wdL] using m1)
    have g3 := f3.gt (f2.gt g1 (by simp; omega)) (by simp; omega)
    have e5 : pIx (.ref A.length) (.int m) A3 = some (.str (S w), A3) := by
      rw [e_ixRI, g3]
      dsimp only
      rw [atI_map, ew]
      rfl
    rw [t3]
    dsimp only
    rw [hw]
    refine ⟨_, A3, s3, ?_, wd_nm mw, b3.mono (by omega), (F1.trans f2).trans f3, rfl⟩
    simp [runBody_eq, f5_2, ← hA1', e2, hi, e3, e5, -e_ixRI]
end
def manyF (s : S3) : Int × S3 := if (tkF (tkF s 8).2 8).1 = 0 then ([(tkF (tkF (tkF s 8).2 8).2 201).1, 200, 199].getD (tkF (tkF (tkF (tkF s 8).2 8).2 201).2 3).1.toNat 0, (tkF (tkF (tkF (tkF s 8).2 8).2 201).2 3).2) else ((tkF s 8).1, (tkF (tkF s 8).2 8).2)
def signsF (m : Int) (s : S3) : List Nat × S3 := itF (fun j z => (sgL.getD (((tkF s 94).1 + (0 + (j : Int)) * (tkF (tkF s 94).2 94).1) % 94).toNat 0, z)) m.toNat (tkF (tkF s 94).2 94).2
def textF (s : S3) : List Nat × S3 := signsF (manyF s).1 (manyF s).2
section
variable {k : Nat} {A : AHp} {b : Nat} {c : Int} {s : S3}
theorem text_R (hk : 2 ≤ k) (h : Box A b c s) (hc : c ≤ 400000) : ∃ w A' s', R k 96 [.ref b] A = .ok (.str (S w)) A' ∧ w.length ≤ 200 ∧ (∀ x ∈ w, x ∈ sgL) ∧ Box A' b (c + 220) s' ∧ Fr [b] A A' ∧ textF s = (w, s') := by
  obtain ⟨k, rfl, hk⟩ := succ_of hk
  have hb := h.lt
  obtain ⟨i, A1, s1, e1, i0, i1, b1, f1, t1⟩ := take_R (k := k) (by omega) h (by omega) (m := 8) (by omega) (by omega)
  obtain ⟨j, A2, s2, e2, j0, j1, b2, f2, t2⟩ := take_R (k := k) (by omega) b1 (by omega) (m := 8) (by omega) (by omega)
  have step : ∀ (m : Int) (D : AHp) (cD : Int) (sD : S3), 0 ≤ m → m ≤ 200 → Box D b cD sD → cD ≤ 450000 → Fr [b] A D → ∃ (p q : Int) (D1 D2 : AHp) (D' : AHp), R k 95 [.ref b, .int 94] D = .ok (.int p) D1 ∧ R k 95 [.ref b, .int 94] D1 = .ok (.int q) D2 ∧
      (f96_1_c0 (R k)) [some (.ref b), some (.str (S sgL)), some (.int m), some (.int p), some (.int q), none] D2 = .ok (.ref D2.length) D' ∧ mJoin (.str (S [])) [.ref D2.length] D' = some (.str (S (signsF m sD).1), D') ∧ (signsF m sD).1.length ≤ 200 ∧ (∀ x ∈ (signsF m sD).1, x ∈ sgL) ∧ Box D' b (cD + 210) (signsF m sD).2 ∧ Fr [b] A D' := fun m D cD sD m0 m1 hD hcD fD => by
    obtain ⟨p, D1, z1, q1, p0, p1, hD1, fD1, u1⟩ := take_R (k := k) (by omega) hD (by omega) (m := 94) (by omega) (by omega)
    obtain ⟨q, D2, z2, q2, q0, q3, hD2, fD2, u2⟩ := take_R (k := k) (by omega) hD1 (by omega) (m := 94) (by omega) (by omega)
    unfold signsF
    rw [u1]
    dsimp only
    rw [u2]
    dsimp only
    obtain ⟨A4, e4, e5, e7, b4, f4⟩ := signs (e := dBin pIx (dVar 1) (dBin pMod (dBin pAdd (dVar 3) (dBin pMul (dVar 5) (dVar 4))) (dC (.int 94)))) (g := gNm 5) (τ := [some (.ref b), some (.str (S sgL)), some (.int m), some (.int p), some (.int q), none]) sgL (fun j z => (sgL.getD ((p + (0 + (j : Int)) * q) % 94).toNat 0, z)) m.toNat (by omega) hD2 (by omega) (fun j B cB z hB hcB => by
      obtain ⟨w, hw, ez, mz⟩ := at_get 0 (xs := sgL) (i := (p + (0 + (j : Int)) * q) % 94) (Int.emod_nonneg _ (by omega)) (by have := Int.emod_lt_of_pos (p + (0 + (j : Int)) * q) (show (0 : Int) < 94 by omega); simpa [sgL] using this)
      dsimp only
      rw [hw]
      refine ⟨[some (.ref b), some (.str (S sgL)), some (.int m), some (.int p), some (.int q), some (.int (0 + (j : Int)))], B, by simp, mz, ?_, hB.mono (by omega), Fr.refl _ _⟩
      rw [Int.zero_add] at ez ⊢
      simp (disch := first | omega | decide | (simp [sgL]; done)) [ez])
    have hl := itF_len (fun j z => (sgL.getD ((p + (0 + (j : Int)) * q) % 94).toNat 0, z)) m.toNat z2
    refine ⟨p, q, D1, D2, A4, q1, q2, ?_, e5, by omega, e7, b4.mono (by omega), ((fD.trans fD1).trans fD2).trans f4⟩
    unfold f96_1_c0 dLc
    simp (disch := first | omega | decide) [wipeA, e4]
  rw [R96]
  unfold textF manyF
  rw [t1]
  dsimp only
  rw [t2]
  dsimp only
  by_cases hj : j = 0
  · subst hj
    rw [if_pos rfl]
    obtain ⟨u, A3, s3, e3, u0, u1, b3, f3, t3⟩ := take_R (k := k) (by omega) b2 (by omega) (m := 201) (by omega) (by omega)
    rw [t3]
    dsimp only
    obtain ⟨A4, hA4⟩ : ∃ A4, A4 = A3 ++ [.lst [.int u, .int 200, .int 199] false] := ⟨_, rfl⟩
    have f4 : Fr [] A3 A4 := by rw [hA4]; exact Fr.app _ _ _
    have g4 : gt A4 A3.length = some (.lst ([u, 200, 199].map AV.int) false) := by rw [hA4]; exact gt_new
    obtain ⟨v, A5, s5, e5, v0, v1, b5, f5, t5⟩ := take_R (k := k) (by omega) (b3.fr f4 (by simp)) (by omega) (m := 3) (by omega) (by omega)
    rw [t5]
    dsimp only
    obtain ⟨z, hz, ez, mz⟩ := at_get 0 (xs := [u, 200, 199]) (i := v) v0 (by simpa using v1)
    rw [hz]
    have zb : 0 ≤ z ∧ z ≤ 200 := by
      simp at mz
      omega
    have g5 := f5.gt g4 (by have := b3.lt; simp; omega)
    have e6 : pIx (.ref A3.length) (.int v) A5 = some (.int z, A5) := by
      rw [e_ixRI, g5]
      dsimp only
      rw [atI_map, ez]
      rfl
    have F5 : Fr [b] A A5 := (((f1.trans f2).trans f3).trans (fr_wide f4)).trans f5
    obtain ⟨p, q, D1, D2, D', q1, q2, e7, e8, e9, e10, bD, fD⟩ := step z A5 (c + 1 + 1 + 1 + 1) s5 zb.1 zb.2 b5 (by omega) F5
    refine ⟨_, D', _, ?_, e9, e10, bD.mono (by omega), fD, rfl⟩
    unfold sgL at e7
    simp [runBody_eq, f96_1, e1, e2, e3, ← hA4, e5, e6, -e_ixRI, q1, q2, e7, e8, -e_joinR]
  · rw [if_neg hj]
    dsimp only
    obtain ⟨p, q, D1, D2, D', q1, q2, e7, e8, e9, e10, bD, fD⟩ := step i A2 (c + 1 + 1) s2 i0 (by omega) b2 (by omega) (f1.trans f2)
    refine ⟨_, D', _, ?_, e9, e10, bD.mono (by omega), fD, rfl⟩
    unfold sgL at e7
    simp [runBody_eq, f96_1, e1, e2, hj, q1, q2, e7, e8, -e_joinR]
end
end Law
end
section
namespace Law
open PySem PySem.Spec L2 Ev
set_option autoImplicit false
def anyL (s : S3) : Nat := (1 + (tkF s 3).1 + 5 * (if (tkF (tkF s 3).2 16).1 = 0 then (1 : Int) else 0)).toNat
def anypF (s : S3) : Pth × S3 := itF (fun _ z => wordF z) (anyL s) (tkF (tkF s 3).2 16).2
section
variable {k : Nat} {A : AHp} {b : Nat} {c : Int} {s : S3}
/-- any path: one to eight names -/
theorem anyp_R (hk : 3 ≤ k) (h : Box A b c s) (hc : c ≤ 300000) : ∃ p A' s', R k 139 [.ref b] A = .ok (.tup (nV p)) A' ∧ nmP p ∧ 1 ≤ p.length ∧ p.length ≤ 8 ∧ Box A' b (c + 90) s' ∧ Fr [b] A A' ∧ anypF s = (p, s') := by
  obtain ⟨k, rfl, hk⟩ := succ_of hk
  obtain ⟨i, A1, s1, e1, i0, i1, b1, f1, t1⟩ := take_R (k := k) (by omega) h (by omega) (m := 3) (by omega) (by omega)
  obtain ⟨j, A2, s2, e2, j0, j1, b2, f2, t2⟩ := take_R (k := k) (by omega) b1 (by omega) (m := 16) (by omega) (by omega)
  have hL : anyL s = (1 + i + 5 * (if j = 0 then (1 : Int) else 0)).toNat := by
    unfold anyL
    rw [t1]
    dsimp only
    rw [t2]
  obtain ⟨m, hm, m1, m8⟩ : ∃ m : Nat, 1 + i + 5 * (if j = 0 then (1 : Int) else 0) = m ∧ 1 ≤ m ∧ m ≤ 8 := ⟨(1 + i + 5 * (if j = 0 then (1 : Int) else 0)).toNat, by split <;> omega, by split <;> omega, by split <;> omega⟩
  rw [hm, Int.toNat_natCast] at hL
  have hb := b2.lt
  obtain ⟨vs, A3, q1, q2, q3, q4, q5, q6, q8⟩ := comp_run (src := srcR 0 m) (g := gNm 2) (t := dYes) (e := dCall 1 (R k 5) (dCons (dVar 0) dNil)) (d := A2.length) (τ := [some (.ref b), some (.int m), none]) (rngL 0 m)
    (fun i acc B => Box B b (c + 2 + 10 * i) (itF (fun _ z => wordF z) i s2).2 ∧ Fr [b] A2 B ∧ A2.length < B.length ∧ acc = nV (itF (fun _ z => wordF z) i s2).1 ∧ nmP (itF (fun _ z => wordF z) i s2).1) (by rw [rngL_length]; omega) (fun i acc B hi hd ⟨hI1, hI2, hI3, hI4, hI6⟩ => by
      rw [rngL_length] at hi
      refine ⟨src_R _ _ _ _, fun x hx => ?_⟩
      obtain ⟨rfl, hi2⟩ := rngL_get hx
      obtain ⟨w, B2, s', r1, r2, r3, r4, r5⟩ := word_R (k := k) (by omega) hI1 (by omega)
      refine ⟨[some (.ref b), some (.int m), some (.int (0 + i))], true, B, by simp, by simp, ?_⟩
      rw [if_pos rfl]
      refine ⟨.str (S w), B2, by simp [r1], r4.gt hd (by simp; omega), ?_, (hI2.trans r4).setNew (Nat.le_refl _), by rw [List.length_set]; have := r4.1; omega, by rw [hI4, itF, r5]; unfold nV; simp, by rw [itF, r5]; exact hI6.snoc r2⟩
      have := r3.fr (Fr.set (l := [A2.length]) (A := B2) (n := A2.length) (o := .lst (acc ++ [.str (S w)]) false) (by simp)) (by simp; omega)
      rw [itF, r5]
      exact this.mono (by omega)) (A0 := A2 ++ [.lst [] false]) gt_new ⟨(b2.fr (Fr.app [] A2 _) (by simp)).mono (by omega), Fr.app _ _ _, by simp, rfl, fun x hx => (by cases hx)⟩
  rw [rngL_length] at q1 q3 q6 q8
  have ql := itF_len (fun _ z => wordF z) m s2
  subst q6
  have hF : anypF s = itF (fun _ z => wordF z) m s2 := by
    unfold anypF
    rw [hL, t1]
    dsimp only
    rw [t2]
  refine ⟨_, A3, _, ?_, q8, by omega, by omega, q3.mono (by omega), (f1.trans f2).trans q4, hF⟩
  rw [R139]
  have r1 := e_rng1 (m : Int) (by omega)
  rw [Int.toNat_natCast] at r1
  have r2 : (f139_0_c0 (R k)) [some (.ref b), some (.int m), none] A2 = .ok (.ref A2.length) A3 := by
    unfold f139_0_c0 dLc
    simp [wipeA, r1, q1]
  simp [runBody_eq, f139_0, e1, e2, hm, r2, q2]
end
end Law
end
section
namespace Law
open PySem PySem.Spec L2 Ev
set_option autoImplicit false
/-! the layer laws' layers -/
def oV : Option Pth → AV
  | none => .non
  | some p => .tup (nV p)
def xV : Option (List Nat) → AV
  | none => .non
  | some x => .str (S x)
abbrev Pr := Option Pth × Option (List Nat)
def pairV (q : Pr) : AV := .tup [oV q.1, xV q.2]
def okO (o : Option Pth) : Prop := ∀ p, o = some p → nmP p ∧ p.length ≤ 8
def okX (x : Option (List Nat)) : Prop := ∀ w, x = some w → w.length ≤ 200 ∧ ∀ y ∈ w, y ∈ sgL
def okPr (q : Pr) : Prop := okO q.1 ∧ okX q.2 ∧ (∀ p, q.1 = some p → 1 ≤ p.length) ∧ (q.1 = none → q.2 ≠ none)
inductive Row where
  | fol (o : Option Pth) | fil (n : Nat) | gone
def rowV (p : Pth) : Row → AV
  | .fol o => .tup [.tup (nV p), .str (S [102, 111, 108, 100, 101, 114]), oV o]
  | .fil n => .tup [.tup (nV p), .str (S [102, 105, 108, 101]), .int n]
  | .gone => .tup [.tup (nV p), .str (S [103, 111, 110, 101])]
def okRow (np : Nat) : Row → Prop
  | .fol o => okO o
  | .fil n => n < np
  | .gone => True
theorem okRow.more {np np' : Nat} {r : Row} (h : okRow np r) (k : np ≤ np') : okRow np' r := by
  cases r with
  | fol o => exact h
  | fil n => exact Nat.lt_of_lt_of_le h k
  | gone => trivial
def rowsV (rows : List (Pth × Row)) : List (Pth × AV) := rows.map fun x => (x.1, rowV x.1 x.2)
theorem rowsV_fst (rows : List (Pth × Row)) : (rowsV rows).map Prod.fst = rows.map Prod.fst := by unfold rowsV; rw [List.map_map]; rfl
theorem rowsV_len (rows : List (Pth × Row)) : (rowsV rows).length = rows.length := by unfold rowsV; rw [List.length_map]
theorem lk_rowsV : ∀ (rows : List (Pth × Row)) (p : Pth), lk (rowsV rows) p = (lk rows p).map (rowV p)
  | [], _ => rfl
  | (a, r) :: rows, p => by
    show lk ((a, rowV a r) :: rowsV rows) p = _
    rw [lk_cons, lk_cons, lk_rowsV rows p]
    by_cases h : a = p
    · subst h; simp
    · simp [h]
theorem pt_rowsV (rows : List (Pth × Row)) (p : Pth) (r : Row) : pt (rowsV rows) p (rowV p r) = rowsV (pt rows p r) := by
  unfold pt
  rw [lk_rowsV, Option.isSome_map]
  split
  · unfold rowsV
    rw [List.map_map, List.map_map]
    apply List.map_congr_left
    rintro ⟨a, b⟩ _
    dsimp only [Function.comp]
    by_cases h : a = p
    · subst h; rw [if_pos rfl, if_pos rfl]
    · rw [if_neg h, if_neg h]
  · unfold rowsV
    rw [List.map_append]
    rfl
/-! ### what a drawn layer keeps -/
structure J (rows : List (Pth × Row)) (ps : List Pr) (fs : List Pth) : Prop where
  fsr : ∀ q ∈ fs, q = [] ∨ ∃ o, lk rows q = some (.fol o)
  par : ∀ p r, lk rows p = some r → p.dropLast = [] ∨ ∃ o, lk rows p.dropLast = some (.fol o)
  len : ∀ p r, lk rows p = some r → 8 < p.length → r = .gone
  org : (ps.filterMap Prod.fst).Nodup
  nam : ∀ (i : Nat) x, ps[i]? = some (none, x) → ∃ p, lk rows p = some (.fil i)
theorem J0 : J [] [] [[]] := ⟨fun q hq => .inl (List.mem_singleton.mp hq), fun _ _ h => (by cases h), fun _ _ h => (by cases h), List.nodup_nil, fun i x h => (by simp at h)⟩
section
variable {rows : List (Pth × Row)} {ps : List Pr} {fs : List Pth} {p q : Pth} {r r' : Row}
def freeR (rows : List (Pth × Row)) (p : Pth) : Prop := lk rows p = none ∨ lk rows p = some .gone
theorem lk_keep (hf : freeR rows p) (h : lk rows q = some r) (hg : r ≠ .gone) : lk (pt rows p r') q = some r := by
  rw [lk_pt, if_neg, h]
  rintro rfl
  rcases hf with e | e <;> rw [e] at h
  · cases h
  · cases h; exact hg rfl
theorem fol_keep (hf : freeR rows p) (h : q = [] ∨ ∃ o, lk rows q = some (.fol o)) : q = [] ∨ ∃ o, lk (pt rows p r') q = some (.fol o) := by
  rcases h with h | ⟨o, h⟩
  · exact .inl h
  · exact .inr ⟨o, lk_keep hf h (fun z => by cases z)⟩
theorem J.put (j : J rows ps fs) (hf : freeR rows p) (hp : p.dropLast = [] ∨ ∃ o, lk rows p.dropLast = some (.fol o)) (hl : 8 < p.length → r = .gone) : J (pt rows p r) ps fs := by
  refine ⟨fun q hq => fol_keep hf (j.fsr q hq), fun q s h => ?_, fun q s h h8 => ?_, j.org, fun i x h => ?_⟩
  · rw [lk_pt] at h
    split at h
    · rename_i e; subst e; exact fol_keep hf hp
    · exact fol_keep hf (j.par q s h)
  · rw [lk_pt] at h
    split at h
    · rename_i e; subst e; cases h; exact hl h8
    · exact j.len q s h h8
  · obtain ⟨q, e⟩ := j.nam i x h
    exact ⟨q, lk_keep hf e (fun z => by cases z)⟩
theorem J.fold (j : J rows ps fs) {o : Option Pth} (h : lk rows p = some (.fol o)) : J rows ps (fs ++ [p]) :=
  ⟨fun q hq => by
    rcases List.mem_append.mp hq with hq | hq
    · exact j.fsr q hq
    · rw [List.mem_singleton.mp hq]; exact .inr ⟨o, h⟩, j.par, j.len, j.org, j.nam⟩
/-- a pair of an origin that none has -/
def newO (ps : List Pr) (o : Option Pth) : Prop := o = none ∨ ∃ p, o = some p ∧ some p ∉ ps.map Prod.fst
theorem org_snoc (h : (ps.filterMap Prod.fst).Nodup) {y : Pr} (hy : newO ps y.1) : ((ps ++ [y]).filterMap Prod.fst).Nodup := by
  rw [List.filterMap_append]
  obtain ⟨o, x⟩ := y
  rcases hy with e | ⟨p, e, hn⟩ <;> dsimp only at e <;> subst e
  · simpa using h
  · refine List.nodup_append.mpr ⟨h, by simp, fun a ha b hb e => ?_⟩
    subst e
    simp at hb
    subst hb
    obtain ⟨z, hz, e⟩ := List.mem_filterMap.mp ha
    exact hn (List.mem_map.mpr ⟨z, hz, e⟩)
theorem nam_snoc (j : J rows ps fs) {y : Pr} {i : Nat} {x : Option (List Nat)} (h : (ps ++ [y])[i]? = some (none, x)) : (∃ p, lk rows p = some (.fil i)) ∨ (i = ps.length ∧ y.1 = none) := by
  by_cases hi : i < ps.length
  · rw [List.getElem?_append_left hi] at h
    exact .inl (j.nam i x h)
  · rw [List.getElem?_append_right (by omega)] at h
    have h0 : i - ps.length = 0 := by
      have := (List.getElem?_eq_some_iff.mp h).1
      simp at this
      omega
    rw [h0] at h
    simp at h
    exact .inr ⟨by omega, by rw [h]⟩
theorem J.pair (j : J rows ps fs) {y : Pr} (h0 : y.1 ≠ none) (hy : newO ps y.1) : J rows (ps ++ [y]) fs :=
  ⟨j.fsr, j.par, j.len, org_snoc j.org hy, fun i x h => (nam_snoc j h).elim id fun z => absurd z.2 h0⟩
theorem J.newfil (j : J rows ps fs) {y : Pr} (hy : newO ps y.1) (hf : freeR rows p) (hp : p.dropLast = [] ∨ ∃ o, lk rows p.dropLast = some (.fol o)) (hl : p.length ≤ 8) : J (pt rows p (.fil ps.length)) (ps ++ [y]) fs := by
  have k := j.put (r := .fil ps.length) hf hp (by omega)
  refine ⟨k.fsr, k.par, k.len, org_snoc j.org hy, fun i x h => ?_⟩
  rcases nam_snoc k h with e | ⟨e, _⟩
  · exact e
  · exact ⟨p, by rw [lk_pt, if_pos rfl, e]⟩
end
structure S20 (A : AHp) (rw' pr fo : Nat) (rows : List (Pth × Row)) (ps : List Pr) (fs : List Pth) (n : Nat) : Prop where
  rr : gt A rw' = some (.dict (enc kP id (rowsV rows)) false)
  pp : gt A pr = some (.lst (ps.map pairV) false)
  ff : gt A fo = some (.lst (fs.map tV) false)
  nd : (rows.map Prod.fst).Nodup
  okr : ∀ x ∈ rows, nmP x.1 ∧ 1 ≤ x.1.length ∧ x.1.length ≤ 9 ∧ okRow ps.length x.2
  okp : ∀ q ∈ ps, okPr q
  okf : ∀ q ∈ fs, nmP q ∧ q.length ≤ 8
  f0 : fs ≠ []
  lp : ps.length ≤ 192
  lr : rows.length ≤ n
  lf : fs.length ≤ n
  d1 : rw' ≠ pr
  d2 : rw' ≠ fo
  d3 : pr ≠ fo
theorem mem_pt {κ β : Type} [DecidableEq κ] {l : List (κ × β)} {k : κ} {v : β} {x : κ × β} (h : x ∈ pt l k v) : x ∈ l ∨ x = (k, v) := by
  unfold pt at h
  split at h
  · obtain ⟨y, hy, e⟩ := List.mem_map.mp h
    split at e
    · rename_i e2
      subst e2
      exact .inr e.symm
    · subst e
      exact .inl hy
  · rcases List.mem_append.mp h with h | h
    · exact .inl h
    · exact .inr (List.mem_singleton.mp h)
section
variable {k : Nat} {A A' : AHp} {b rw' pr fo : Nat} {c : Int} {rows : List (Pth × Row)} {ps : List Pr} {fs : List Pth} {n : Nat}
theorem S20.fr (s : S20 A rw' pr fo rows ps fs n) {l : List Nat} (hF : Fr l A A') (h1 : rw' ∉ l) (h2 : pr ∉ l) (h3 : fo ∉ l) : S20 A' rw' pr fo rows ps fs n :=
  ⟨hF.gt s.rr h1, hF.gt s.pp h2, hF.gt s.ff h3, s.nd, s.okr, s.okp, s.okf, s.f0, s.lp, s.lr, s.lf, s.d1, s.d2, s.d3⟩
theorem S20.more (s : S20 A rw' pr fo rows ps fs n) {m : Nat} (h : n ≤ m) : S20 A rw' pr fo rows ps fs m :=
  ⟨s.rr, s.pp, s.ff, s.nd, s.okr, s.okp, s.okf, s.f0, s.lp, Nat.le_trans s.lr h, Nat.le_trans s.lf h, s.d1, s.d2, s.d3⟩
theorem S20.in_ (s : S20 A rw' pr fo rows ps fs n) (p : Pth) : pIn (.tup (nV p)) (.ref rw') A = some (.bl (lk rows p).isSome, A) := by
  have := d_in (b := .tup (nV p)) s.rr (keyOf_tV p) (kind_P _ _) (.inl rfl)
  rw [getK_enc kP_inj, lk_rowsV] at this
  rw [this]
  simp
/-- a row is put -/
theorem S20.put (s : S20 A rw' pr fo rows ps fs n) {p : Pth} {r : Row} (hp : nmP p) (h1 : 1 ≤ p.length) (h9 : p.length ≤ 9) (hr : okRow ps.length r) (hn : n ≤ 10000) :
    ∃ A', pPut (.ref rw') (.tup (nV p)) (rowV p r) A = some A' ∧ S20 A' rw' pr fo (pt rows p r) ps fs (n + 1) ∧ Fr [rw'] A A' := by
  have hl := s.lr
  have e := d_put (b := .tup (nV p)) s.rr (keyOf_tV p) (kind_P _ _) (by rw [enc_len, rowsV_len]; omega) (rowV p r)
  have e2 : putA (enc kP id (rowsV rows)) (kP p) (rowV p r) = enc kP id (pt (rowsV rows) p (rowV p r)) := putA_enc (f := id) kP_inj _ _ _
  rw [e2, pt_rowsV] at e
  have g := gt_lt s.rr
  refine ⟨_, e, ⟨gt_set g, (gt_set_ne s.d1).trans s.pp, (gt_set_ne s.d2).trans s.ff, nodup_pt s.nd _ _, fun x hx => ?_, s.okp, s.okf, s.f0, s.lp, ?_, Nat.le_succ_of_le s.lf, s.d1, s.d2, s.d3⟩, Fr.set (by simp)⟩
  · rcases mem_pt hx with hx | rfl
    · exact s.okr x hx
    · exact ⟨hp, h1, h9, hr⟩
  · have := pt_len rows p r
    omega
/-- a pair more -/
theorem S20.pair (s : S20 A rw' pr fo rows ps fs n) {q : Pr} (hq : okPr q) (hl : ps.length ≤ 191) : ∃ A', mAppend (.ref pr) [pairV q] A = some (.non, A') ∧ S20 A' rw' pr fo rows (ps ++ [q]) fs n ∧ Fr [pr] A A' := by
  have g := gt_lt s.pp
  refine ⟨A.set pr (.lst ((ps ++ [q]).map pairV) false), ?_, ⟨(gt_set_ne (Ne.symm s.d1)).trans s.rr, gt_set g, (gt_set_ne s.d3).trans s.ff, s.nd, fun x hx => ?_, fun x hx => ?_, s.okf, s.f0, by simp; omega, s.lr, s.lf, s.d1, s.d2, s.d3⟩, Fr.set (by simp)⟩
  · rw [e_append, s.pp]
    simp (disch := first | omega | (simp; omega)) [-e_append]
  · obtain ⟨h1, h2, h3, h4⟩ := s.okr x hx
    exact ⟨h1, h2, h3, h4.more (by simp)⟩
  · rcases List.mem_append.mp hx with hx | hx
    · exact s.okp x hx
    · rw [List.mem_singleton.mp hx]; exact hq
/-- a folder more -/
theorem S20.fold (s : S20 A rw' pr fo rows ps fs n) {p : Pth} (hp : nmP p) (h8 : p.length ≤ 8) (hn : n ≤ 10000) : ∃ A', mAppend (.ref fo) [.tup (nV p)] A = some (.non, A') ∧ S20 A' rw' pr fo rows ps (fs ++ [p]) (n + 1) ∧ Fr [fo] A A' := by
  have g := gt_lt s.ff
  have hl := s.lf
  refine ⟨A.set fo (.lst ((fs ++ [p]).map tV) false), ?_, ⟨(gt_set_ne (Ne.symm s.d2)).trans s.rr, (gt_set_ne (Ne.symm s.d3)).trans s.pp, gt_set g, s.nd, s.okr, s.okp, fun x hx => ?_, by simp, s.lp, Nat.le_succ_of_le s.lr, by simp; omega, s.d1, s.d2, s.d3⟩, Fr.set (by simp)⟩
  · rw [e_append, s.ff]
    simp (disch := first | omega | (simp; omega)) [-e_append]
  · rcases List.mem_append.mp hx with hx | hx
    · exact s.okf x hx
    · rw [List.mem_singleton.mp hx]; exact ⟨hp, h8⟩
/-! ### whether an origin stands in a list -/
def oT : Option Pth → T
  | none => .non
  | some p => .tup (p.map .str)
theorem rep_oT (A : AHp) (o : Option Pth) : Rep A (oT o) (oV o) := by
  cases o with
  | none => rfl
  | some p => exact ⟨_, rfl, reps_nV A p⟩
theorem reps_oT (A : AHp) : ∀ l : List (Option Pth), Reps A (l.map oT) (l.map oV)
  | [] => rfl
  | o :: l => ⟨_, _, rfl, rep_oT A o, reps_oT A l⟩
theorem noB_oT (o : Option Pth) : noB (oT o) = true := by
  cases o with
  | none => rfl
  | some p => unfold oT; rw [noB, noBs_nV]
theorem noBs_oT : ∀ l : List (Option Pth), noBs (l.map oT) = true
  | [] => rfl
  | o :: l => by rw [List.map_cons, noBs, noB_oT, noBs_oT l]; rfl
theorem okT_oT {o : Option Pth} (h : okO o) : okT (oT o) = true := by
  cases o with
  | none => rfl
  | some p => unfold oT; rw [okT, okTs_nV (h p rfl).1.ok]
theorem okTs_oT : ∀ {l : List (Option Pth)}, (∀ o ∈ l, okO o) → okTs (l.map oT) = true
  | [], _ => rfl
  | o :: l, h => by rw [List.map_cons, okTs, okT_oT (h o (by simp)), okTs_oT fun x hx => h x (by simp [hx])]; rfl
theorem dep_oT (o : Option Pth) : dep (oT o) ≤ 1 := by
  cases o with
  | none => simp [oT, dep]
  | some p => unfold oT; rw [dep, deps_nV]; omega
theorem deps_oT : ∀ l : List (Option Pth), deps (l.map oT) ≤ 1
  | [] => by simp [deps]
  | o :: l => by rw [List.map_cons, deps]; exact Nat.max_le.mpr ⟨dep_oT o, deps_oT l⟩
theorem any_T {t : T} (hn : noB t = true) : ∀ {ts : List T}, noBs ts = true → ((pds ts).any fun z => PyData.eqv z (pd t)) = ts.any fun z => sameT z t
  | [], _ => by rw [pds]; rfl
  | x :: ts, h => by
    rw [noBs, Bool.and_eq_true] at h
    rw [pds, List.any_cons, List.any_cons, any_T hn h.2, eqv_T x t h.1 hn]
theorem same_oT (o : Option Pth) (p : Pth) : sameT (oT o) (oT (some p)) = decide (o = some p) := by
  cases o with
  | none => simp [oT, sameT]
  | some q => show sameT (.tup _) (.tup _) = _; rw [sameT, sameL_nV]; simp
theorem in_o {m : Nat} {l : List (Option Pth)} (h : gt A m = some (.lst (l.map oV) false)) (ho : ∀ o ∈ l, okO o) {p : Pth} (hp : okO (some p)) : inB (.tup (nV p)) (.ref m) A = some (l.any fun o => decide (o = some p)) := by
  have e1 := toD_T (A := A) (oT (some p)) (.tup (nV p)) 40 (rep_oT A (some p)) (by have := dep_oT (some p); omega)
  have e2 := toDs_T (A := A) (l.map oT) (l.map oV) 40 (reps_oT A l) (by have := deps_oT l; omega)
  have h0 : inB.flatA (.tup (nV p)) = false := rfl
  unfold inB
  dsimp only
  rw [show A[m]? = _ from h]
  dsimp only
  rw [h0, Bool.false_and, if_neg (by simp), e1]
  rw [show toDs 40 A (l.map oV) = some (pds (l.map oT)) from e2]
  dsimp only
  rw [if_pos]
  · rw [any_T (noB_oT _) (noBs_oT l), List.any_map]
    congr 2
    funext o
    exact same_oT o p
  · have d1 := dep_oT (some p)
    have d2 := deps_oT l
    unfold SeqAt.shaped
    rw [lay_T _ (okT_oT hp), PyData.canLay0, lays_T _ (okTs_oT ho), dep_T, PyData.depth, deps_T]
    simp
    omega
theorem in_p {m : Nat} {l : List (Option Pth)} (h : gt A m = some (.lst (l.map oV) false)) (ho : ∀ o ∈ l, okO o) {p : Pth} (hp : okO (some p)) : pIn (.tup (nV p)) (.ref m) A = some (.bl (l.any fun o => decide (o = some p)), A) ∧ pNotIn (.tup (nV p)) (.ref m) A = some (.bl (!(l.any fun o => decide (o = some p))), A) := by
  unfold pIn pNotIn
  rw [in_o h ho hp]
  exact ⟨rfl, rfl⟩
theorem origins (h : gt A pr = some (.lst (ps.map pairV) false)) (hl : ps.length ≤ 192) (e : Den AV) (g : GDen) (t : ASt) (he : ∀ B x, ∃ σ, g (pairV x) t B = some σ ∧ e σ B = .ok (oV x.1) B) :
    compL (srcL pr) g dYes e A.length t (ps.length + 1) 0 (A ++ [.lst [] false]) = .ok (.ref A.length) (A ++ [.lst ((ps.map Prod.fst).map oV) false]) := by
  rw [List.map_map]
  refine comp_pure (l := ps) pairV (oV ∘ Prod.fst) (by omega) (fun acc i => ?_) fun acc x hx => ?_
  · exact src_L (by rw [gt_app (gt_lt h)]; exact h) i
  · obtain ⟨σ, h1, h2⟩ := he (A ++ [.lst acc false]) x
    exact ⟨σ, h1, rfl, h2⟩
end
end Law
end
section
namespace Law
open PySem PySem.Spec L2 Ev
set_option autoImplicit false
/-! a layer drawn, as a function -/
/-- a new file's pair -/
def newoF (s : S3) : Option Pth × S3 := if 0 < (tkF s 3).1 then (some (anypF (tkF s 3).2).1, (anypF (tkF s 3).2).2) else (none, (tkF s 3).2)
def newF (ps : List Pr) (s : S3) : Int × List Pr × S3 := match (newoF s).1 with
  | none => (ps.length, ps ++ [(none, some (textF (newoF s).2).1)], (textF (newoF s).2).2)
  | some p => if ((ps.map Prod.fst).any fun o => decide (o = some p)) = true then (-1, ps, (newoF s).2)
    else (ps.length, ps ++ [(some p, if (tkF (textF (newoF s).2).2 3).1 = 0 then none else some (textF (newoF s).2).1)], (tkF (textF (newoF s).2).2 3).2)
section
variable {k : Nat} {A A' : AHp} {b rw' pr fo : Nat} {c : Int} {rows : List (Pth × Row)} {ps : List Pr} {fs : List Pth} {n : Nat} {z : S3}
theorem newf_R (s : S20 A rw' pr fo rows ps fs n) (hb : Box A b c z) (nb1 : b ≠ rw') (nb2 : b ≠ pr) (nb3 : b ≠ fo) (hk : 4 ≤ k) (hc : c ≤ 200000) (hl : ps.length ≤ 190) :
    ∃ (i : Int) (A' : AHp) (ps' : List Pr) (z' : S3), R k 140 [.ref b, .ref pr] A = .ok (.int i) A' ∧ ((i = -1 ∧ ps' = ps) ∨ ((ps.length : Int) = i ∧ ∃ q, ps' = ps ++ [q] ∧ newO ps q.1)) ∧ S20 A' rw' pr fo rows ps' fs n ∧ Box A' b (c + 400) z' ∧ Fr [b, pr] A A' ∧ newF ps z = (i, ps', z') := by
  obtain ⟨k, rfl, hk⟩ := succ_of hk
  obtain ⟨i, A1, z1, e1, i0, i1, b1, f1, t1⟩ := take_R (k := k) (by omega) hb (by omega) (m := 3) (by omega) (by omega)
  have w1 : ∀ {X Y : AHp}, Fr [b] X Y → Fr [b, pr] X Y := fun h => h.mono fun x hx => by simp at hx; simp [hx]
  obtain ⟨o, A2, z2, e2, ho, b2, f2, t2⟩ : ∃ (o : Option Pth) (A2 : AHp) (z2 : S3), ((0 < i ∧ ∃ p, o = some p ∧ R k 139 [.ref b] A1 = .ok (.tup (nV p)) A2) ∨ (¬ 0 < i ∧ o = none ∧ A2 = A1)) ∧ (okO o ∧ ∀ p, o = some p → 1 ≤ p.length) ∧ Box A2 b (c + 100) z2 ∧ Fr [b] A1 A2 ∧ newoF z = (o, z2) := by
    unfold newoF
    rw [t1]
    dsimp only
    by_cases hi : 0 < i
    · obtain ⟨p, A2, z2, e, g1, g2, g3, g4, g5, g6⟩ := anyp_R (k := k) (by omega) b1 (by omega)
      exact ⟨some p, A2, z2, .inl ⟨hi, p, rfl, e⟩, ⟨fun q hq => (by cases hq; exact ⟨g1, g3⟩), fun q hq => (by cases hq; exact g2)⟩, g4.mono (by omega), g5, by rw [if_pos hi, g6]⟩
    · exact ⟨none, A1, z1, .inr ⟨hi, rfl, rfl⟩, ⟨fun q hq => (by cases hq), fun q hq => (by cases hq)⟩, b1.mono (by omega), Fr.refl _ _, by rw [if_neg hi]⟩
  have F2 := f1.trans f2
  have s2 := s.fr F2 (by simpa using Ne.symm nb1) (by simpa using Ne.symm nb2) (by simpa using Ne.symm nb3)
  rw [R140]
  have fin : ∀ (A3 : AHp) (c3 : Int), S20 A3 rw' pr fo rows ps fs n → Box A3 b c3 z2 → c3 ≤ c + 110 → Fr [b] A A3 → ∃ (w : List Nat) (A4 : AHp) (j : Int) (A5 : AHp) (q : Pr) (A6 : AHp) (z4 z6 : S3), R k 96 [.ref b] A3 = .ok (.str (S w)) A4 ∧ (∀ p, o = some p → R k 95 [.ref b, .int 3] A4 = .ok (.int j) A5) ∧ (o = none → A5 = A4) ∧
      q = (o, if (o.isSome && decide (j = 0)) = true then none else some w) ∧ mAppend (.ref pr) [pairV q] A5 = some (.non, A6) ∧ S20 A6 rw' pr fo rows (ps ++ [q]) fs n ∧ Box A6 b (c + 400) z6 ∧ Fr [b, pr] A A6 ∧ textF z2 = (w, z4) ∧ (∀ p, o = some p → tkF z4 3 = (j, z6)) ∧ (o = none → z6 = z4) := fun A3 c3 s3 b3 hc3 f3 => by
    obtain ⟨w, A4, z4, q1, q2, q3, b4, f4, t4⟩ := text_R (k := k) (by omega) b3 (by omega)
    obtain ⟨j, A5, z6, q4, q5, b5, f5, t5, t6⟩ : ∃ (j : Int) (A5 : AHp) (z6 : S3), (∀ p, o = some p → R k 95 [.ref b, .int 3] A4 = .ok (.int j) A5) ∧ (o = none → A5 = A4) ∧ Box A5 b (c3 + 221) z6 ∧ Fr [b] A4 A5 ∧ (∀ p, o = some p → tkF z4 3 = (j, z6)) ∧ (o = none → z6 = z4) := by
      cases o with
      | none => exact ⟨0, A4, z4, fun p hp => (by cases hp), fun _ => rfl, b4.mono (by omega), Fr.refl _ _, fun p hp => (by cases hp), fun _ => rfl⟩
      | some p =>
        obtain ⟨j, A5, z6, g1, g2, g3, g4, g5, g6⟩ := take_R (k := k) (by omega) b4 (by omega) (m := 3) (by omega) (by omega)
        exact ⟨j, A5, z6, fun _ _ => g1, fun z => (by cases z), g4.mono (by omega), g5, fun _ _ => g6, fun z => (by cases z)⟩
    have s5 := (s3.fr f4 (by simpa using Ne.symm nb1) (by simpa using Ne.symm nb2) (by simpa using Ne.symm nb3)).fr f5 (by simpa using Ne.symm nb1) (by simpa using Ne.symm nb2) (by simpa using Ne.symm nb3)
    obtain ⟨A6, g1, s6, f6⟩ := s5.pair (q := (o, if (o.isSome && decide (j = 0)) = true then none else some w)) ⟨ho.1, fun x hx => (by
      dsimp only at hx
      split at hx
      · cases hx
      · cases hx; exact ⟨q2, q3⟩), ho.2, fun hn => (by
      dsimp only at hn ⊢
      rw [hn]
      simp)⟩ (by omega)
    exact ⟨w, A4, j, A5, _, A6, z4, z6, q1, q4, q5, rfl, g1, s6, (b5.fr f6 (by simpa using nb2)).mono (by omega), ((w1 f3).trans (w1 f4)).trans ((w1 f5).trans (f6.mono fun x hx => by simp at hx; simp [hx])), t4, t5, t6⟩
  cases o with
  | none =>
    rcases e2 with ⟨_, p, h, _⟩ | ⟨hi, _, rfl⟩
    · cases h
    obtain ⟨w, A4, j, A5, q, A6, z4, z6, q1, _, q3, q4, q5, s6, b6, f6, t4, _, t6⟩ := fin A2 (c + 100) s2 b2 (by omega) F2
    obtain rfl := q3 rfl
    obtain rfl := t6 rfl
    refine ⟨ps.length, A6, ps ++ [q], z6, ?_, .inr ⟨rfl, q, rfl, .inl (by rw [q4])⟩, s6, b6, f6, by unfold newF; rw [t2]; dsimp only; rw [t4, q4]; rfl⟩
    have g6 := s6.pp
    have hq : pairV q = .tup [.non, .str (S w)] := by rw [q4]; rfl
    rw [hq] at q5
    have gl : fLen [.ref pr] A6 = some (.int ((ps.length : Int) + 1), A6) := by simp [g6]
    have gp4 : ∃ xs, gt A5 pr = some (.lst xs false) := by
      obtain ⟨xs, h⟩ : ∃ xs, gt A5 pr = some (.lst xs false) := by
        unfold mAppend at q5
        dsimp only at q5
        rw [show A5[pr]? = gt A5 pr from rfl] at q5
        cases hh : gt A5 pr with
        | none => rw [hh] at q5; cases q5
        | some oo => cases oo with
          | lst xs ro => cases ro with
            | false => exact ⟨xs, rfl⟩
            | true => rw [hh] at q5; cases q5
          | dict _ _ => rw [hh] at q5; cases q5
          | ins _ _ => rw [hh] at q5; cases q5
          | dn _ => rw [hh] at q5; cases q5
      exact ⟨xs, h⟩
    obtain ⟨xs, gp4⟩ := gp4
    simp [runBody_eq, f140_0, e1, hi, q1, gp4, q5, -e_append, gl, -e_lenR]
  | some p =>
    rcases e2 with ⟨hi, p', h, e2⟩ | ⟨_, h, _⟩
    · cases h
      obtain ⟨A3, hA3⟩ : ∃ A3, A3 = A2 ++ [.lst ((ps.map Prod.fst).map oV) false] := ⟨_, rfl⟩
      have f3 : Fr [] A2 A3 := by rw [hA3]; exact Fr.app _ _ _
      have g3 : gt A3 A2.length = some (.lst ((ps.map Prod.fst).map oV) false) := by rw [hA3]; exact gt_new
      have gp := s2.pp
      have cc : (f140_0_c0 (R k)) [some (.ref b), some (.ref pr), some (.tup (nV p)), none, none] A2 = .ok (.ref A2.length) A3 := by
        unfold f140_0_c0 dLc
        rw [hA3]
        have := origins (A := A2) gp s2.lp (dBin pIx (dVar 3) (dC (.int 0))) (gNm 3) [some (.ref b), some (.ref pr), some (.tup (nV p)), none, none] (fun B x => ⟨[some (.ref b), some (.ref pr), some (.tup (nV p)), some (pairV x), none], by simp, by simp [pairV]⟩)
        simp [gp, wipeA, this]
      have ei := (in_p g3 (fun o ho' => by
        obtain ⟨x, hx, rfl⟩ := List.mem_map.mp ho'
        exact (s2.okp x hx).1) (p := p) ho.1).1
      have s3 := s2.fr f3 (by simp) (by simp) (by simp)
      by_cases hin : ((ps.map Prod.fst).any fun o => decide (o = some p)) = true
      · rw [hin] at ei
        refine ⟨-1, A3, ps, z2, ?_, .inl ⟨rfl, rfl⟩, s3, (b2.fr f3 (by simp)).mono (by omega), w1 (F2.trans (fr_wide f3)), by unfold newF; rw [t2]; dsimp only; rw [if_pos hin]⟩
        simp [runBody_eq, f140_0, e1, hi, e2, cc, ei]
      · have hin0 := hin
        rw [Bool.not_eq_true] at hin
        rw [hin] at ei
        obtain ⟨w, A4, j, A5, q, A6, z4, z6, q1, q2, _, q4, q5, s6, b6, f6, t4, t5, _⟩ := fin A3 (c + 100) s3 (b2.fr f3 (by simp)) (by omega) (F2.trans (fr_wide f3))
        have q2 := q2 p rfl
        have t5 := t5 p rfl
        refine ⟨ps.length, A6, ps ++ [q], z6, ?_, .inr ⟨rfl, q, rfl, .inr ⟨p, by rw [q4], fun hm => by
          have := List.any_eq_false.mp hin (some p) hm
          simp at this⟩⟩, s6, b6, f6, by unfold newF; rw [t2]; dsimp only; rw [if_neg hin0, t4]; dsimp only; rw [t5, q4]; simp⟩
        have g6 := s6.pp
        have gl : fLen [.ref pr] A6 = some (.int ((ps.length : Int) + 1), A6) := by simp [g6]
        obtain ⟨xs, gp4⟩ : ∃ xs, gt A5 pr = some (.lst xs false) := by
          unfold mAppend at q5
          dsimp only at q5
          rw [show A5[pr]? = gt A5 pr from rfl] at q5
          cases hh : gt A5 pr with
          | none => rw [hh] at q5; cases q5
          | some oo => cases oo with
            | lst xs ro => cases ro with
              | false => exact ⟨xs, rfl⟩
              | true => rw [hh] at q5; cases q5
            | dict _ _ => rw [hh] at q5; cases q5
            | ins _ _ => rw [hh] at q5; cases q5
            | dn _ => rw [hh] at q5; cases q5
        by_cases hj : j = 0
        · have hq : pairV q = .tup [.tup (nV p), .non] := by rw [q4]; simp [hj, pairV, oV, xV]
          rw [hq] at q5
          simp [runBody_eq, f140_0, e1, hi, e2, cc, ei, q1, q2, hj, gp4, q5, -e_append, gl, -e_lenR]
        · have hq : pairV q = .tup [.tup (nV p), .str (S w)] := by rw [q4]; simp [hj, pairV, oV, xV]
          rw [hq] at q5
          simp [runBody_eq, f140_0, e1, hi, e2, cc, ei, q1, q2, hj, gp4, q5, -e_append, gl, -e_lenR]
    · cases h
end
end Law
end
section
namespace Law
open PySem PySem.Spec L2 Ev
set_option autoImplicit false
section
variable {k : Nat} {A A' : AHp} {b rw' pr fo : Nat} {c : Int} {rows : List (Pth × Row)} {ps : List Pr} {fs : List Pth} {n : Nat} {z : S3}
theorem app_lst {X Y : AHp} {j : Nat} {v : AV} (h : mAppend (.ref j) [v] X = some (.non, Y)) : ∃ xs, gt X j = some (.lst xs false) := by
  unfold mAppend at h
  dsimp only at h
  rw [show X[j]? = gt X j from rfl] at h
  cases hh : gt X j with
  | none => rw [hh] at h; cases h
  | some oo => cases oo with
    | lst xs ro => cases ro with
      | false => exact ⟨xs, rfl⟩
      | true => rw [hh] at h; cases h
    | dict _ _ => rw [hh] at h; cases h
    | ins _ _ => rw [hh] at h; cases h
    | dn _ => rw [hh] at h; cases h
/-- what a row's place and kind are drawn of -/
def gpF (z : S3) (fs : List Pth) : Pth × Int × S3 := (fs.getD (tkF z fs.length).1.toNat [] ++ [(wordF (tkF z fs.length).2).1], (tkF (wordF (tkF z fs.length).2).2 8).1, (tkF (wordF (tkF z fs.length).2).2 8).2)
abbrev GS := S3 × List (Pth × Row) × List Pr × List Pth
def newG (p : Pth) (s : S3) (rows : List (Pth × Row)) (ps : List Pr) (fs : List Pth) : GS := if (newF ps s).1 < 0 then ((newF ps s).2.2, rows, (newF ps s).2.1, fs) else ((newF ps s).2.2, pt rows p (.fil (newF ps s).1.toNat), (newF ps s).2.1, fs)
def folG (p : Pth) (z : S3) (rows : List (Pth × Row)) (ps : List Pr) (fs : List Pth) : GS := ((tkF (anypF z).2 4).2, pt rows p (.fol ([none, some p, some [], some (anypF z).1].getD (tkF (anypF z).2 4).1.toNat none)), ps, fs ++ [p])
def filG (p : Pth) (z : S3) (rows : List (Pth × Row)) (ps : List Pr) (fs : List Pth) : GS := if 0 < ps.length then (if (tkF z 3).1 = 0 then ((tkF (tkF z 3).2 ps.length).2, pt rows p (.fil (tkF (tkF z 3).2 ps.length).1.toNat), ps, fs) else newG p (tkF z 3).2 rows ps fs) else newG p z rows ps fs
def gonG (p : Pth) (y : Int) (z : S3) (rows : List (Pth × Row)) (ps : List Pr) (fs : List Pth) : GS := if y = 7 then (if ((ps.map Prod.fst).any fun o => decide (o = some (anypF z).1)) = true then ((anypF z).2, pt rows p .gone, ps, fs)
    else ((tkF (textF (anypF z).2).2 2).2, pt rows p .gone, ps ++ [(some (anypF z).1, [none, some (textF (anypF z).2).1].getD (tkF (textF (anypF z).2).2 2).1.toNat none)], fs)) else (z, pt rows p .gone, ps, fs)
def grow2 (p : Pth) (y : Int) (z : S3) (rows : List (Pth × Row)) (ps : List Pr) (fs : List Pth) : GS := if (lk rows p).isSome = true ∨ 8 < p.length ∨ 190 < ps.length then (z, rows, ps, fs) else if y < 3 then folG p z rows ps fs else if y < 6 then filG p z rows ps fs else gonG p y z rows ps fs
def growF (z : S3) (rows : List (Pth × Row)) (ps : List Pr) (fs : List Pth) : GS := grow2 (gpF z fs).1 (gpF z fs).2.1 (gpF z fs).2.2 rows ps fs
/-- where a row goes on: the state behind -/
def G20 (A : AHp) (b rw' pr fo : Nat) (n : Nat) (c : Int) (A' : AHp) (g : GS) : Prop := ∃ z rows ps fs, g = (z, rows, ps, fs) ∧ S20 A' rw' pr fo rows ps fs (n + 2) ∧ J rows ps fs ∧ Box A' b (c + 1500) z ∧ Fr [b, rw', pr, fo] A A'
theorem grow_R (s : S20 A rw' pr fo rows ps fs n) (j : J rows ps fs) (hb : Box A b c z) (nb1 : b ≠ rw') (nb2 : b ≠ pr) (nb3 : b ≠ fo) (hk : 5 ≤ k) (hc : c ≤ 100000) (hn : n ≤ 9000) :
    ∃ A', R k 141 [.ref b, .ref rw', .ref pr, .ref fo] A = .ok .non A' ∧ G20 A b rw' pr fo n c A' (growF z rows ps fs) := by
  obtain ⟨k, rfl, hk⟩ := succ_of hk
  have m1 : rw' ∉ [b] := by simpa using Ne.symm nb1
  have m2 : pr ∉ [b] := by simpa using Ne.symm nb2
  have m3 : fo ∉ [b] := by simpa using Ne.symm nb3
  have wB : ∀ {X Y : AHp}, Fr [b] X Y → Fr [b, rw', pr, fo] X Y := fun h => h.mono fun x hx => by simp at hx; simp [hx]
  have lf := s.lf
  have f0 : 0 < fs.length := List.length_pos_iff.mpr s.f0
  have ff := s.ff
  have gl0 : fLen [.ref fo] A = some (.int fs.length, A) := by simp [ff]
  obtain ⟨i, A1, z1, e1, i0, i1, b1, f1, t1⟩ := take_R (k := k) (by omega) hb (by omega) (m := (fs.length : Int)) (by omega) (by omega)
  have s1 := s.fr f1 m1 m2 m3
  obtain ⟨p0, hp0, ep, mp⟩ := at_get [] (xs := fs) (i := i) i0 i1
  have q1 : pIx (.ref fo) (.int i) A1 = some (.tup (nV p0), A1) := by
    rw [e_ixRI, s1.ff]
    dsimp only
    rw [atI_map, ep]
    rfl
  obtain ⟨ok0, l0⟩ := s.okf p0 mp
  obtain ⟨w, A2, z2, e2, hw, b2, f2, t2⟩ := word_R (k := k) (by omega) b1 (by omega)
  have s2 := s1.fr f2 m1 m2 m3
  obtain ⟨p, hp⟩ : ∃ p, p = p0 ++ [w] := ⟨_, rfl⟩
  have hpar : p.dropLast = [] ∨ ∃ o, lk rows p.dropLast = some (.fol o) := by
    rw [hp, List.dropLast_concat]
    exact j.fsr p0 mp
  have nmp : nmP p := by rw [hp]; exact ok0.snoc hw
  have lp1 : 1 ≤ p.length := by rw [hp]; simp
  have lp9 : p.length ≤ 9 := by rw [hp]; simp; omega
  have pv : nV p0 ++ [.str (S w)] = nV p := by rw [hp]; unfold nV; simp
  have pa : pAdd (.tup (nV p0)) (.tup [.str (S w)]) A2 = some (.tup (nV p), A2) := by
    rw [← pv]
    simp (disch := first | omega | (simp [nV]; omega)) []
  obtain ⟨y, A3, z3, e3, y0, y1, b3, f3, t3⟩ := take_R (k := k) (by omega) b2 (by omega) (m := 8) (by omega) (by omega)
  have hg : growF z rows ps fs = grow2 p y z3 rows ps fs := by
    unfold growF gpF
    rw [t1]
    dsimp only
    rw [t2]
    dsimp only
    rw [t3, hp0, hp]
  rw [hg]
  have s3 := s2.fr f3 m1 m2 m3
  have F3 := (f1.trans f2).trans f3
  have i3 := s3.in_ p
  have pp3 := s3.pp
  have gl3 : fLen [.ref pr] A3 = some (.int ps.length, A3) := by simp [pp3]
  have glp : fLen [.tup (nV p)] A3 = some (.int p.length, A3) := by simp [nV]
  rw [R141]
  have stop : ∀ (hh : (lk rows p).isSome = true ∨ 8 < p.length ∨ 190 < ps.length), ∃ A', runBody (f141_0 (R k)) 9 [.ref b, .ref rw', .ref pr, .ref fo] A = .ok .non A' ∧ G20 A b rw' pr fo n c A' (grow2 p y z3 rows ps fs) := fun hh => by
    refine ⟨A3, ?_, z3, rows, ps, fs, by unfold grow2; rw [if_pos hh], s3.more (by omega), j, b3.mono (by omega), wB F3⟩
    by_cases h1 : (lk rows p).isSome = true
    · rw [h1] at i3
      simp [runBody_eq, f141_0, gl0, -e_lenR, e1, q1, -e_ixRI, e2, pa, -e_addTT, e3, i3]
    · rw [Bool.not_eq_true] at h1
      rw [h1] at i3 hh
      by_cases h2 : 8 < p.length
      · have h2' : (8 : Int) < p.length := by omega
        simp [runBody_eq, f141_0, gl0, -e_lenR, e1, q1, -e_ixRI, e2, pa, -e_addTT, e3, i3, glp, -e_lenT, h2']
      · have h2' : ¬ (8 : Int) < p.length := by omega
        have h3 : 190 < ps.length := by
          rcases hh with h | h | h
          · cases h
          · exact absurd h h2
          · exact h
        have h3' : (190 : Int) < ps.length := by omega
        simp [runBody_eq, f141_0, gl0, -e_lenR, e1, q1, -e_ixRI, e2, pa, -e_addTT, e3, i3, glp, -e_lenT, h2', gl3, h3']
  by_cases hh : (lk rows p).isSome = true ∨ 8 < p.length ∨ 190 < ps.length
  · exact stop hh
  have h1 : (lk rows p).isSome = false := by
    cases h : (lk rows p).isSome with
    | true => exact absurd (.inl h) hh
    | false => rfl
  have h2 : p.length ≤ 8 := by
    rcases Nat.lt_or_ge 8 p.length with h | h
    · exact absurd (.inr (.inl h)) hh
    · exact h
  have h3 : ps.length ≤ 190 := by
    rcases Nat.lt_or_ge 190 ps.length with h | h
    · exact absurd (.inr (.inr h)) hh
    · exact h
  have hfree : freeR rows p := .inl (by
    cases h : lk rows p with
    | none => rfl
    | some r => rw [h] at h1; cases h1)
  rw [h1] at i3
  have h2' : ¬ (8 : Int) < p.length := by omega
  have h3' : ¬ (190 : Int) < ps.length := by omega
  have wR : ∀ {X Y : AHp}, Fr [rw'] X Y → Fr [b, rw', pr, fo] X Y := fun h => h.mono fun x hx => by simp at hx; simp [hx]
  have wP : ∀ {X Y : AHp}, Fr [pr] X Y → Fr [b, rw', pr, fo] X Y := fun h => h.mono fun x hx => by simp at hx; simp [hx]
  have wF : ∀ {X Y : AHp}, Fr [fo] X Y → Fr [b, rw', pr, fo] X Y := fun h => h.mono fun x hx => by simp at hx; simp [hx]
  have wBP : ∀ {X Y : AHp}, Fr [b, pr] X Y → Fr [b, rw', pr, fo] X Y := fun h => h.mono fun x hx => by simp at hx; rcases hx with rfl | rfl <;> simp
  have hg2 : grow2 p y z3 rows ps fs = if y < 3 then folG p z3 rows ps fs else if y < 6 then filG p z3 rows ps fs else gonG p y z3 rows ps fs := by unfold grow2; rw [if_neg hh]
  rw [hg2]
  by_cases c1 : y < 3
  · -- a folder
    rw [if_pos c1]
    have y7 : ¬ y = 7 := by omega
    obtain ⟨q, A4, z4, e4, k1, k2, k3, b4, f4, t4⟩ := anyp_R (k := k) (by omega) b3 (by omega)
    obtain ⟨A5, hA5⟩ : ∃ A5, A5 = A4 ++ [.lst [.non, .tup (nV p), .tup [], .tup (nV q)] false] := ⟨_, rfl⟩
    have f5 : Fr [] A4 A5 := by rw [hA5]; exact Fr.app _ _ _
    have g5 : gt A5 A4.length = some (.lst ([none, some p, some [], some q].map oV) false) := by rw [hA5]; exact gt_new
    obtain ⟨x, A6, z6, e6, x0, x1, b6, f6, t6⟩ := take_R (k := k) (by omega) (b4.fr f5 (by simp)) (by omega) (m := 4) (by omega) (by omega)
    have g6 := f6.gt g5 (by have := b4.lt; simp; omega)
    obtain ⟨o, ho, eo, mo⟩ := at_get none (xs := [none, some p, some [], some q]) (i := x) x0 (by simpa using x1)
    have q6 : pIx (.ref A4.length) (.int x) A6 = some (oV o, A6) := by
      rw [e_ixRI, g6]
      dsimp only
      rw [atI_map, eo]
      rfl
    have oko : okO o := by
      simp at mo
      rcases mo with rfl | rfl | rfl | rfl
      · intro p hp; cases hp
      · intro p' hp'; cases hp'; exact ⟨nmp, h2⟩
      · intro p' hp'; cases hp'; exact ⟨(fun w hw => by cases hw), by simp⟩
      · intro p' hp'; cases hp'; exact ⟨k1, k3⟩
    have s6 := ((s3.fr f4 m1 m2 m3).fr f5 (by simp) (by simp) (by simp)).fr f6 m1 m2 m3
    obtain ⟨A7, e7, s7, f7⟩ := s6.put nmp lp1 lp9 (r := .fol o) oko (by omega)
    obtain ⟨A8, e8, s8, f8⟩ := s7.fold nmp h2 (by omega)
    obtain ⟨xs, g8⟩ := app_lst e8
    have e7' : pPut (.ref rw') (.tup (nV p)) (.tup [.tup (nV p), .str (S [102, 111, 108, 100, 101, 114]), oV o]) A6 = some A7 := e7
    refine ⟨A8, ?_, z6, _, _, _, by unfold folG; rw [t4]; dsimp only; rw [t6]; dsimp only; rw [ho], s8, (j.put hfree hpar (by omega)).fold (o := o) (by rw [lk_pt, if_pos rfl]), ((b6.fr f7 (by simpa using nb1)).fr f8 (by simpa using nb3)).mono (by omega), ((((wB F3).trans (wB f4)).trans (fr_wide f5)).trans (wB f6)).trans ((wR f7).trans (wF f8))⟩
    simp [runBody_eq, f141_0, gl0, -e_lenR, e1, q1, -e_ixRI, e2, pa, -e_addTT, e3, i3, glp, -e_lenT, h2', gl3, h3', c1, y7, e4, ← hA5, e6, q6, e7', g8, e8, -e_append]
  rw [if_neg c1]
  by_cases c2 : y < 6
  · -- a file
    rw [if_pos c2]
    have y7 : ¬ y = 7 := by omega
    have put : ∀ (B : AHp) (ps' : List Pr) (i : Nat) (cB : Int) (zB : S3), S20 B rw' pr fo rows ps' fs n → J (pt rows p (.fil i)) ps' fs → i < ps'.length → Box B b cB zB → cB ≤ c + 1500 → Fr [b, rw', pr, fo] A B → ∃ B', pPut (.ref rw') (.tup (nV p)) (.tup [.tup (nV p), .str (S [102, 105, 108, 101]), .int i]) B = some B' ∧ G20 A b rw' pr fo n c B' (zB, pt rows p (.fil i), ps', fs) := fun B ps' i cB zB sB jB hi hB hcB fB => by
      obtain ⟨B', e, s', f'⟩ := sB.put nmp lp1 lp9 (r := .fil i) hi (by omega)
      exact ⟨B', e, zB, _, _, _, rfl, s'.more (by omega), jB, (hB.fr f' (by simpa using nb1)).mono (by omega), fB.trans (wR f')⟩
    have new : ∀ (B : AHp) (cB : Int) (zB : S3), S20 B rw' pr fo rows ps fs n → Box B b cB zB → cB ≤ c + 1000 → Fr [b, rw', pr, fo] A B → ∃ (i : Int) (B1 : AHp), R k 140 [.ref b, .ref pr] B = .ok (.int i) B1 ∧ ((i < 0 ∧ G20 A b rw' pr fo n c B1 (newG p zB rows ps fs)) ∨ (¬ i < 0 ∧ ∃ B2, pPut (.ref rw') (.tup (nV p)) (.tup [.tup (nV p), .str (S [102, 105, 108, 101]), .int i]) B1 = some B2 ∧ G20 A b rw' pr fo n c B2 (newG p zB rows ps fs))) := fun B cB zB sB hB hcB fB => by
      obtain ⟨i, B1, ps', z', e, hor, s', b', f', t'⟩ := newf_R sB hB nb1 nb2 nb3 (k := k) (by omega) (by omega) h3
      refine ⟨i, B1, e, ?_⟩
      unfold newG
      rw [t']
      dsimp only
      rcases hor with ⟨rfl, rfl⟩ | ⟨hi, y0, rfl, hy0⟩
      · exact .inl ⟨by omega, z', _, _, _, by rw [if_pos (by omega)], s'.more (by omega), j, b'.mono (by omega), fB.trans (wBP f')⟩
      · subst hi
        obtain ⟨B2, e2, g2⟩ := put B1 (ps ++ [y0]) ps.length (cB + 400) z' s' (j.newfil hy0 hfree hpar h2) (by simp) b' (by omega) (fB.trans (wBP f'))
        rw [if_neg (by omega), Int.toNat_natCast]
        exact .inr ⟨by omega, B2, e2, g2⟩
    unfold filG
    by_cases zl : 0 < ps.length
    · rw [if_pos zl]
      have z' : ¬ ps = [] := List.length_pos_iff.mp zl
      obtain ⟨u, A4, z4, e4, u0, u1, b4, f4, t4⟩ := take_R (k := k) (by omega) b3 (by omega) (m := 3) (by omega) (by omega)
      rw [t4]
      dsimp only
      have s4 := s3.fr f4 m1 m2 m3
      by_cases hu : u = 0
      · subst hu
        rw [if_pos rfl]
        have pp4 := s4.pp
        have gl4 : fLen [.ref pr] A4 = some (.int ps.length, A4) := by simp [pp4]
        obtain ⟨v, A5, z5, e5, v0, v1, b5, f5, t5⟩ := take_R (k := k) (by omega) b4 (by omega) (m := (ps.length : Int)) (by omega) (by omega)
        rw [t5]
        dsimp only
        have s5 := s4.fr f5 m1 m2 m3
        obtain ⟨vn, rfl⟩ : ∃ vn : Nat, v = vn := ⟨v.toNat, by omega⟩
        obtain ⟨A6, e6, g6⟩ := put A5 ps vn _ z5 s5 (j.put hfree hpar (by omega)) (by omega) b5 (by omega) (((wB F3).trans (wB f4)).trans (wB f5))
        rw [Int.toNat_natCast]
        refine ⟨A6, ?_, g6⟩
        have v0' : ¬ (vn : Int) < 0 := by omega
        simp [runBody_eq, f141_0, gl0, -e_lenR, e1, q1, -e_ixRI, e2, pa, -e_addTT, e3, i3, glp, -e_lenT, h2', gl3, h3', c1, c2, y7, z', e4, gl4, e5, v0', e6]
      · rw [if_neg hu]
        obtain ⟨i, B1, e5, hor⟩ := new A4 _ _ s4 b4 (by omega) ((wB F3).trans (wB f4))
        rcases hor with ⟨hi, g⟩ | ⟨hi, B2, e6, g⟩
        · refine ⟨B1, ?_, g⟩
          have hi' : ¬ (0 : Int) ≤ i := by omega
          simp [runBody_eq, f141_0, gl0, -e_lenR, e1, q1, -e_ixRI, e2, pa, -e_addTT, e3, i3, glp, -e_lenT, h2', gl3, h3', c1, c2, y7, z', e4, hu, e5, hi']
        · refine ⟨B2, ?_, g⟩
          have hi' : (0 : Int) ≤ i := by omega
          simp [runBody_eq, f141_0, gl0, -e_lenR, e1, q1, -e_ixRI, e2, pa, -e_addTT, e3, i3, glp, -e_lenT, h2', gl3, h3', c1, c2, y7, z', e4, hu, e5, hi', e6]
    · rw [if_neg zl]
      have z' : ps = [] := List.length_eq_zero_iff.mp (by omega)
      obtain ⟨i, B1, e5, hor⟩ := new A3 _ _ s3 b3 (by omega) (wB F3)
      rcases hor with ⟨hi, g⟩ | ⟨hi, B2, e6, g⟩
      · refine ⟨B1, ?_, g⟩
        have hi' : ¬ (0 : Int) ≤ i := by omega
        simp [runBody_eq, f141_0, gl0, -e_lenR, e1, q1, -e_ixRI, e2, pa, -e_addTT, e3, i3, glp, -e_lenT, h2', gl3, h3', c1, c2, y7, z', e5, hi']
      · refine ⟨B2, ?_, g⟩
        have hi' : (0 : Int) ≤ i := by omega
        simp [runBody_eq, f141_0, gl0, -e_lenR, e1, q1, -e_ixRI, e2, pa, -e_addTT, e3, i3, glp, -e_lenT, h2', gl3, h3', c1, c2, y7, z', e5, hi', e6]
  -- a mark
  rw [if_neg c2]
  unfold gonG
  obtain ⟨A4, e4, s4, f4⟩ := s3.put nmp lp1 lp9 (r := .gone) trivial (by omega)
  have e4' : pPut (.ref rw') (.tup (nV p)) (.tup [.tup (nV p), .str (S [103, 111, 110, 101])]) A3 = some A4 := e4
  have b4 := b3.fr f4 (by simpa using nb1)
  have F4 := (wB F3).trans (wR f4)
  by_cases y7 : y = 7
  · subst y7
    rw [if_pos rfl]
    obtain ⟨q, A5, z5, e5, k1, k2, k3, b5, f5, t5⟩ := anyp_R (k := k) (by omega) b4 (by omega)
    rw [t5]
    dsimp only
    have s5 := s4.fr f5 m1 m2 m3
    obtain ⟨A6, hA6⟩ : ∃ A6, A6 = A5 ++ [.lst ((ps.map Prod.fst).map oV) false] := ⟨_, rfl⟩
    have f6 : Fr [] A5 A6 := by rw [hA6]; exact Fr.app _ _ _
    have g6 : gt A6 A5.length = some (.lst ((ps.map Prod.fst).map oV) false) := by rw [hA6]; exact gt_new
    have gp := s5.pp
    have cc : (f141_0_c0 (R k)) [some (.ref b), some (.ref rw'), some (.ref pr), some (.ref fo), some (.tup (nV p)), some (.int 7), none, some (.tup (nV q)), none] A5 = .ok (.ref A5.length) A6 := by
      unfold f141_0_c0 dLc
      rw [hA6]
      have := origins (A := A5) gp s5.lp (dBin pIx (dVar 8) (dC (.int 0))) (gNm 8) [some (.ref b), some (.ref rw'), some (.ref pr), some (.ref fo), some (.tup (nV p)), some (.int 7), none, some (.tup (nV q)), none] (fun B x => ⟨[some (.ref b), some (.ref rw'), some (.ref pr), some (.ref fo), some (.tup (nV p)), some (.int 7), none, some (.tup (nV q)), some (pairV x)], by simp, by simp [pairV]⟩)
      simp [gp, wipeA, this]
    have okq : okO (some q) := fun p' hp' => by cases hp'; exact ⟨k1, k3⟩
    have ei := (in_p g6 (fun o ho' => by
      obtain ⟨x, hx, rfl⟩ := List.mem_map.mp ho'
      exact (s5.okp x hx).1) (p := q) okq).2
    have s6 := s5.fr f6 (by simp) (by simp) (by simp)
    have b6 := b5.fr f6 (by simp)
    have F6 := (F4.trans (wB f5)).trans (fr_wide f6)
    by_cases hin : ((ps.map Prod.fst).any fun o => decide (o = some q)) = true
    · have hin0 := hin
      rw [hin] at ei
      refine ⟨A6, ?_, z5, _, _, _, by rw [if_pos hin0], s6.more (by omega), j.put hfree hpar (fun _ => rfl), b6.mono (by omega), F6⟩
      simp [runBody_eq, f141_0, gl0, -e_lenR, e1, q1, -e_ixRI, e2, pa, -e_addTT, e3, i3, glp, -e_lenT, h2', gl3, h3', e4', e5, cc, ei]
    · have hin0 := hin
      rw [Bool.not_eq_true] at hin
      rw [hin] at ei
      rw [if_neg hin0]
      obtain ⟨t, A7, z7, e7, t1, t2, b7, f7, t7⟩ := text_R (k := k) (by omega) b6 (by omega)
      obtain ⟨A8, hA8⟩ : ∃ A8, A8 = A7 ++ [.lst [.non, .str (S t)] false] := ⟨_, rfl⟩
      have f8 : Fr [] A7 A8 := by rw [hA8]; exact Fr.app _ _ _
      have g8 : gt A8 A7.length = some (.lst ([none, some t].map xV) false) := by rw [hA8]; exact gt_new
      rw [t7]
      dsimp only
      obtain ⟨x, A9, z9, e9, x0, x1, b9, f9, t9⟩ := take_R (k := k) (by omega) (b7.fr f8 (by simp)) (by omega) (m := 2) (by omega) (by omega)
      rw [t9]
      dsimp only
      have g9 := f9.gt g8 (by have := b7.lt; simp; omega)
      obtain ⟨o, ho, eo, mo⟩ := at_get none (xs := [none, some t]) (i := x) x0 (by simpa using x1)
      rw [ho]
      have q9 : pIx (.ref A7.length) (.int x) A9 = some (xV o, A9) := by
        rw [e_ixRI, g9]
        dsimp only
        rw [atI_map, eo]
        rfl
      have okx : okX o := by
        simp at mo
        rcases mo with rfl | rfl
        · intro w hw; cases hw
        · intro w hw; cases hw; exact ⟨t1, t2⟩
      have s9 := ((s6.fr f7 m1 m2 m3).fr f8 (by simp) (by simp) (by simp)).fr f9 m1 m2 m3
      obtain ⟨B1, e10, s10, f10⟩ := s9.pair (q := (some q, o)) ⟨okq, okx, fun p' hp' => (by cases hp'; exact k2), fun hn => nomatch hn⟩ (by omega)
      obtain ⟨xs, g10⟩ := app_lst e10
      have e10' : mAppend (.ref pr) [.tup [.tup (nV q), xV o]] A9 = some (.non, B1) := e10
      have gp6 : ∃ xs, gt A6 pr = some (.lst xs false) := ⟨_, s6.pp⟩
      obtain ⟨xs6, gp6⟩ := gp6
      refine ⟨B1, ?_, z9, _, _, _, rfl, s10.more (by omega), (j.put hfree hpar (fun _ => rfl)).pair (by simp) (.inr ⟨q, rfl, fun hm => by
        have := List.any_eq_false.mp hin (some q) hm
        simp at this⟩), (b9.fr f10 (by simpa using nb2)).mono (by omega), (((F6.trans (wB f7)).trans (fr_wide f8)).trans (wB f9)).trans (wP f10)⟩
      simp [runBody_eq, f141_0, gl0, -e_lenR, e1, q1, -e_ixRI, e2, pa, -e_addTT, e3, i3, glp, -e_lenT, h2', gl3, h3', e4', e5, cc, ei, gp6, e7, ← hA8, e9, q9, e10', -e_append]
  · rw [if_neg y7]
    refine ⟨A4, ?_, z3, _, _, _, rfl, s4.more (by omega), j.put hfree hpar (fun _ => rfl), b4.mono (by omega), F4⟩
    simp [runBody_eq, f141_0, gl0, -e_lenR, e1, q1, -e_ixRI, e2, pa, -e_addTT, e3, i3, glp, -e_lenT, h2', gl3, h3', c1, c2, e4', y7]
end
end Law
end
section
namespace Law
open PySem PySem.Spec L2 Ev
set_option autoImplicit false
/-! a layer told -/
def rowW : Row → List Nat
  | .fol _ => [102, 111, 108, 100, 101, 114]
  | .fil _ => [102, 105, 108, 101]
  | .gone => [103, 111, 110, 101]
theorem rowV_1 (p : Pth) (r : Row) (A : AHp) : pIx (rowV p r) (.int 1) A = some (.str (S (rowW r)), A) := by
  cases r <;> simp [rowV, rowW]
theorem rowV_0 (p : Pth) (r : Row) (A : AHp) : pIx (rowV p r) (.int 0) A = some (.tup (nV p), A) := by
  cases r <;> simp [rowV]
def setF (rows : List (Pth × Row)) (p : Pth) : Row × List (Pth × Row) := match lk rows p with
  | some r => (r, rows)
  | none => (.fol none, pt rows p (.fol none))
def deepI (w : List Nat) (rows : List (Pth × Row)) : Nat → List (Pth × Row) × Bool
  | 0 => (rows, true)
  | i + 1 => if (deepI w rows i).2 = true then ((setF (deepI w rows i).1 (List.replicate (i + 1) w)).2, decide (rowW (setF (deepI w rows i).1 (List.replicate (i + 1) w)).1 = [102, 111, 108, 100, 101, 114])) else deepI w rows i
theorem deepI_stop {w : List Nat} {rows : List (Pth × Row)} {i : Nat} (h : (deepI w rows i).2 = false) : ∀ m, i ≤ m → deepI w rows m = deepI w rows i
  | 0, hm => by rw [Nat.le_zero.mp hm]
  | m + 1, hm => by
    by_cases e : i = m + 1
    · rw [e]
    have ih := deepI_stop h m (by omega)
    rw [deepI, ih, h, if_neg (by simp)]
def deepF (w : List Nat) (rows : List (Pth × Row)) : List (Pth × Row) := if (deepI w rows 8).2 = true then pt (deepI w rows 8).1 (List.replicate 9 w) .gone else (deepI w rows 8).1
def itG : Nat → GS → GS
  | 0, g => g
  | n + 1, g => growF (itG n g).1 (itG n g).2.1 (itG n g).2.2.1 (itG n g).2.2.2
def growsF (ns : List Int) (i : Nat) (rows : List (Pth × Row)) (ps : List Pr) (fs : List Pth) : List (Pth × Row) × List Pr × List Pth := (itG (1 + (tkF (boxF ns i) 3).1).toNat ((tkF (boxF ns i) 3).2, rows, ps, fs)).2
section
variable {k : Nat} {A A' : AHp} {b rw' pr fo : Nat} {c : Int} {rows : List (Pth × Row)} {ps : List Pr} {fs : List Pth} {n : Nat}
theorem S20.setd (s : S20 A rw' pr fo rows ps fs n) (j : J rows ps fs) {p : Pth} (hp : nmP p) (h1 : 1 ≤ p.length) (h8 : p.length ≤ 8) (hpar : p.dropLast = [] ∨ ∃ o, lk rows p.dropLast = some (.fol o)) (hn : n ≤ 10000) : ∃ r A' rows', mSetd (.ref rw') [.tup (nV p), rowV p (.fol none)] A = some (rowV p r, A') ∧ S20 A' rw' pr fo rows' ps fs (n + 1) ∧ J rows' ps fs ∧ lk rows' p = some r ∧ Fr [rw'] A A' ∧ setF rows p = (r, rows') := by
  have hl := s.lr
  have e := d_setd (b := .tup (nV p)) s.rr (keyOf_tV p) (kind_P _ _) (by rw [enc_len, rowsV_len]; omega) (rowV p (.fol none))
  rw [getK_enc kP_inj, lk_rowsV] at e
  obtain ⟨A2, e2, s2, f2⟩ := s.put hp h1 (by omega) (r := .fol none) (fun q hq => by cases hq) hn
  cases h : lk rows p with
  | some r =>
    rw [h] at e
    exact ⟨r, A, rows, e, s.more (by omega), j, h, Fr.refl _ _, by unfold setF; rw [h]⟩
  | none =>
    rw [h] at e
    have e3 := d_put (b := .tup (nV p)) s.rr (keyOf_tV p) (kind_P _ _) (by rw [enc_len, rowsV_len]; omega) (rowV p (.fol none))
    rw [e3] at e2
    cases e2
    exact ⟨.fol none, _, _, e, s2, j.put (.inl h) hpar (by omega), by rw [lk_pt, if_pos rfl], f2, by unfold setF; rw [h]⟩
/-- a row's place: in the root or a folder's row -/
def HeadF (rows : List (Pth × Row)) (q : Pth) : Prop := q = [] ∨ ∃ o, lk rows q = some (.fol o)
theorem nm_rep {w : List Nat} (hw : nmB w = true) (m : Nat) : nmP (List.replicate m w) := fun x hx => by rw [(List.mem_replicate.mp hx).2]; exact hw
theorem deep_R (s : S20 A rw' pr fo rows ps fs n) (j : J rows ps fs) {w : List Nat} (hw : nmB w = true) (hk : 1 ≤ k) (hn : n ≤ 9000) : ∃ A' rows', R k 142 [.ref rw', .str (S w)] A = .ok .non A' ∧ S20 A' rw' pr fo rows' ps fs (n + 9) ∧ J rows' ps fs ∧ Fr [rw'] A A' ∧ deepF w rows = rows' := by
  obtain ⟨k, rfl, hk⟩ := succ_of hk
  have snoc : ∀ m, nV (List.replicate m w) ++ [.str (S w)] = nV (List.replicate (m + 1) w) := fun m => by
    rw [List.replicate_succ']
    unfold nV
    simp
  have pa : ∀ (m : Nat) (B : AHp), m ≤ 100 → pAdd (.tup (nV (List.replicate m w))) (.tup [.str (S w)]) B = some (.tup (nV (List.replicate (m + 1) w)), B) := fun m B hm => by
    rw [← snoc]
    simp (disch := first | omega | (simp [nV]; omega)) []
  have lr := loop_run (src := srcR 0 8) (g := gNm 3) (body := f142_0_l0 (R k)) (rngL 0 8)
    (fun i τ B => ∃ rows' x3, S20 B rw' pr fo rows' ps fs (n + i) ∧ (J rows' ps fs ∧ HeadF rows' (List.replicate i w) ∧ deepI w rows i = (rows', true)) ∧ Fr [rw'] A B ∧ τ = [some (.ref rw'), some (.str (S w)), some (.tup (nV (List.replicate i w))), x3])
    (fun q => ∃ rows' B, S20 B rw' pr fo rows' ps fs (n + 8) ∧ J rows' ps fs ∧ Fr [rw'] A B ∧ ((deepF w rows = rows' ∧ q = .rt .non B) ∨ (HeadF rows' (List.replicate 8 w) ∧ deepI w rows 8 = (rows', true)) ∧ ∃ x3, q = .nx [some (.ref rw'), some (.str (S w)), some (.tup (nV (List.replicate 8 w))), x3] B)) (fun i τ B hi ⟨rows', x3, hS, ⟨hJ, hP, hD⟩, hF, hτ⟩ => by
      subst hτ
      refine ⟨src_R _ _ _ _, fun v hv => ?_⟩
      obtain ⟨rfl, hi2⟩ := rngL_get hv
      have hdl : (List.replicate (i + 1) w).dropLast = List.replicate i w := by rw [List.replicate_succ', List.dropLast_concat]
      obtain ⟨r, B2, rows2, e, s2, j2, k2, f2, d2⟩ := hS.setd hJ (p := List.replicate (i + 1) w) (nm_rep hw _) (by simp) (by simp; omega) (by rw [hdl]; exact hP) (by omega)
      refine ⟨[some (.ref rw'), some (.str (S w)), some (.tup (nV (List.replicate i w))), some (.int (0 + i))], by simp, ?_⟩
      have hD2 : deepI w rows (i + 1) = (rows2, decide (rowW r = [102, 111, 108, 100, 101, 114])) := by rw [deepI, hD, if_pos rfl, d2]
      have hr := rowV_1 (List.replicate (i + 1) w) r B2
      have e' : mSetd (.ref rw') [.tup (nV (List.replicate (i + 1) w)), .tup [.tup (nV (List.replicate (i + 1) w)), .str (S [102, 111, 108, 100, 101, 114]), .non]] B = some (rowV (List.replicate (i + 1) w) r, B2) := e
      have rr := hS.rr
      by_cases hf : rowW r = [102, 111, 108, 100, 101, 114]
      · rw [hf] at hr
        simp [f142_0_l0, pa i B (by omega), -e_addTT, rr, e', hr]
        refine ⟨rows2, s2, ⟨j2, ?_, by rw [hD2, hf]; rfl⟩, hF.trans f2⟩
        cases r with
        | fol o => exact .inr ⟨o, k2⟩
        | fil n => cases hf
        | gone => cases hf
      · simp [f142_0_l0, pa i B (by omega), -e_addTT, rr, e', hr, hf]
        have hD3 : deepI w rows 8 = (rows2, false) := by
          have := deepI_stop (w := w) (rows := rows) (i := i + 1) (by rw [hD2]; simp [hf]) 8 (by omega)
          rw [this, hD2]
          simp [hf]
        exact ⟨rows2, B2, s2.more (by omega), j2, hF.trans f2, by unfold deepF; rw [hD3]; rfl, rfl⟩) (fun τ B ⟨rows', x3, hS, ⟨hJ, hP, hD⟩, hF, hτ⟩ => by
      rw [rngL_length] at hS hτ hP hD
      exact ⟨rows', B, hS, hJ, hF, .inr ⟨⟨hP, hD⟩, x3, by rw [hτ]⟩⟩) (τ := [some (.ref rw'), some (.str (S w)), some (.tup []), none]) (A0 := A) ⟨rows, none, s, ⟨j, .inl rfl, rfl⟩, Fr.refl _ _, rfl⟩
  rw [rngL_length] at lr
  obtain ⟨rows', B, hS, hJ, hF, hor⟩ := lr
  rw [R142]
  rcases hor with ⟨hD, e⟩ | ⟨⟨hP, hD⟩, x3, e⟩
  · refine ⟨B, rows', ?_, hS.more (by omega), hJ, hF, hD⟩
    simp [runBody_eq, f142_0, e]
  · obtain ⟨C, e2, s2, f2⟩ := hS.put (p := List.replicate 9 w) (nm_rep hw _) (by simp) (by simp) (r := .gone) trivial (by omega)
    have e2' : pPut (.ref rw') (.tup (nV (List.replicate 9 w))) (.tup [.tup (nV (List.replicate 9 w)), .str (S [103, 111, 110, 101])]) B = some C := e2
    have hfree : freeR rows' (List.replicate 9 w) := by
      cases h : lk rows' (List.replicate 9 w) with
      | none => exact .inl h
      | some r => exact .inr (by rw [h, hJ.len _ r h (by simp)])
    refine ⟨C, _, ?_, s2, hJ.put hfree (by rw [show (9 : Nat) = 8 + 1 from rfl, List.replicate_succ', List.dropLast_concat]; exact hP) (fun _ => rfl), hF.trans f2, by unfold deepF; rw [hD]; rfl⟩
    have p8 : pAdd (.tup (nV (List.replicate 8 w))) (.tup [.str (S w)]) B = some (.tup (nV (List.replicate 9 w)), B) := pa 8 B (by omega)
    clear hF hP hfree s2 f2 e2 hD
    generalize nV (List.replicate 8 w) = v8 at e p8
    generalize nV (List.replicate 9 w) = v9 at p8 e2'
    simp [runBody_eq, f142_0, e, p8, -e_addTT, e2']
def shR (t np : Nat) : Row → Row
  | .fil i => .fil ((i + t) % np)
  | r => r
def entsL (rows : List (Pth × Row)) (t np : Nat) : List (Pth × Row) := (srt (rows.map Prod.fst)).map fun p => (p, shR t np ((lk rows p).getD .gone))
def entV (x : Pth × Row) : AV := rowV x.1 x.2
theorem grows_R (s : S20 A rw' pr fo rows ps fs n) (j0 : J rows ps fs) (hk : 6 ≤ k) (hn : n ≤ 8000) {sv : AV} {ns : List Int} (hs : ScV A sv ns) (i : Nat) (x4 x5 x6 x7 x8 x9 x10 : Option AV) (h1 : ∀ j, sv = .ref j → j ≠ rw' ∧ j ≠ pr ∧ j ≠ fo) :
    ∃ y5 y6 A' rows' ps' fs', f143_0_l1 (R k) [some sv, some (.ref rw'), some (.ref pr), some (.ref fo), some (.int i), x5, x6, x7, x8, x9, x10] A = .nx [some sv, some (.ref rw'), some (.ref pr), some (.ref fo), some (.int i), y5, y6, x7, x8, x9, x10] A' ∧ S20 A' rw' pr fo rows' ps' fs' (n + 6) ∧ J rows' ps' fs' ∧ Fr [rw', pr, fo] A A' ∧ growsF ns i rows ps fs = (rows', ps', fs') := by
  obtain ⟨b, A1, e1, hb, lb, f1⟩ := box20 (k := k) (by omega) A hs i (by omega)
  have s1 := s.fr f1 (by simp) (by simp) (by simp)
  have n1 : b ≠ rw' := by have := gt_lt s.rr; omega
  have n2 : b ≠ pr := by have := gt_lt s.pp; omega
  have n3 : b ≠ fo := by have := gt_lt s.ff; omega
  obtain ⟨m, A2, z2, e2, m0, m1, b2, f2, t2⟩ := take_R (k := k) (by omega) hb (by omega) (m := 3) (by omega) (by omega)
  have s2 := s1.fr f2 (by simpa using Ne.symm n1) (by simpa using Ne.symm n2) (by simpa using Ne.symm n3)
  obtain ⟨t, ht, t3⟩ : ∃ t : Nat, 1 + m = t ∧ t ≤ 3 := ⟨(1 + m).toNat, by omega, by omega⟩
  have hG : growsF ns i rows ps fs = (itG t (z2, rows, ps, fs)).2 := by
    unfold growsF
    rw [t2]
    dsimp only
    rw [ht, Int.toNat_natCast]
  rw [hG]
  have lr := loop_run (src := srcR 0 t) (g := gNm 6) (body := f143_0_l0 (R k)) (rngL 0 t)
    (fun j τ B => (∃ (z' : S3) (rows' : List (Pth × Row)) (ps' : List Pr) (fs' : List Pth), S20 B rw' pr fo rows' ps' fs' (n + 2 * j) ∧ J rows' ps' fs' ∧ Box B b (1 + 1500 * j) z' ∧ itG j (z2, rows, ps, fs) = (z', rows', ps', fs')) ∧ Fr [b, rw', pr, fo] A2 B ∧ ∃ y6, τ = [some sv, some (.ref rw'), some (.ref pr), some (.ref fo), some (.int i), some (.ref b), y6, x7, x8, x9, x10])
    (fun q => ∃ y6 B rows' ps' fs', q = .nx [some sv, some (.ref rw'), some (.ref pr), some (.ref fo), some (.int i), some (.ref b), y6, x7, x8, x9, x10] B ∧ S20 B rw' pr fo rows' ps' fs' (n + 6) ∧ J rows' ps' fs' ∧ Fr [b, rw', pr, fo] A2 B ∧ (itG t (z2, rows, ps, fs)).2 = (rows', ps', fs')) (fun j τ B hj ⟨⟨z', rows', ps', fs', hS, hJ, hB, hI⟩, hF, y6, hτ⟩ => by
      subst hτ
      refine ⟨src_R _ _ _ _, fun v hv => ?_⟩
      obtain ⟨rfl, hj2⟩ := rngL_get hv
      obtain ⟨B', e, z3, rows2, ps2, fs2, hg, sB, jB, bB, fB⟩ := grow_R hS hJ hB n1 n2 n3 (k := k) (by omega) (by omega) (by omega)
      refine ⟨[some sv, some (.ref rw'), some (.ref pr), some (.ref fo), some (.int i), some (.ref b), some (.int (0 + j)), x7, x8, x9, x10], by simp, ?_⟩
      simp [f143_0_l0, e, -Prod.exists]
      exact ⟨⟨z3, rows2, ps2, fs2, sB, jB, bB.mono (by omega), by rw [itG, hI]; exact hg⟩, hF.trans fB⟩) (fun τ B ⟨⟨z', rows', ps', fs', hS, hJ, hB, hI⟩, hF, y6, hτ⟩ => by
      rw [rngL_length] at hS hI
      exact ⟨y6, B, rows', ps', fs', by rw [hτ], hS.more (by omega), hJ, hF, by rw [hI]⟩) (τ := [some sv, some (.ref rw'), some (.ref pr), some (.ref fo), some (.int i), some (.ref b), x6, x7, x8, x9, x10]) (A0 := A2) ⟨⟨z2, rows, ps, fs, s2, j0, b2.mono (by omega), rfl⟩, Fr.refl _ _, x6, rfl⟩
  rw [rngL_length] at lr
  obtain ⟨y6, B, rows', ps', fs', e, sB, jB, fB, hI⟩ := lr
  refine ⟨some (.ref b), y6, B, rows', ps', fs', ?_, sB, jB, ?_, hI⟩
  · have r1 := e_rng1 (t : Int) (by omega)
    rw [Int.toNat_natCast] at r1
    simp [f143_0_l1, e1, e2, ht, r1, e]
  · exact (((fr_wide f1).trans (f2.mono fun x hx => by simp at hx; simp [hx])).trans fB).new lb
end
end Law
end
section
namespace Law
open PySem PySem.Spec L2 Ev
set_option autoImplicit false
/-! a layer drawn, whole -/
structure okL (es : List (Pth × Row)) (qs : List Pr) : Prop where
  srt : (es.map Prod.fst).Pairwise (· < ·)
  row : ∀ x ∈ es, nmP x.1 ∧ 1 ≤ x.1.length ∧ x.1.length ≤ 9 ∧ okRow qs.length x.2
  par : ∀ x ∈ es, x.1.dropLast = [] ∨ ∃ o, (x.1.dropLast, Row.fol o) ∈ es
  len : ∀ x ∈ es, 8 < x.1.length → x.2 = .gone
  pr : ∀ q ∈ qs, okPr q
  org : (qs.filterMap Prod.fst).Nodup
  nam : ∀ (i : Nat) x, qs[i]? = some (none, x) → ∃ p, (p, Row.fil i) ∈ es
  le : es.length ≤ 400
  lq : qs.length ≤ 192
def layV (es : List (Pth × Row)) (qs : List Pr) : AV := .tup [.tup (es.map entV), .tup (qs.map pairV)]
def turnL (ps : List Pr) (t : Nat) : List Pr := ps.drop (ps.length - t) ++ ps.take (ps.length - t)
theorem turnL_len (ps : List Pr) (t : Nat) : (turnL ps t).length = ps.length := by unfold turnL; simp
theorem turnL_perm (ps : List Pr) (t : Nat) : (turnL ps t).Perm ps := by
  unfold turnL
  refine List.perm_append_comm.trans ?_
  rw [List.take_append_drop]
theorem turnL_at {ps : List Pr} {t j : Nat} (ht : t ≤ ps.length) {x : Pr} (h : (turnL ps t)[j]? = some x) : ∃ i, ps[i]? = some x ∧ (i + t) % ps.length = j := by
  have hj := (List.getElem?_eq_some_iff.mp h).1
  rw [turnL_len] at hj
  unfold turnL at h
  by_cases c : j < t
  · rw [List.getElem?_append_left (by simp; omega), List.getElem?_drop] at h
    refine ⟨_, h, ?_⟩
    rw [show ps.length - t + j + t = ps.length + j by omega, Nat.add_mod_left, Nat.mod_eq_of_lt hj]
  · rw [List.getElem?_append_right (by simp; omega), List.length_drop, List.getElem?_take_of_lt (by omega)] at h
    refine ⟨_, h, ?_⟩
    rw [show j - (ps.length - (ps.length - t)) + t = j by omega, Nat.mod_eq_of_lt hj]
section
variable {k : Nat} {A A' : AHp} {b rw' pr fo : Nat} {c : Int} {rows : List (Pth × Row)} {ps : List Pr} {fs : List Pth} {n : Nat}
theorem mem_entsL {t np : Nat} {x : Pth × Row} : x ∈ entsL rows t np ↔ ∃ r, lk rows x.1 = some r ∧ x.2 = shR t np r := by
  unfold entsL
  rw [List.mem_map]
  constructor
  · rintro ⟨p, hp, rfl⟩
    rw [mem_srt] at hp
    have := lk_isSome.mpr hp
    cases h : lk rows p with
    | none => rw [h] at this; cases this
    | some r => exact ⟨r, rfl, by simp⟩
  · rintro ⟨r, h, e⟩
    refine ⟨x.1, mem_srt.mpr (lk_isSome.mp (by rw [h]; rfl)), ?_⟩
    rw [h]
    exact Prod.ext rfl e.symm
theorem okL_of (s : S20 A rw' pr fo rows ps fs n) (j : J rows ps fs) {t : Nat} (ht : t ≤ ps.length) (hn : n ≤ 400) : okL (entsL rows t ps.length) (turnL ps t) := by
  have hk : (entsL rows t ps.length).map Prod.fst = srt (rows.map Prod.fst) := by
    unfold entsL
    rw [List.map_map]
    exact List.map_id'' (fun _ => rfl) _
  refine ⟨by rw [hk]; exact srt_lt s.nd, fun x hx => ?_, fun x hx => ?_, fun x hx h8 => ?_, fun q hq => s.okp q ((turnL_perm ps t).mem_iff.mp hq), ((turnL_perm ps t).filterMap Prod.fst).nodup_iff.mpr j.org, fun i x h => ?_, ?_, by rw [turnL_len]; exact s.lp⟩
  · obtain ⟨r, e, e2⟩ := mem_entsL.mp hx
    obtain ⟨h1, h2, h3, h4⟩ := s.okr _ (lk_mem e)
    refine ⟨h1, h2, h3, ?_⟩
    rw [e2, turnL_len]
    cases r with
    | fol o => exact h4
    | fil i => exact Nat.mod_lt _ (Nat.lt_of_le_of_lt (Nat.zero_le _) h4)
    | gone => trivial
  · obtain ⟨r, e, e2⟩ := mem_entsL.mp hx
    rcases j.par _ _ e with h | ⟨o, h⟩
    · exact .inl h
    · exact .inr ⟨o, mem_entsL.mpr ⟨_, h, rfl⟩⟩
  · obtain ⟨r, e, e2⟩ := mem_entsL.mp hx
    rw [e2, j.len _ _ e h8]
    rfl
  · obtain ⟨i', h1, h2⟩ := turnL_at ht h
    obtain ⟨p, h3⟩ := j.nam i' x h1
    exact ⟨p, mem_entsL.mpr ⟨_, h3, by rw [← h2]; rfl⟩⟩
  · unfold entsL
    rw [List.length_map, srt_len, List.length_map]
    have := s.lr
    omega
theorem ents_R (s : S20 A rw' pr fo rows ps fs n) (hn : n ≤ 10000) {t : Nat} {x0 x4 x5 x7 : Option AV} {en : Nat} (ge : gt A en = some (.lst [] false)) (n1 : en ≠ rw') (n2 : en ≠ pr) (x9 x10 : Option AV) :
    ∃ y9 y10 A', sFor (iAny (dCB fSorted (dCons (dVar 1) dNil))) (gNm 9) (f143_0_l2 (R k)) [x0, some (.ref rw'), some (.ref pr), some (.ref fo), x4, x5, some (.int t), x7, some (.ref en), x9, x10] A = .nx [x0, some (.ref rw'), some (.ref pr), some (.ref fo), x4, x5, some (.int t), x7, some (.ref en), y9, y10] A' ∧
      gt A' en = some (.lst ((entsL rows t ps.length).map entV) false) ∧ Fr [en] A A' := by
  have e1 := sort_dP (n := rw') (lk' := false) s.rr
  rw [rowsV_fst] at e1
  have hen := gt_lt ge
  have hln := s.lr
  obtain ⟨A1, hA1⟩ : ∃ A1, A1 = A ++ [.lst ((srt (rows.map Prod.fst)).map tV) false] := ⟨_, rfl⟩
  have F1 : Fr [en] A A1 := by rw [hA1]; exact Fr.app _ _ _
  have g1 : gt A1 A.length = some (.lst ((srt (rows.map Prod.fst)).map tV) false) := by rw [hA1]; exact gt_new
  have lr := loop_run (src := srcL A.length) (g := gNm 9) (body := f143_0_l2 (R k)) ((srt (rows.map Prod.fst)).map tV)
    (fun i τ B => Fr [en] A1 B ∧ gt B en = some (.lst (((entsL rows t ps.length).take i).map entV) false) ∧ ∃ y9 y10, τ = [x0, some (.ref rw'), some (.ref pr), some (.ref fo), x4, x5, some (.int t), x7, some (.ref en), y9, y10])
    (fun q => ∃ y9 y10 A', q = .nx [x0, some (.ref rw'), some (.ref pr), some (.ref fo), x4, x5, some (.int t), x7, some (.ref en), y9, y10] A' ∧ gt A' en = some (.lst ((entsL rows t ps.length).map entV) false) ∧ Fr [en] A A')
    (fun i τ B hi ⟨hF, hE, y9, y10, hτ⟩ => by
      subst hτ
      have gB := hF.gt g1 (by simp; omega)
      refine ⟨src_L gB i, fun x hx => ?_⟩
      rw [List.getElem?_map] at hx
      obtain ⟨p, hp, rfl⟩ := Option.map_eq_some_iff.mp hx
      have hmem := mem_srt.mp (List.mem_of_getElem? hp)
      have hsome := lk_isSome.mpr hmem
      obtain ⟨r, hr⟩ := Option.isSome_iff_exists.mp hsome
      have FB := F1.trans hF
      have rB := FB.gt s.rr (by simpa using Ne.symm n1)
      have pB := FB.gt s.pp (by simpa using Ne.symm n2)
      have ix : pIx (.ref rw') (.tup (nV p)) B = some (rowV p r, B) := by
        have := d_ix (b := .tup (nV p)) rB (keyOf_tV p)
        rw [getK_enc kP_inj, lk_rowsV, hr] at this
        exact this
      have hl : fLen [.ref pr] B = some (.int ps.length, B) := by simp [pB]
      obtain ⟨_, _, _, hor⟩ := s.okr _ (lk_mem hr)
      have hent : (entsL rows t ps.length)[i]? = some (p, shR t ps.length r) := by
        unfold entsL
        rw [List.getElem?_map, hp]
        simp [hr]
      have tk : (entsL rows t ps.length).take (i + 1) = (entsL rows t ps.length).take i ++ [(p, shR t ps.length r)] := by rw [List.take_add_one, hent]; rfl
      have hil : ((entsL rows t ps.length).take i).length < 16777216 := by
        have : (entsL rows t ps.length).length = rows.length := by unfold entsL; simp
        rw [List.length_take]
        omega
      refine ⟨[x0, some (.ref rw'), some (.ref pr), some (.ref fo), x4, x5, some (.int t), x7, some (.ref en), some (tV p), y10], by simp, ?_⟩
      have fin : ∀ v, v = entV (p, shR t ps.length r) → mAppend (.ref en) [v] B = some (.non, B.set en (.lst (((entsL rows t ps.length).take (i + 1)).map entV) false)) := fun v hv => by
        rw [e_append, hE]
        dsimp only
        rw [appL_ok (by simpa using hil), tk, List.map_append, hv]
        rfl
      have go : Fr [en] A1 (B.set en (.lst (((entsL rows t ps.length).take (i + 1)).map entV) false)) ∧ gt (B.set en (.lst (((entsL rows t ps.length).take (i + 1)).map entV) false)) en = some (.lst (((entsL rows t ps.length).take (i + 1)).map entV) false) := ⟨hF.trans (Fr.set (by simp)), gt_set (gt_lt hE)⟩
      cases r with
      | fil i0 =>
        have h0 : (0 : Int) < ps.length := by have := hor; simp [okRow] at this; omega
        have q := fin (.tup [.tup (nV p), .str (S [102, 105, 108, 101]), .int (((i0 : Int) + t) % ps.length)]) (by
          show _ = AV.tup [.tup (nV p), .str (S [102, 105, 108, 101]), .int (((i0 + t) % ps.length : Nat) : Int)]
          simp)
        simp (disch := first | omega | decide) [f143_0_l2, ix, rowV, hl, -e_lenR, hE, q, -e_append]
        exact ⟨hF.trans (Fr.set (by simp)), gt_set (gt_lt hE)⟩
      | fol o =>
        have q := fin (rowV p (.fol o)) rfl
        simp only [rowV] at q
        simp (disch := first | omega | decide) [f143_0_l2, ix, rowV, hl, -e_lenR, hE, q, -e_append]
        exact ⟨hF.trans (Fr.set (by simp)), gt_set (gt_lt hE)⟩
      | gone =>
        have q := fin (rowV p .gone) rfl
        simp only [rowV] at q
        simp (disch := first | omega | decide) [f143_0_l2, ix, rowV, hl, -e_lenR, hE, q, -e_append]
        exact ⟨hF.trans (Fr.set (by simp)), gt_set (gt_lt hE)⟩)
    (fun τ B ⟨hF, hE, y9, y10, hτ⟩ => by
      refine ⟨y9, y10, B, by rw [hτ], ?_, F1.trans hF⟩
      rw [List.length_map, srt_len, List.length_map] at hE
      rw [hE, List.take_of_length_le (by unfold entsL; simp)])
    (τ := [x0, some (.ref rw'), some (.ref pr), some (.ref fo), x4, x5, some (.int t), x7, some (.ref en), x9, x10]) (A0 := A1) ⟨Fr.refl _ _, by rw [hA1, gt_app hen, ge]; rfl, x9, x10, rfl⟩
  obtain ⟨y9, y10, A', e, h⟩ := lr
  refine ⟨y9, y10, A', ?_, h⟩
  rw [← e]
  simp [e1, ← hA1, g1]
end
end Law
end
section
namespace Law
open PySem PySem.Spec L2 Ev
set_option autoImplicit false
/-! a layer drawn, whole: the law's own function -/
section
variable {k : Nat} {A : AHp}
theorem fr3 {A B : AHp} {a b c : Nat} (h : Fr [a, b, c] A B) (h1 : A.length ≤ a) (h2 : A.length ≤ b) (h3 : A.length ≤ c) : Fr [] A B := ((h.new h1).new h2).new h3
def layI (ns : List Int) : Nat → List (Pth × Row) × List Pr × List Pth
  | 0 => ([], [], [[]])
  | i + 1 => growsF ns i (layI ns i).1 (layI ns i).2.1 (layI ns i).2.2
def layY (ns : List Int) : Int × S3 := tkF (boxF ns ((ns.length : Int) / 2)) 4
def lay4 (ns : List Int) (g : List (Pth × Row)) : List (Pth × Row) × S3 := if (layY ns).1 = 0 then (deepF (wordF (layY ns).2).1 g, (wordF (layY ns).2).2) else (g, (layY ns).2)
def layE (ns : List Int) (g4 : List (Pth × Row)) (z : S3) (ps : List Pr) : List (Pth × Row) × List Pr := (entsL g4 (tkF z (1 + (ps.length : Int))).1.toNat ps.length, turnL ps (tkF z (1 + (ps.length : Int))).1.toNat)
def layF (ns : List Int) : List (Pth × Row) × List Pr := layE ns (lay4 ns (layI ns ns.length).1).1 (lay4 ns (layI ns ns.length).1).2 (layI ns ns.length).2.1
theorem layer_R (hk : 8 ≤ k) {sv : AV} {ns : List Int} (hs : ScV A sv ns) (hl : ns.length ≤ 63) : ∃ es qs A', R k 143 [sv] A = .ok (layV es qs) A' ∧ okL es qs ∧ Fr [] A A' ∧ layF ns = (es, qs) := by
  obtain ⟨k, rfl, hk⟩ := succ_of hk
  obtain ⟨A0, hA0⟩ : ∃ A0, A0 = A ++ [.dict [] false, .lst [] false, .lst [.tup []] false] := ⟨_, rfl⟩
  have F0 : Fr [A.length, A.length + 1, A.length + 2] A A0 := by rw [hA0]; exact Fr.app _ _ _
  have s0 : S20 A0 A.length (A.length + 1) (A.length + 2) [] [] [[]] 1 := ⟨by rw [hA0]; simp [rowsV], by rw [hA0]; simp, by rw [hA0]; simp [nV], List.nodup_nil, fun x hx => (by cases hx), fun x hx => (by cases hx), fun q hq => by
    rw [List.mem_singleton.mp hq]
    exact ⟨fun w hw => (by cases hw), by simp⟩, by simp, by simp, by simp, by simp, by omega, by omega, by omega⟩
  have hsl := hs.len
  have hne : ∀ j, sv = .ref j → j ≠ A.length ∧ j ≠ A.length + 1 ∧ j ≠ A.length + 2 := fun j e => by
    rcases hs with h | ⟨i, h, g⟩
    · rw [h] at e; cases e
    · rw [h] at e
      cases e
      have := gt_lt g
      omega
  have ms : ∀ {B : AHp}, Fr [A.length, A.length + 1, A.length + 2] A B → ScV B sv ns := fun hF => hs.fr (fr3 hF (by omega) (by omega) (by omega))
  have lr := loop_run (src := srcR 0 ns.length) (g := gNm 4) (body := f143_0_l1 (R k)) (rngL 0 ns.length)
    (fun i τ B => (∃ rows ps fs, S20 B A.length (A.length + 1) (A.length + 2) rows ps fs (1 + 6 * i) ∧ J rows ps fs ∧ layI ns i = (rows, ps, fs)) ∧ Fr [A.length, A.length + 1, A.length + 2] A B ∧ ∃ y4 y5 y6, τ = [some sv, some (.ref A.length), some (.ref (A.length + 1)), some (.ref (A.length + 2)), y4, y5, y6, none, none, none, none])
    (fun q => ∃ rows ps fs B y4 y5 y6, q = .nx [some sv, some (.ref A.length), some (.ref (A.length + 1)), some (.ref (A.length + 2)), y4, y5, y6, none, none, none, none] B ∧ S20 B A.length (A.length + 1) (A.length + 2) rows ps fs 380 ∧ J rows ps fs ∧ layI ns ns.length = (rows, ps, fs) ∧ Fr [A.length, A.length + 1, A.length + 2] A B)
    (fun i τ B hi ⟨⟨rows, ps, fs, hS, hJ, hI⟩, hF, y4, y5, y6, hτ⟩ => by
      subst hτ
      rw [rngL_length] at hi
      refine ⟨src_R _ _ _ _, fun v hv => ?_⟩
      obtain ⟨rfl, hi2⟩ := rngL_get hv
      refine ⟨[some sv, some (.ref A.length), some (.ref (A.length + 1)), some (.ref (A.length + 2)), some (.int (0 + i)), y5, y6, none, none, none, none], by simp, ?_⟩
      obtain ⟨z5, z6, B2, rows2, ps2, fs2, e, s2, j2, f2, g2⟩ := grows_R hS hJ (k := k) (by omega) (by omega) (ms hF) i none y5 y6 none none none none hne
      rw [show (0 : Int) + (i : Int) = i by omega, e]
      exact ⟨⟨rows2, ps2, fs2, s2, j2, by rw [layI, hI]; exact g2⟩, hF.trans f2, _, _, _, rfl⟩)
    (fun τ B ⟨⟨rows, ps, fs, hS, hJ, hI⟩, hF, y4, y5, y6, hτ⟩ => by
      rw [rngL_length] at hS hI
      exact ⟨rows, ps, fs, B, y4, y5, y6, by rw [hτ], hS.more (by omega), hJ, hI, hF⟩)
    (τ := [some sv, some (.ref A.length), some (.ref (A.length + 1)), some (.ref (A.length + 2)), none, none, none, none, none, none, none]) (A0 := A0) ⟨⟨[], [], [[]], s0.more (by omega), J0, rfl⟩, F0, none, none, none, rfl⟩
  rw [rngL_length] at lr
  obtain ⟨rows, ps, fs, B, y4, y5, y6, e1, s1, j1, I1, F1⟩ := lr
  have hs0 := ms F0
  have hsl0 := hs0.len
  have e1' : sFor (iR1 (dCons (dCB fLen (dCons (dVar 0) dNil)) dNil)) (gNm 4) (f143_0_l1 (R k)) [some sv, some (.ref A.length), some (.ref (A.length + 1)), some (.ref (A.length + 2)), none, none, none, none, none, none, none] A0 = .nx [some sv, some (.ref A.length), some (.ref (A.length + 1)), some (.ref (A.length + 2)), y4, y5, y6, none, none, none, none] B := by
    have r1 := e_rng1 (ns.length : Int) (by omega)
    rw [Int.toNat_natCast] at r1
    simp [hsl0, r1, e1]
  have hslB := (ms F1).len
  obtain ⟨b, A2, e2, hb, lb, f2⟩ := box20 (k := k) (by omega) B (ms F1) ((ns.length : Int) / 2) (Int.ediv_nonneg (by omega) (by omega))
  have s2 := s1.fr f2 (by simp) (by simp) (by simp)
  have n1 : b ≠ A.length := by have := gt_lt s1.rr; omega
  have n2 : b ≠ A.length + 1 := by have := gt_lt s1.pp; omega
  have n3 : b ≠ A.length + 2 := by have := gt_lt s1.ff; omega
  have lA2 : A.length ≤ b := Nat.le_trans F1.1 lb
  obtain ⟨y, A3, z3, e3, y0, y1, b3, f3, t3⟩ := take_R (k := k) (by omega) hb (by omega) (m := 4) (by omega) (by omega)
  have s3 := s2.fr f3 (by simpa using Ne.symm n1) (by simpa using Ne.symm n2) (by simpa using Ne.symm n3)
  have wb : ∀ {X Y : AHp}, Fr [b] X Y → Fr [b, A.length, A.length + 1, A.length + 2] X Y := fun h => h.mono fun x hx => by simp at hx; simp [hx]
  have wr : ∀ {X Y : AHp}, Fr [A.length] X Y → Fr [b, A.length, A.length + 1, A.length + 2] X Y := fun h => h.mono fun x hx => by simp at hx; simp [hx]
  have F3 : Fr [b, A.length, A.length + 1, A.length + 2] A A3 := ((F1.mono fun x hx => by simp at hx ⊢; omega).trans (fr_wide f2)).trans (wb f3)
  have t3' : layY ns = (y, z3) := t3
  obtain ⟨rows4, A4, z4, hor, s4, j4, b4, F4, t4⟩ : ∃ (rows4 : List (Pth × Row)) (A4 : AHp) (z4 : S3), ((y = 0 ∧ ∃ w C, R k 5 [.ref b] A3 = .ok (.str (S w)) C ∧ R k 142 [.ref A.length, .str (S w)] C = .ok .non A4) ∨ (y ≠ 0 ∧ A4 = A3)) ∧
      S20 A4 A.length (A.length + 1) (A.length + 2) rows4 ps fs 389 ∧ J rows4 ps fs ∧ Box A4 b 100 z4 ∧ Fr [b, A.length, A.length + 1, A.length + 2] A A4 ∧ lay4 ns rows = (rows4, z4) := by
    unfold lay4
    rw [t3']
    dsimp only
    by_cases hy : y = 0
    · obtain ⟨w, C, zc, g1, g2, g3, g4, gt4⟩ := word_R (k := k) (by omega) b3 (by omega)
      have sC := s3.fr g4 (by simpa using Ne.symm n1) (by simpa using Ne.symm n2) (by simpa using Ne.symm n3)
      obtain ⟨D, rows', h1, h2, h3, h4, h5⟩ := deep_R sC j1 g2 (k := k) (by omega) (by omega)
      exact ⟨rows', D, zc, .inl ⟨hy, w, C, g1, h1⟩, h2, h3, (g3.fr h4 (by simpa using n1)).mono (by omega), (F3.trans (wb g4)).trans (wr h4), by rw [if_pos hy, gt4, h5]⟩
    · exact ⟨rows, A3, z3, .inr ⟨hy, rfl⟩, s3.more (by omega), j1, b3.mono (by omega), F3, by rw [if_neg hy]⟩
  have pp4 := s4.pp
  have gl4 : fLen [.ref (A.length + 1)] A4 = some (.int ps.length, A4) := by simp [pp4]
  have lp4 := s4.lp
  obtain ⟨t, A5, z5, e5, t0, t1, b5, f5, t5⟩ := take_R (k := k) (by omega) b4 (by omega) (m := 1 + (ps.length : Int)) (by omega) (by omega)
  obtain ⟨tn, rfl⟩ : ∃ tn : Nat, t = tn := ⟨t.toNat, by omega⟩
  have s5 := s4.fr f5 (by simpa using Ne.symm n1) (by simpa using Ne.symm n2) (by simpa using Ne.symm n3)
  obtain ⟨A6, hA6⟩ : ∃ A6, A6 = A5 ++ [.lst [] false] := ⟨_, rfl⟩
  have f6 : Fr [] A5 A6 := by rw [hA6]; exact Fr.app _ _ _
  have g6 : gt A6 A5.length = some (.lst [] false) := by rw [hA6]; exact gt_new
  have s6 := s5.fr f6 (by simp) (by simp) (by simp)
  have m1 : A5.length ≠ A.length := by have := gt_lt s5.rr; omega
  have m2 : A5.length ≠ A.length + 1 := by have := gt_lt s5.pp; omega
  obtain ⟨y9, y10, A7, e7, g7, f7⟩ := ents_R s6 (k := k) (by omega) (t := tn) (x0 := some sv) (x4 := y4) (x5 := y5) (x7 := some (.ref b)) g6 m1 m2 none none
  have p7 := f7.gt s6.pp (by simpa using Ne.symm m2)
  have F7 : Fr [A5.length, b, A.length, A.length + 1, A.length + 2] A A7 := (((F4.trans (wb f5)).trans (fr_wide f6)).mono fun x hx => by simp at hx ⊢; omega).trans (f7.mono fun x hx => by simp at hx ⊢; omega)
  have l5 : A.length ≤ A5.length := (F4.trans (wb f5)).1
  have F8 : Fr [] A A7 := fr3 ((F7.new l5).new lA2) (by omega) (by omega) (by omega)
  have d1 : cutA (ps.map pairV) (some ((ps.length : Int) - (tn : Int))) none = (ps.drop (ps.length - tn)).map pairV := by
    rw [cut_from _ _ (by omega), show ((ps.length : Int) - (tn : Int)).toNat = ps.length - tn by omega, List.map_drop]
  have d2 : cutA (ps.map pairV) none (some ((ps.length : Int) - (tn : Int))) = (ps.take (ps.length - tn)).map pairV := by
    rw [cut_to _ _ (by omega), show ((ps.length : Int) - (tn : Int)).toNat = ps.length - tn by omega, List.map_take]
  have d3 : (ps.drop (ps.length - tn)).map pairV ++ (ps.take (ps.length - tn)).map pairV = (turnL ps tn).map pairV := by unfold turnL; rw [List.map_append]
  refine ⟨entsL rows4 tn ps.length, turnL ps tn, A7 ++ [.lst ((ps.drop (ps.length - tn)).map pairV) false, .lst ((ps.take (ps.length - tn)).map pairV) false, .lst ((turnL ps tn).map pairV) false], ?_, okL_of s4 j4 (by omega) (by omega), F8.trans (Fr.app _ _ _), by unfold layF; rw [I1]; dsimp only; rw [t4]; dsimp only; unfold layE; rw [t5]; simp⟩
  rw [R143]
  rcases hor with ⟨hy, w, C, h1, h2⟩ | ⟨hy, rfl⟩
  · simp (disch := first | omega | decide | (simp; done) | (simp; omega)) [runBody_eq, f143_0, ← hA0, e1', -e_sFor, hslB, e2, e3, hy, h1, h2, gl4, -e_lenR, e5, ← hA6, e7]
    have l7 := gt_lt p7
    simp (disch := first | omega | decide | (simp; done) | (simp; omega)) [g7, p7, l7, d1, d2, d3, layV]
    rw [← List.map_drop, ← List.map_take, d3]
  · simp (disch := first | omega | decide | (simp; done) | (simp; omega)) [runBody_eq, f143_0, ← hA0, e1', -e_sFor, hslB, e2, e3, hy, gl4, -e_lenR, e5, ← hA6, e7]
    have l7 := gt_lt p7
    simp (disch := first | omega | decide | (simp; done) | (simp; omega)) [g7, p7, l7, d1, d2, d3, layV]
    rw [← List.map_drop, ← List.map_take, d3]
end
end Law
end
section
namespace Law
open PySem PySem.Spec L2 Ev
set_option autoImplicit false
/-! a layer's text -/
def pathT (p : Pth) : List Nat := 47 :: TL.joinL [47] p
def numT (n : Nat) : List Nat := ((toString (n : Int) : String) : Str).cps.toList
def entT (x : Pth × Row) : List Nat := match x.2 with
  | .fol none => [102, 111, 108, 100, 101, 114, 32] ++ pathT x.1 ++ [32, 97, 108, 111, 110, 101]
  | .fol (some q) => [102, 111, 108, 100, 101, 114, 32] ++ pathT x.1 ++ [32, 111, 118, 101, 114, 32] ++ pathT q
  | .fil n => [102, 105, 108, 101, 32] ++ pathT x.1 ++ [32] ++ numT n
  | .gone => [103, 111, 110, 101, 32] ++ pathT x.1
def prT (q : Pr) : List Nat := match q.1, q.2 with
  | none, none => [100, 97, 116, 97]
  | none, some t => [100, 97, 116, 97] ++ ([32, 61] ++ t)
  | some p, none => [100, 97, 116, 97] ++ ([32, 111, 102, 32] ++ pathT p)
  | some p, some t => [100, 97, 116, 97] ++ ([32, 111, 102, 32] ++ pathT p) ++ ([32, 61] ++ t)
def rowsT (es : List (Pth × Row)) (qs : List Pr) : List (List Nat) := es.map entT ++ qs.map prT
def layT (es : List (Pth × Row)) (qs : List Pr) : List Nat := TL.joinL [10] (rowsT es qs)
theorem lenSum_nm : ∀ {p : Pth}, nmP p → lenSum p ≤ 8 * p.length
  | [], _ => by simp [lenSum]
  | w :: p, h => by
    have h1 := nm_len (h w (by simp))
    have h2 := lenSum_nm (p := p) fun x hx => h x (by simp [hx])
    simp [lenSum] at h2 ⊢
    omega
theorem joinL_le (a : List Nat) : ∀ ws : List (List Nat), (TL.joinL a ws).length ≤ lenSum ws + ws.length * a.length
  | [] => by simp [TL.joinL]
  | [w] => by simp [TL.joinL, lenSum]
  | w :: v :: r => by
    have := joinL_le a (v :: r)
    simp [TL.joinL, lenSum] at this ⊢
    simp only [Nat.add_mul, Nat.one_mul] at this ⊢
    omega
theorem flat_join : ∀ {ws : List (List Nat)}, ws ≠ [] → (ws.map fun w => 47 :: w).flatten = 47 :: TL.joinL [47] ws
  | [], h => absurd rfl h
  | [w], _ => by simp [TL.joinL]
  | w :: v :: r, _ => by
    have ih := flat_join (ws := v :: r) (by simp)
    rw [List.map_cons, List.flatten_cons, ih]
    simp [TL.joinL]
theorem pathT_len {p : Pth} (h : nmP p) (h9 : p.length ≤ 9) : (pathT p).length ≤ 90 := by
  have h1 := joinL_le [47] p
  have h2 := lenSum_nm h
  simp at h1
  simp [pathT]
  omega
theorem numT_len {n : Nat} (h : n ≤ 200) : (numT n).length ≤ 3 := by
  have : ∀ n : Fin 201, (numT n.val).length ≤ 3 := by decide +kernel
  exact this ⟨n, by omega⟩
theorem str_num {n : Nat} (h : n ≤ 200) (A : AHp) : fStr [.int n] A = some (.str (S (numT n)), A) := by
  have h1 : (n : Int).natAbs.log2 < 1920 := by
    rw [Int.natAbs_natCast]
    have : ∀ n : Fin 201, n.val.log2 < 1920 := by decide +kernel
    exact this ⟨n, by omega⟩
  show (if (n : Int).natAbs.log2 < 1920 then some (AV.str (toString (n : Int) : String), A) else none) = _
  rw [if_pos h1]
  rfl
def okE (np : Nat) (x : Pth × Row) : Prop := nmP x.1 ∧ x.1.length ≤ 9 ∧ okRow np x.2
theorem okL.okE {es : List (Pth × Row)} {qs : List Pr} (h : okL es qs) : ∀ x ∈ es, okE qs.length x := fun x hx => ⟨(h.row x hx).1, (h.row x hx).2.2.1, (h.row x hx).2.2.2⟩
theorem entT_len {np : Nat} {x : Pth × Row} (h : okE np x) (hn : np ≤ 200) : (entT x).length ≤ 300 := by
  obtain ⟨p, r⟩ := x
  obtain ⟨h1, h2, h3⟩ := h
  dsimp only at h1 h2 h3
  have h4 := pathT_len h1 h2
  cases r with
  | fol o => cases o with
    | none => simp [entT]; omega
    | some q =>
      obtain ⟨k1, k2⟩ := h3 q rfl
      have := pathT_len k1 (by omega)
      simp [entT]; omega
  | fil n =>
    have := numT_len (n := n) (by simp [okRow] at h3; omega)
    simp [entT]; omega
  | gone => simp [entT]; omega
theorem prT_len {q : Pr} (h : okPr q) : (prT q).length ≤ 400 := by
  obtain ⟨o, x⟩ := q
  obtain ⟨h1, h2, _, _⟩ := h
  dsimp only at h1 h2
  cases o with
  | none => cases x with
    | none => simp [prT]
    | some t => have := (h2 t rfl).1; simp [prT]; omega
  | some p =>
    have := pathT_len (h1 p rfl).1 (by have := (h1 p rfl).2; omega)
    cases x with
    | none => simp [prT]; omega
    | some t => have := (h2 t rfl).1; simp [prT]; omega
theorem lenSum_map {α : Type} (f : α → List Nat) (m : Nat) : ∀ {l : List α}, (∀ x ∈ l, (f x).length ≤ m) → lenSum (l.map f) ≤ m * l.length
  | [], _ => by simp [lenSum]
  | x :: l, h => by
    have h1 := h x (by simp)
    have h2 := lenSum_map f m (l := l) fun y hy => h y (by simp [hy])
    simp [lenSum, Nat.mul_add] at h2 ⊢
    omega
theorem lenSum_app (a b : List (List Nat)) : lenSum (a ++ b) = lenSum a + lenSum b := by simp [lenSum]
theorem rowsT_sum {es : List (Pth × Row)} {qs : List Pr} (h1 : ∀ x ∈ es, okE qs.length x) (h2 : ∀ q ∈ qs, okPr q) (l1 : es.length ≤ 400) (l2 : qs.length ≤ 200) : lenSum (rowsT es qs) ≤ 200000 ∧ (rowsT es qs).length ≤ 600 := by
  have k1 := lenSum_map entT 300 (l := es) fun x hx => entT_len (h1 x hx) l2
  have k2 := lenSum_map prT 400 (l := qs) fun q hq => prT_len (h2 q hq)
  unfold rowsT
  rw [lenSum_app, List.length_append, List.length_map, List.length_map]
  omega
section
variable {k : Nat} {A : AHp}
theorem ptext_R (hk : 1 ≤ k) {p : Pth} (h : nmP p) (h9 : p.length ≤ 9) (A : AHp) : R k 8 [.tup (nV p)] A = .ok (.str (S (pathT p))) A := by
  obtain ⟨k, rfl, hk⟩ := succ_of hk
  have h1 := lenSum_nm h
  have hj := joinA_ok A (a := [47]) (ls := p) (by simp; omega)
  have hl := pathT_len h h9
  unfold pathT at hl
  simp at hl
  rw [R8]
  simp (disch := first | omega | decide | (simp; done) | (simp; omega)) [runBody_eq, f8_0, nV, hj, pathT]
theorem enttext_R (hk : 2 ≤ k) {np : Nat} {x : Pth × Row} (h : okE np x) (hn : np ≤ 200) (A : AHp) : R k 136 [entV x] A = .ok (.str (S (entT x))) A := by
  obtain ⟨k, rfl, hk⟩ := succ_of hk
  obtain ⟨p, r⟩ := x
  obtain ⟨h1, h2, h3⟩ := h
  dsimp only at h1 h2 h3
  have e1 := ptext_R (k := k) (by omega) h1 h2 A
  have l1 := pathT_len h1 h2
  rw [R136]
  cases r with
  | fol o => cases o with
    | none => simp (disch := first | omega | decide | (simp; done) | (simp; omega)) [runBody_eq, f136_0, entV, rowV, e1, oV, entT]
    | some q =>
      obtain ⟨k1, k2⟩ := h3 q rfl
      have e2 := ptext_R (k := k) (by omega) k1 (by omega) A
      have l2 := pathT_len k1 (by omega)
      simp (disch := first | omega | decide | (simp; done) | (simp; omega)) [runBody_eq, f136_0, entV, rowV, e1, oV, entT, e2]
  | fil n =>
    have hn2 : n ≤ 200 := by simp [okRow] at h3; omega
    have e2 := str_num hn2 A
    have l2 := numT_len hn2
    simp (disch := first | omega | decide | (simp; done) | (simp; omega)) [runBody_eq, f136_0, entV, rowV, e1, entT, e2]
  | gone => simp (disch := first | omega | decide | (simp; done) | (simp; omega)) [runBody_eq, f136_0, entV, rowV, e1, entT]
theorem prtext_R (hk : 2 ≤ k) {q : Pr} (h : okPr q) (A : AHp) : R k 137 [pairV q] A = .ok (.str (S (prT q))) A := by
  obtain ⟨k, rfl, hk⟩ := succ_of hk
  obtain ⟨o, x⟩ := q
  obtain ⟨h1, h2, _, _⟩ := h
  dsimp only at h1 h2
  rw [R137]
  cases o with
  | none => cases x with
    | none => simp (disch := first | omega | decide | (simp; done) | (simp; omega)) [runBody_eq, f137_0, pairV, oV, xV, prT]
    | some t =>
      have := (h2 t rfl).1
      simp (disch := first | omega | decide | (simp; done) | (simp; omega)) [runBody_eq, f137_0, pairV, oV, xV, prT]
  | some p =>
    obtain ⟨k1, k2⟩ := h1 p rfl
    have e1 := ptext_R (k := k) (by omega) k1 (by omega) A
    have l1 := pathT_len k1 (by omega)
    cases x with
    | none => simp (disch := first | omega | decide | (simp; done) | (simp; omega)) [runBody_eq, f137_0, pairV, oV, xV, prT, e1]
    | some t =>
      have := (h2 t rfl).1
      simp (disch := first | omega | decide | (simp; done) | (simp; omega)) [runBody_eq, f137_0, pairV, oV, xV, prT, e1]
end
end Law
end
section
namespace Law
open PySem PySem.Spec L2 Ev
set_option autoImplicit false
/-! a layer's text, by the program and by the law -/
section
variable {k : Nat} {A : AHp} {es : List (Pth × Row)} {qs : List Pr}
theorem join_rows (h1 : ∀ x ∈ es, okE qs.length x) (h2 : ∀ q ∈ qs, okPr q) (l1 : es.length ≤ 400) (l2 : qs.length ≤ 200) (A : AHp) : joinA [10] ((rowsT es qs).map fun l => .str (S l)) A = some (.str (S (layT es qs)), A) := by
  obtain ⟨k1, k2⟩ := rowsT_sum h1 h2 l1 l2
  exact joinA_ok A (a := [10]) (ls := rowsT es qs) (by rw [List.length_singleton]; omega)
theorem lc_texts {α : Type} {l : List α} {mk : α → AV} {f : α → List Nat} {g : GDen} {e : Den AV} {τ : ASt} {A : AHp} (hx : l.length < 16777216)
    (h : ∀ B x, x ∈ l → Fr [] A B → ∃ σ1, g (mk x) τ B = some σ1 ∧ ∃ B2, e σ1 B = .ok (.str (S (f x))) B2 ∧ Fr [] B B2) :
    ∃ A', compL (srcC (l.map mk)) g dYes e A.length τ (l.length + 1) 0 (A ++ [.lst [] false]) = .ok (.ref A.length) A' ∧ gt A' A.length = some (.lst (l.map fun x => .str (S (f x))) false) ∧ Fr [] A A' := by
  obtain ⟨A', e1, e2, e3⟩ := comp_fr (src := srcC (l.map mk)) (g := g) (t := dYes) (e := e) (τ := τ) (l := l) mk (fun x => .str (S (f x))) (fun _ => true) (A := A) hx (fun B i _ => src_C _ _ _) fun B x hx hF => by
    obtain ⟨σ1, g1, B2, g2, g3⟩ := h B x hx hF
    exact ⟨σ1, B, g1, rfl, Fr.refl _ _, fun _ => ⟨B2, g2, g3⟩⟩
  rw [List.filter_eq_self.mpr fun _ _ => rfl] at e2
  exact ⟨A', e1, e2, e3⟩
theorem laytext_R (hk : 3 ≤ k) (h1 : ∀ x ∈ es, okE qs.length x) (h2 : ∀ q ∈ qs, okPr q) (l1 : es.length ≤ 400) (l2 : qs.length ≤ 200) (A : AHp) : ∃ A', R k 138 [layV es qs] A = .ok (.str (S (layT es qs))) A' ∧ Fr [] A A' := by
  obtain ⟨k, rfl, hk⟩ := succ_of hk
  obtain ⟨A1, e1, g1, f1⟩ := lc_texts (l := es) (mk := entV) (f := entT) (g := gNm 1) (e := dCall 1 (R k 136) (dCons (dVar 1) dNil)) (τ := [some (layV es qs), none, none]) (A := A) (by omega) fun B x hx _ => ⟨[some (layV es qs), some (entV x), none], by simp, B, by simp [enttext_R (k := k) (by omega) (h1 x hx) l2 B], Fr.refl _ _⟩
  obtain ⟨A2, e2, g2, f2⟩ := lc_texts (l := qs) (mk := pairV) (f := prT) (g := gNm 2) (e := dCall 1 (R k 137) (dCons (dVar 2) dNil)) (τ := [some (layV es qs), none, none]) (A := A1) (by omega) fun B x hx _ => ⟨[some (layV es qs), none, some (pairV x)], by simp, B, by simp [prtext_R (k := k) (by omega) (h2 x hx) B], Fr.refl _ _⟩
  have c1 : f138_0_c0 (R k) [some (layV es qs), none, none] A = .ok (.ref A.length) A1 := by
    unfold f138_0_c0 dLc
    simp [wipeA, layV] at e1 ⊢
    exact e1
  have c2 : f138_0_c1 (R k) [some (layV es qs), none, none] A1 = .ok (.ref A1.length) A2 := by
    unfold f138_0_c1 dLc
    simp [wipeA, layV] at e2 ⊢
    exact e2
  have g1' := f2.gt g1 (by simp)
  have hj := join_rows h1 h2 l1 l2 (A2 ++ [.lst ((rowsT es qs).map fun l => .str (S l)) false])
  have hr : (es.map fun x => AV.str (S (entT x))) ++ (qs.map fun x => AV.str (S (prT x))) = (rowsT es qs).map fun l => .str (S l) := by
    unfold rowsT
    rw [List.map_append, List.map_map, List.map_map]
    rfl
  refine ⟨A2 ++ [.lst ((rowsT es qs).map fun l => .str (S l)) false], ?_, (f1.trans f2).trans (Fr.app _ _ _)⟩
  rw [R138]
  simp (disch := first | omega | decide | (simp; done) | (simp; omega)) [runBody_eq, f138_0, c1, c2, g1', g2, hr, hj]
end
end Law
end
section
namespace Law
open PySem PySem.Spec L2 Ev
set_option autoImplicit false
/-! names and paths in texts -/
def lowB (c : Nat) : Bool := decide (97 ≤ c) && decide (c ≤ 122)
def nameB (l : List Nat) : Bool := decide (1 ≤ l.length) && decide (l.length ≤ 8) && l.all lowB
theorem one_lt (a b : Nat) : ([a] : List Nat) < [b] ↔ a < b := by
  rw [List.cons_lt_cons_iff]
  simp
theorem isname_ok (r : Rt) (A : AHp) (l : List Nat) (hl : l.length < 16777216) : ∃ B, runBody (f0_0 r) 2 [.str (S l)] A = .ok (.bl (nameB l)) (A ++ B) := by
  have hc := comp_pure (g := gNm 1) (t := dYes) (e := dChain pLe pLe (dC (.str (S [97]))) (dVar 1) (dC (.str (S [122])))) (τ := [some (.str (S l)), none]) (src := srcC (l.map fun c => .str (S [c]))) (l := l)
    (fun c => .str (S [c])) (fun c => .bl (lowB c)) (A := A) hl (fun _ _ => rfl) (fun acc c hx => by
      refine ⟨_, rfl, rfl, ?_⟩
      simp [one_lt, lowB]
      by_cases h : 97 ≤ c <;> by_cases h2 : 122 < c <;> simp [h, h2]
      omega)
  simp (disch := omega) [runBody_eq, f0_0]
  by_cases h1 : 1 ≤ (l.length : Int)
  · by_cases h2 : (l.length : Int) ≤ 8
    · have h3 : 1 ≤ l.length := by omega
      have h4 : l.length ≤ 8 := by omega
      simp [h1, h2, hc, nameB, h3, h4]
    · have h4 : ¬ l.length ≤ 8 := by omega
      simp [h1, h2, nameB, h4]
  · have h4 : ¬ 1 ≤ l.length := by omega
    simp [h1, nameB, h4]
def strV (ws : List (List Nat)) : List AV := ws.map fun w => .str (S w)
def IsNameS (g : List AV → M AV) : Prop := ∀ (A : AHp) (l : List Nat), l.length < 16777216 → ∃ B, g [.str (S l)] A = .ok (.bl (nameB l)) (A ++ B)
theorem nameB_len {w : List Nat} (h : nameB w = true) : 1 ≤ w.length ∧ w.length ≤ 8 := by
  unfold nameB at h
  simp at h
  omega
theorem nameB_low {w : List Nat} (h : nameB w = true) : ∀ c ∈ w, lowB c = true := by
  unfold nameB at h
  simp at h
  exact h.2
theorem nameB_mk {w : List Nat} (h1 : 1 ≤ w.length) (h2 : w.length ≤ 8) (h : ∀ c ∈ w, lowB c = true) : nameB w = true := by
  unfold nameB
  simp
  exact ⟨⟨h1, h2⟩, h⟩
/-- what path_in tells of a text -/
def pathIn (l : List Nat) : Option (List (List Nat)) := if l = [47] then some [] else match splitL 47 l with
  | [] => none
  | w :: ws => if w ≠ [] ∨ ¬ (1 ≤ ws.length ∧ ws.length ≤ 8) then none else if ws.all nameB = true then some ws else none
def optV : Option (List (List Nat)) → AV
  | none => .non
  | some ws => .tup (strV ws)
theorem spl_len (c : Nat) : ∀ (a acc : List Nat) (x : List Nat), x ∈ TL.spl [c] 0 acc a → x.length ≤ acc.length + a.length
  | [], acc, x, h => by
    rw [TL.spl_nil] at h
    simp at h
    subst h
    simp
  | d :: a, acc, x, h => by
    rw [TL.spl] at h
    split at h
    · rcases List.mem_cons.mp h with z | z
      · subst z; simp
      · have := spl_len c a [] x z
        simp at this ⊢
        omega
    · have := spl_len c a (acc ++ [d]) x h
      simp at this ⊢
      omega
theorem spl_count (c : Nat) : ∀ (a acc : List Nat), (TL.spl [c] 0 acc a).length ≤ a.length + 1 ∧ 1 ≤ (TL.spl [c] 0 acc a).length
  | [], acc => by rw [TL.spl_nil]; simp
  | d :: a, acc => by
    rw [TL.spl]
    split
    · obtain ⟨h1, h2⟩ := spl_count c a []
      rw [List.length_cons, List.length_cons]
      exact ⟨by simpa using h1, by omega⟩
    · obtain ⟨h1, h2⟩ := spl_count c a (acc ++ [d])
      rw [List.length_cons]
      exact ⟨by omega, h2⟩
theorem pin_ok (r : Rt) (h0 : IsNameS (r 0)) (A : AHp) (l : List Nat) (hl : l.length + 2 ≤ 16777216) : ∃ B, runBody (f9_0 r) 3 [.str (S l)] A = .ok (optV (pathIn l)) B ∧ Fr [] A B := by
  unfold pathIn
  by_cases h1 : l = [47]
  · subst h1
    exact ⟨A, by simp [runBody_eq, f9_0, optV, strV], Fr.refl _ _⟩
  · rw [if_neg h1]
    have hm := spl_len 47 l []
    have hq := spl_count 47 l []
    cases hs : splitL 47 l with
    | nil => unfold splitL at hs; rw [hs] at hq; simp at hq
    | cons w ws =>
      unfold splitL at hs
      rw [hs] at hm hq
      simp at hm hq
      by_cases hw : w = []
      · subst hw
        by_cases hk : 1 ≤ ws.length ∧ ws.length ≤ 8
        · obtain ⟨A', e1, e2, e3⟩ := comp_fr (g := gNm 2) (t := dYes) (e := dCall 1 (r 0) (dCons (dVar 2) dNil)) (τ := [some (.str (S l)), some (.ref A.length), none]) (l := ws) (src := srcL (A.length + 1)) (fun w => .str (S w)) (fun w => .bl (nameB w)) (fun _ => true) (A := A ++ [.lst (strV ([] :: ws)) false, .lst (strV ws) false]) (by omega) (fun B i hF => src_L (ro := false) (hF.gt (o := .lst (strV ws) false) (by simp) (by simp)) i) (fun B x hx hF => by
            obtain ⟨B1, q1⟩ := h0 B x (by have := hm.2 x hx; omega)
            exact ⟨_, B, rfl, rfl, Fr.refl _ _, fun _ => ⟨B ++ B1, by simp [q1], Fr.app _ _ _⟩⟩)
          have e4 : gt A' A.length = some (.lst (strV ([] :: ws)) false) := e3.gt (by simp) (by simp)
          have hk1 : (2 : Int) ≤ ws.length + 1 := by omega
          have hk2 : (ws.length : Int) + 1 ≤ 9 := by omega
          simp [strV] at e1 e2 e4
          simp (disch := first | omega | decide | (simp; done) | (simp; omega)) [runBody_eq, f9_0, h1, splitL, hs, Nat.add_assoc, e1, e2, e4, hk1, hk2, hk]
          have hF : Fr [] A A' := (Fr.app _ _ _).trans e3
          by_cases hb : ∀ x, x ∈ ws → nameB x = true
          · have hex : ¬ ∃ x, x ∈ ws ∧ nameB x = false := by rintro ⟨x, h, e⟩; rw [hb x h] at e; cases e
            rw [if_neg hex, if_pos hb]
            exact ⟨_, rfl, hF.trans (Fr.app _ _ _)⟩
          · have hex : ∃ x, x ∈ ws ∧ nameB x = false := by simpa using hb
            rw [if_pos hex, if_neg hb]
            exact ⟨_, rfl, hF⟩
        · simp (disch := first | omega | decide | (simp; done) | (simp; omega)) [runBody_eq, f9_0, h1, splitL, hs]
          have h3 : 1 ≤ ws.length → 8 < ws.length := by omega
          rw [if_pos h3]
          by_cases h4 : (2 : Int) ≤ ws.length + 1
          · have h5 : (9 : Int) < ws.length + 1 := by omega
            rw [if_pos h4, if_pos h5]
            exact ⟨_, rfl, Fr.app _ _ _⟩
          · rw [if_neg h4]
            exact ⟨_, rfl, Fr.app _ _ _⟩
      · simp (disch := first | omega | decide | (simp; done) | (simp; omega)) [runBody_eq, f9_0, h1, splitL, hs, hw, optV]
        exact Fr.app _ _ _
theorem pathIn_join {ws : List (List Nat)} (h0 : ws ≠ []) (h8 : ws.length ≤ 8) (h : ∀ w ∈ ws, nameB w = true) : pathIn (47 :: TL.joinL [47] ws) = some ws := by
  have hl : 1 ≤ ws.length := List.length_pos_iff.mpr h0
  have hs : splitL 47 (47 :: TL.joinL [47] ws) = [] :: ws := by
    have e : 47 :: TL.joinL [47] ws = TL.joinL [47] ([] :: ws) := by
      cases ws with
      | nil => exact absurd rfl h0
      | cons w r => simp [TL.joinL]
    rw [e]
    refine TL.spl_join (by simp) fun p hp => ?_
    rcases List.mem_cons.mp hp with z | z
    · subst z; simp
    · intro hm
      have := nameB_low (h p z) 47 hm
      simp [lowB] at this
  unfold pathIn
  rw [hs]
  have hne : ¬ (47 :: TL.joinL [47] ws = [47]) := by
    intro z
    have z2 : TL.joinL [47] ws = [] := by simpa using z
    cases ws with
    | nil => exact absurd rfl h0
    | cons w r =>
      have := (nameB_len (h w (by simp))).1
      cases r with
      | nil => rw [TL.joinL] at z2; rw [z2] at this; simp at this
      | cons v q => rw [TL.joinL] at z2; simp at z2
  rw [if_neg hne]
  simp
  exact ⟨⟨hl, h8⟩, h⟩
section
variable {k : Nat}
theorem isname_R (hk : 1 ≤ k) (l : List Nat) (hl : l.length < 16777216) (A : AHp) : ∃ B, R k 0 [.str (S l)] A = .ok (.bl (nameB l)) (A ++ B) := by
  obtain ⟨k, rfl, hk⟩ := succ_of hk
  rw [R0]
  exact isname_ok (R k) A l hl
theorem pin_R (hk : 2 ≤ k) (l : List Nat) (hl : l.length + 2 ≤ 16777216) (A : AHp) : ∃ B, R k 9 [.str (S l)] A = .ok (optV (pathIn l)) B ∧ Fr [] A B := by
  obtain ⟨k, rfl, hk⟩ := succ_of hk
  rw [R9]
  exact pin_ok (R k) (fun A l hl => isname_R (by omega) l hl A) A l hl
end
end Law
end
section
namespace Law
open PySem PySem.Spec L2 Ev
set_option autoImplicit false
/-! where one text stands in another -/
def AtL (l p : List Nat) (i : Nat) : Prop := i + p.length ≤ l.length ∧ (l.drop i).take p.length = p
theorem at_S (l p : List Nat) (i : Nat) : PySem.StrLaws.At (S l) (S p) (S l).length i ↔ AtL l p i := by
  unfold PySem.StrLaws.At AtL
  rw [PySem.StrLaws.subAt_eq]
  have h1 : (S l).length = l.length := by simp [S, Str.length]
  have h2 : (S p).length = p.length := by simp [S, Str.length]
  have h3 : (S l).cps.toList = l := by simp [S]
  have h4 : (S p).cps.toList = p := by simp [S]
  rw [h1, h2, h3, h4]
  simp
theorem find_S (l p : List Nat) : (Txt.find (S l) (S p) = -1 ∧ ∀ i, ¬ AtL l p i) ∨ ∃ i : Nat, Txt.find (S l) (S p) = (i : Int) ∧ AtL l p i ∧ ∀ k, k < i → ¬ AtL l p k := by
  rcases PyProof.Rows.find_whole (S l) (S p) with ⟨h1, h2⟩ | ⟨i, h1, h2, h3⟩
  · exact .inl ⟨h1, fun i h => h2 i ((at_S l p i).mpr h)⟩
  · exact .inr ⟨i, h1, (at_S l p i).mp h2, fun k hk h => h3 k hk ((at_S l p k).mpr h)⟩
theorem rfind_S (l p : List Nat) : (Txt.rfind (S l) (S p) = -1 ∧ ∀ i, ¬ AtL l p i) ∨ ∃ i : Nat, Txt.rfind (S l) (S p) = (i : Int) ∧ AtL l p i ∧ ∀ k, i < k → ¬ AtL l p k := by
  rcases PyProof.Rows.rfind_whole (S l) (S p) with ⟨h1, h2⟩ | ⟨i, h1, h2, h3⟩
  · exact .inl ⟨h1, fun i h => h2 i ((at_S l p i).mpr h)⟩
  · exact .inr ⟨i, h1, (at_S l p i).mp h2, fun k hk h => h3 k hk ((at_S l p k).mpr h)⟩
instance (l p : List Nat) (i : Nat) : Decidable (AtL l p i) := inferInstanceAs (Decidable (_ ∧ _))
/-- the first place, from i on -/
def fstL (l p : List Nat) : Option Nat := (List.range (l.length + 1)).find? fun i => decide (AtL l p i)
def lstL (l p : List Nat) : Option Nat := (List.range (l.length + 1)).reverse.find? fun i => decide (AtL l p i)
def posV : Option Nat → Int
  | none => -1
  | some i => i
theorem fst_eq {l p : List Nat} {i : Nat} (h : AtL l p i) (hn : ∀ k, k < i → ¬ AtL l p k) : fstL l p = some i := by
  unfold fstL
  rw [List.find?_eq_some_iff_getElem]
  refine ⟨by simpa using h, i, by simp; have := h.1; omega, by simp, fun j hj => ?_⟩
  simp
  exact hn j hj
theorem fst_none {l p : List Nat} (h : ∀ i, ¬ AtL l p i) : fstL l p = none := by
  unfold fstL
  rw [List.find?_eq_none]
  intro x _
  simpa using h x
theorem lst_eq {l p : List Nat} {i : Nat} (h : AtL l p i) (hn : ∀ k, i < k → ¬ AtL l p k) : lstL l p = some i := by
  unfold lstL
  rw [List.find?_eq_some_iff_getElem]
  have hi := h.1
  refine ⟨by simpa using h, l.length - i, by simp; omega, by simp; omega, fun j hj => ?_⟩
  simp
  exact hn _ (by omega)
theorem lst_none {l p : List Nat} (h : ∀ i, ¬ AtL l p i) : lstL l p = none := by
  unfold lstL
  rw [List.find?_eq_none]
  intro x _
  simpa using h x
theorem find_L (l p : List Nat) : Txt.find (S l) (S p) = posV (fstL l p) := by
  rcases find_S l p with ⟨h1, h2⟩ | ⟨i, h1, h2, h3⟩
  · rw [h1, fst_none h2]; rfl
  · rw [h1, fst_eq h2 h3]; rfl
theorem rfind_L (l p : List Nat) : Txt.rfind (S l) (S p) = posV (lstL l p) := by
  rcases rfind_S l p with ⟨h1, h2⟩ | ⟨i, h1, h2, h3⟩
  · rw [h1, lst_none h2]; rfl
  · rw [h1, lst_eq h2 h3]; rfl
theorem fst_at {l p : List Nat} {i : Nat} (h : fstL l p = some i) : AtL l p i := by
  unfold fstL at h
  simpa using List.find?_some h
theorem lst_at {l p : List Nat} {i : Nat} (h : lstL l p = some i) : AtL l p i := by
  unfold lstL at h
  simpa using List.find?_some h
end Law
end
section
namespace Law
open PySem PySem.Spec L2 Ev
set_option autoImplicit false
/-! the words of a row -/
theorem pathIn_nm {l : List Nat} {p : Pth} (h : pathIn l = some p) : nmP p ∧ p.length ≤ 8 := by
  unfold pathIn at h
  split at h
  · cases h
    exact ⟨fun w hw => (by cases hw), by simp⟩
  · split at h
    · cases h
    · split at h
      · cases h
      · rename_i hh
        split at h
        · rename_i hb
          cases h
          refine ⟨fun w hw => List.all_eq_true.mp hb w hw, ?_⟩
          rcases Nat.lt_or_ge 8 p.length with z | z
          · exact absurd (.inr fun q => by omega) hh
          · exact z
        · cases h
theorem eq_non0 (A : AHp) : eqB .non (.tup []) A = some false := rfl
def signB (c : Nat) : Bool := decide (32 ≤ c ∧ c ≤ 36) || decide (38 ≤ c ∧ c ≤ 126)
def textB (l : List Nat) : Bool := decide (l.length ≤ 200) && l.all signB
def thingIn (l : List Nat) : Option Pth := match pathIn l with
  | some [] => none
  | x => x
def oVS (o : Option Pth) : AV := oV o
theorem optV_oV (o : Option Pth) : optV o = oV o := by cases o <;> rfl
def goneIn (l : List Nat) : Option Pth := match lstL l [47] with
  | none => none
  | some i => match (if 0 < i then thingIn (l.take i) else some []) with
    | none => none
    | some p => if nameB (l.drop (i + 1)) = true then some (p ++ [l.drop (i + 1)]) else none
section
variable {k : Nat}
theorem istext_R (hk : 1 ≤ k) (l : List Nat) (hl : l.length < 16777216) (A : AHp) : ∃ B, R k 149 [.str (S l)] A = .ok (.bl (textB l)) B ∧ Fr [] A B := by
  obtain ⟨k, rfl, hk⟩ := succ_of hk
  rw [R149]
  have hc := comp_pure (g := gNm 1) (t := dYes) (e := dOrV (dChain pLe pLe (dC (.str (S [32]))) (dVar 1) (dC (.str (S [36])))) (dChain pLe pLe (dC (.str (S [38]))) (dVar 1) (dC (.str (S [126]))))) (τ := [some (.str (S l)), none]) (src := srcC (l.map fun c => .str (S [c]))) (l := l)
    (fun c => .str (S [c])) (fun c => .bl (signB c)) (A := A) hl (fun _ _ => rfl) (fun acc c hx => by
      refine ⟨_, rfl, rfl, ?_⟩
      simp [one_lt, signB]
      by_cases h1 : 32 ≤ c <;> by_cases h2 : c ≤ 36 <;> by_cases h3 : 38 ≤ c <;> by_cases h4 : c ≤ 126 <;> simp [h1, h2, h3, h4] <;> omega)
  have cc : f149_0_c0 (R k) [some (.str (S l)), none] A = .ok (.ref A.length) (A ++ [.lst (l.map fun c => .bl (signB c)) false]) := by
    unfold f149_0_c0 dLc
    simp [wipeA, hc]
  by_cases h1 : (l.length : Int) ≤ 200
  · have h2 : l.length ≤ 200 := by omega
    exact ⟨_, by simp (disch := omega) [runBody_eq, f149_0, h1, cc, textB, h2]; rfl, Fr.app _ _ _⟩
  · have h2 : ¬ l.length ≤ 200 := by omega
    exact ⟨A, by simp (disch := omega) [runBody_eq, f149_0, h1, textB, h2], Fr.refl _ _⟩
theorem thing_R (hk : 3 ≤ k) (l : List Nat) (hl : l.length + 2 ≤ 16777216) (A : AHp) : ∃ B, R k 151 [.str (S l)] A = .ok (oV (thingIn l)) B ∧ Fr [] A B := by
  obtain ⟨k, rfl, hk⟩ := succ_of hk
  obtain ⟨B, e, f⟩ := pin_R (k := k) (by omega) l hl A
  rw [optV_oV] at e
  rw [R151]
  refine ⟨B, ?_, f⟩
  unfold thingIn
  cases h : pathIn l with
  | none => rw [h] at e; simp [runBody_eq, f151_0, e, oV, eq_non0]
  | some p =>
    rw [h] at e
    have ep := e_eqP0 B (pathIn_nm h).1.ok
    simp only [oV] at e
    cases p with
    | nil =>
      simp at ep e
      simp [runBody_eq, f151_0, e, oV, ep]
    | cons w r => simp [runBody_eq, f151_0, e, oV, ep]
theorem S_take (l : List Nat) (hl : l.length ≤ 16777216) (i : Nat) (A : AHp) : pSl (.str (S l)) none (some (i : Int)) A = some (.str (S (l.take i)), A) := by
  rw [e_slS (h := hl), cut_to (h := by omega), Int.toNat_natCast]
theorem S_drop (l : List Nat) (hl : l.length ≤ 16777216) (i : Nat) (A : AHp) : pSl (.str (S l)) (some (i : Int)) none A = some (.str (S (l.drop i)), A) := by
  rw [e_slS (h := hl), cut_from (h := by omega), Int.toNat_natCast]
theorem at_one {l : List Nat} {c i : Nat} (h : AtL l [c] i) : i < l.length := by have := h.1; simp at this; omega
theorem goneIn_nm {l : List Nat} {p : Pth} (h : goneIn l = some p) : nmP p ∧ 1 ≤ p.length ∧ p.length ≤ 9 := by
  unfold goneIn at h
  split at h
  · cases h
  · rename_i i e
    split at h
    · cases h
    · rename_i q e2
      split at h
      · rename_i hb
        cases h
        have hq : nmP q ∧ q.length ≤ 8 := by
          split at e2
          · unfold thingIn at e2
            split at e2
            · cases e2
            · exact pathIn_nm e2
          · cases e2
            exact ⟨fun w hw => (by cases hw), by simp⟩
        exact ⟨hq.1.snoc hb, by simp, by simp; omega⟩
      · cases h
theorem thingIn_nm {l : List Nat} {p : Pth} (h : thingIn l = some p) : nmP p ∧ 1 ≤ p.length ∧ p.length ≤ 8 := by
  unfold thingIn at h
  split at h
  · cases h
  · rename_i x hx
    have := pathIn_nm h
    refine ⟨this.1, ?_, this.2⟩
    cases p with
    | nil => exact absurd h hx
    | cons w r => simp
theorem gone_R (hk : 4 ≤ k) (l : List Nat) (hl : l.length + 2 ≤ 16777216) (A : AHp) : ∃ B, R k 152 [.str (S l)] A = .ok (oV (goneIn l)) B ∧ Fr [] A B := by
  obtain ⟨k, rfl, hk⟩ := succ_of hk
  rw [R152]
  have hr := rfind_L l [47]
  unfold goneIn
  cases hi : lstL l [47] with
  | none =>
    rw [hi] at hr
    exact ⟨A, by simp [runBody_eq, f152_0, mStr1, hr, posV, oV], Fr.refl _ _⟩
  | some i =>
    rw [hi] at hr
    have hlt := at_one (lst_at hi)
    have hd : ∀ B, pSl (.str (S l)) (some ((i : Int) + 1)) none B = some (.str (S (l.drop (i + 1))), B) := fun B => by
      have := S_drop l (by omega) (i + 1) B
      rwa [Int.natCast_add] at this
    have ht : ∀ B, pSl (.str (S l)) none (some (i : Int)) B = some (.str (S (l.take i)), B) := fun B => S_take l (by omega) i B
    have h0 : ¬ (i : Int) < 0 := by omega
    obtain ⟨q, B, hq, e1, e0, fB, hl8⟩ : ∃ (q : Option Pth) (B : AHp), (if 0 < i then thingIn (l.take i) else some []) = q ∧ (0 < i → R k 151 [.str (S (l.take i))] A = .ok (oV q) B) ∧ (¬ 0 < i → B = A ∧ q = some []) ∧ Fr [] A B ∧ ∀ p, q = some p → p.length ≤ 8 := by
      by_cases hp : 0 < i
      · obtain ⟨B, e, f⟩ := thing_R (k := k) (by omega) (l.take i) (by simp; omega) A
        exact ⟨thingIn (l.take i), B, if_pos hp, fun _ => e, fun z => absurd hp z, f, fun p hp => (thingIn_nm hp).2.2⟩
      · exact ⟨some [], A, if_neg hp, fun z => absurd z hp, fun _ => ⟨rfl, rfl⟩, Fr.refl _ _, fun p hp => by cases hp; simp⟩
    dsimp only
    rw [hq]
    obtain ⟨C, e, f⟩ : ∃ C, R k 0 [.str (S (l.drop (i + 1)))] B = .ok (.bl (nameB (l.drop (i + 1)))) C ∧ Fr [] B C := by
      obtain ⟨C, e⟩ := isname_R (k := k) (by omega) (l.drop (i + 1)) (by simp; omega) B
      exact ⟨_, e, Fr.app _ _ _⟩
    by_cases hp : 0 < i
    · have hp' : (0 : Int) < i := by omega
      have e1 := e1 hp
      cases q with
      | none => exact ⟨B, by simp [oV] at e1; simp [runBody_eq, f152_0, mStr1, hr, posV, hp, hp', ht, -e_slS, e1, h0, oV], fB⟩
      | some p =>
        have hp8 := hl8 p rfl
        refine ⟨C, ?_, fB.trans f⟩
        simp only [oV] at e1
        by_cases hb : nameB (l.drop (i + 1)) = true
        · rw [hb] at e
          have pa : pAdd (.tup (nV p)) (.tup [.str (S (l.drop (i + 1)))]) C = some (.tup (nV (p ++ [l.drop (i + 1)])), C) := by
            simp (disch := first | omega | (simp; omega)) [nV]
          simp [runBody_eq, f152_0, mStr1, hr, posV, hp, hp', ht, -e_slS, e1, h0, oV, hd, e, hb, pa, -e_addTT]
        · rw [Bool.not_eq_true] at hb
          rw [hb] at e
          simp [runBody_eq, f152_0, mStr1, hr, posV, hp, hp', ht, -e_slS, e1, h0, oV, hd, e, hb]
    · obtain ⟨rfl, rfl⟩ := e0 hp
      have hp' : ¬ (0 : Int) < i := by omega
      refine ⟨C, ?_, f⟩
      by_cases hb : nameB (l.drop (i + 1)) = true
      · rw [hb] at e
        have pa : pAdd (.tup []) (.tup [.str (S (l.drop (i + 1)))]) C = some (.tup (nV [l.drop (i + 1)]), C) := (rfl)
        simp [runBody_eq, f152_0, mStr1, hr, posV, hp, hp', h0, oV, hd, -e_slS, e, hb, pa, -e_addTT]
      · rw [Bool.not_eq_true] at hb
        rw [hb] at e
        simp [runBody_eq, f152_0, mStr1, hr, posV, hp, hp', h0, oV, hd, -e_slS, e, hb]
end
end Law
end
section
namespace Law
open PySem PySem.Spec L2 Ev
set_option autoImplicit false
/-! a row's entry, as the program reads it -/
theorem strV_at {ws : List (List Nat)} {i : Nat} {w : List Nat} (h : ws[i]? = some w) : atI (strV ws) i = some (.str (S w)) := by
  rw [atI_nn _ (by omega)]
  unfold strV
  rw [List.getElem?_map, Int.toNat_natCast, h]
  rfl
def okSs (ws : List (List Nat)) : Prop := ∀ w ∈ ws, okS w = true
theorem reps_strV (A : AHp) : ∀ ws : List (List Nat), Reps A (ws.map T.str) (strV ws)
  | [] => by rw [List.map_nil, Reps]; rfl
  | w :: r => by
    rw [List.map_cons, Reps]
    exact ⟨.str (S w), strV r, rfl, by rw [Rep], reps_strV A r⟩
theorem noBs_strV : ∀ ws : List (List Nat), noBs (ws.map T.str) = true
  | [] => rfl
  | w :: r => by rw [List.map_cons, noBs, noBs_strV r]; simp [noB]
theorem deps_strV : ∀ ws : List (List Nat), deps (ws.map T.str) = 0
  | [] => rfl
  | w :: r => by rw [List.map_cons, deps, deps_strV r]; simp [dep]
theorem okTs_strV : ∀ {ws : List (List Nat)}, okSs ws → okTs (ws.map T.str) = true
  | [], _ => rfl
  | w :: r, h => by rw [List.map_cons, okTs, okTs_strV fun x hx => h x (by simp [hx])]; simp [okT, h w (by simp)]
theorem sameL_strV : ∀ a b : List (List Nat), sameL (a.map T.str) (b.map T.str) = decide (a = b)
  | [], [] => rfl
  | [], _ :: _ => rfl
  | _ :: _, [] => rfl
  | x :: a, y :: b => by
    rw [List.map_cons, List.map_cons, sameL, sameL_strV a b]
    by_cases h : x = y <;> by_cases h2 : a = b <;> simp [sameT, h, h2]
theorem eq_lst {A : AHp} {n m : Nat} {a b : List (List Nat)} (h1 : gt A n = some (.lst (strV a) false)) (h2 : gt A m = some (.lst (strV b) false)) (ha : okSs a) (hb : okSs b) : eqB (.ref n) (.ref m) A = some (decide (a = b)) := by
  have e := eqB_T (A := A) (d := .lst (a.map T.str)) (d' := .lst (b.map T.str)) (v := .ref n) (v' := .ref m) (by rw [Rep]; exact ⟨n, _, rfl, h1, reps_strV A a⟩) (by rw [Rep]; exact ⟨m, _, rfl, h2, reps_strV A b⟩) (by rw [noB]; exact noBs_strV a) (by rw [noB]; exact noBs_strV b) (by rw [okT]; exact okTs_strV ha) (by rw [okT]; exact okTs_strV hb) (by rw [dep, deps_strV]; omega) (by rw [dep, deps_strV]; omega)
  rw [e, sameT, sameL_strV]
def figL : List Nat := [48, 49, 50, 51, 52, 53, 54, 55, 56, 57]
def numV (l : List Nat) : Nat := l.foldl (fun n c => 10 * n + (c - 48)) 0
def numIn (l : List Nat) : Option Nat := if l = [] ∨ 3 < l.length ∨ (l[0]? = some 48 ∧ l ≠ [48]) then none else if (l.all fun c => decide (c ∈ figL)) = true ∧ numV l ≤ 199 then some (numV l) else none
theorem fig_ex {c : Nat} (h : c ∈ figL) : ∃ a : Fin 10, c = 48 + a.val := by
  simp [figL] at h
  exact ⟨⟨c - 48, by omega⟩, by simp; omega⟩
theorem int1 : ∀ a : Fin 10, PySem.intText? (S [48 + a.val]) = some (numV [48 + a.val] : Int) := by decide +kernel
theorem int2 : ∀ a b : Fin 10, PySem.intText? (S [48 + a.val, 48 + b.val]) = some (numV [48 + a.val, 48 + b.val] : Int) := by decide +kernel
theorem int3 : ∀ a b c : Fin 10, PySem.intText? (S [48 + a.val, 48 + b.val, 48 + c.val]) = some (numV [48 + a.val, 48 + b.val, 48 + c.val] : Int) := by decide +kernel
theorem int_fig {l : List Nat} (h0 : l ≠ []) (h3 : l.length ≤ 3) (h : ∀ c ∈ l, c ∈ figL) : PySem.intText? (S l) = some (numV l : Int) := by
  rcases l with _ | ⟨a, _ | ⟨b, _ | ⟨c, _ | ⟨d, r⟩⟩⟩⟩
  · exact absurd rfl h0
  · obtain ⟨x, rfl⟩ := fig_ex (h a (by simp))
    exact int1 x
  · obtain ⟨x, rfl⟩ := fig_ex (h a (by simp))
    obtain ⟨y, rfl⟩ := fig_ex (h b (by simp))
    exact int2 x y
  · obtain ⟨x, rfl⟩ := fig_ex (h a (by simp))
    obtain ⟨y, rfl⟩ := fig_ex (h b (by simp))
    obtain ⟨z, rfl⟩ := fig_ex (h c (by simp))
    exact int3 x y z
  · simp at h3
def oN : Option Nat → AV
  | none => .non
  | some n => .int n
section
variable {k : Nat}
theorem num_R (hk : 1 ≤ k) (l : List Nat) (hl : l.length < 16777216) (A : AHp) : ∃ B, R k 150 [.str (S l)] A = .ok (oN (numIn l)) B ∧ Fr [] A B := by
  obtain ⟨k, rfl, hk⟩ := succ_of hk
  rw [R150]
  unfold numIn
  by_cases h0 : l = []
  · subst h0
    exact ⟨A, by simp [runBody_eq, f150_0, oN], Fr.refl _ _⟩
  by_cases h3 : 3 < l.length
  · have h3' : (3 : Int) < l.length := by omega
    exact ⟨A, by simp (disch := omega) [runBody_eq, f150_0, oN, h0, h3, h3'], Fr.refl _ _⟩
  have h3' : ¬ (3 : Int) < l.length := by omega
  obtain ⟨c, r, hc⟩ : ∃ c r, l = c :: r := by
    cases l with
    | nil => exact absurd rfl h0
    | cons c r => exact ⟨c, r, rfl⟩
  have a0 : atI l 0 = some c := by rw [hc, atI_nn _ (by omega)]; rfl
  have g0 : l[0]? = some c := by rw [hc]; rfl
  by_cases hz : c = 48 ∧ l ≠ [48]
  · obtain ⟨rfl, hz2⟩ := hz
    exact ⟨A, by simp (disch := omega) [runBody_eq, f150_0, oN, h0, h3, h3', a0, g0, hz2], Fr.refl _ _⟩
  have hz' : ¬ (c = 48 ∧ ¬ l = [48]) := hz
  have hc2 := comp_pure (g := gNm 1) (t := dYes) (e := dBin pIn (dVar 1) (dC (.str (S [48, 49, 50, 51, 52, 53, 54, 55, 56, 57])))) (τ := [some (.str (S l)), none]) (src := srcC (l.map fun c => .str (S [c]))) (l := l)
    (fun c => .str (S [c])) (fun c => .bl (decide (c ∈ figL))) (A := A) hl (fun _ _ => rfl) (fun acc c hx => by
      refine ⟨_, rfl, rfl, ?_⟩
      simp [figL])
  have cc : f150_0_c0 (R k) [some (.str (S l)), none] A = .ok (.ref A.length) (A ++ [.lst (l.map fun c => .bl (decide (c ∈ figL))) false]) := by
    unfold f150_0_c0 dLc
    simp [wipeA, hc2]
  have hno : ¬ (l = [] ∨ 3 < l.length ∨ (l[0]? = some 48 ∧ l ≠ [48])) := by
    rw [g0]
    rintro (z | z | ⟨z1, z2⟩)
    · exact h0 z
    · exact h3 z
    · cases z1; exact hz ⟨rfl, z2⟩
  have key : ∀ {α : Type} (X Y : α), (if c = 48 then if l = [48] then X else Y else X) = X := fun X Y => by
    by_cases q1 : c = 48
    · rw [if_pos q1]
      by_cases q2 : l = [48]
      · rw [if_pos q2]
      · exact absurd ⟨q1, q2⟩ hz
    · rw [if_neg q1]
  by_cases hf : ∀ c ∈ l, c ∈ figL
  · have hi := int_fig h0 (by omega) hf
    have fi : ∀ B, fIntS [.str (S l)] B = some (.int (numV l), B) := fun B => by
      show (if (S l).length ≤ 640 then (PySem.intText? (S l)).map fun n => (AV.int n, B) else none) = _
      rw [if_pos (by show l.length ≤ 640; omega), hi]
      rfl
    have hne2 : ¬ ∃ x, x ∈ l ∧ ¬ x ∈ figL := by rintro ⟨x, h1, h2⟩; exact h2 (hf x h1)
    have hall : (l.all fun c => decide (c ∈ figL)) = true := by simpa using hf
    refine ⟨A ++ [.lst (l.map fun c => .bl (decide (c ∈ figL))) false], ?_, Fr.app _ _ _⟩
    rw [if_neg hno]
    by_cases hv : numV l ≤ 199
    · have hv' : ¬ (199 : Int) < numV l := by omega
      rw [if_pos ⟨hall, hv⟩]
      simp (disch := omega) [runBody_eq, f150_0, oN, h0, h3', a0, cc, fi, hv', hne2, key]
    · have hv' : (199 : Int) < numV l := by omega
      rw [if_neg (fun z => hv z.2)]
      simp (disch := omega) [runBody_eq, f150_0, oN, h0, h3', a0, cc, fi, hv', hne2, key]
  · have hex : ∃ x, x ∈ l ∧ ¬ x ∈ figL := by simpa using hf
    have hall : ¬ (l.all fun c => decide (c ∈ figL)) = true := by simpa using hf
    refine ⟨A ++ [.lst (l.map fun c => .bl (decide (c ∈ figL))) false], ?_, Fr.app _ _ _⟩
    rw [if_neg hno, if_neg (fun z => hall z.1)]
    simp (disch := omega) [runBody_eq, f150_0, oN, h0, h3', a0, cc, hex, key]
end
end Law
end
section
namespace Law
open PySem PySem.Spec L2 Ev
set_option autoImplicit false
/-! a row's entry -/
def aloneW : List Nat := [97, 108, 111, 110, 101]
def overW : List Nat := [111, 118, 101, 114]
def goneW : List Nat := [103, 111, 110, 101]
def fileW : List Nat := [102, 105, 108, 101]
def foldW : List Nat := [102, 111, 108, 100, 101, 114]
def WOk (ws : List (List Nat)) : Prop := ∀ w ∈ ws, w.length ≤ 100000 ∧ okS w = true
def folF (p : Pth) (ws : List (List Nat)) : Option (Pth × Row) := if ws = [aloneW] then some (p, .fol none) else match ws with
  | [a, b] => if a = overW then (pathIn b).map fun q => (p, .fol (some q)) else none
  | _ => none
/-- a row that is no mark -/
def entR (w0 : List Nat) : List (List Nat) → Option (Pth × Row)
  | [] => none
  | w1 :: r2 => match thingIn w1 with
    | none => none
    | some p => match (if w0 = fileW ∧ r2.length = 1 then numIn (r2.headD []) else none) with
      | some n => some (p, .fil n)
      | none => if w0 = foldW then folF p r2 else none
def entW (ws : List (List Nat)) : Option (Pth × Row) := match ws with
  | [] => none
  | w0 :: r => match (if w0 = goneW ∧ r.length = 1 then goneIn (r.headD []) else none) with
    | some p => some (p, .gone)
    | none => entR w0 r
def entO : Option (Pth × Row) → AV
  | none => .non
  | some x => entV x
theorem okSs_alone : okSs [aloneW] := by
  intro w hw
  rw [List.mem_singleton.mp hw]
  rfl
section
variable {k : Nat}
theorem folder_R (hk : 3 ≤ k) (p : Pth) {ws : List (List Nat)} (hw : WOk ws) {A : AHp} {j : Nat} (g : gt A j = some (.lst (strV ws) false)) : ∃ B, R k 153 [.tup (nV p), .ref j] A = .ok (entO (folF p ws)) B ∧ Fr [] A B := by
  obtain ⟨k, rfl, hk⟩ := succ_of hk
  rw [R153]
  obtain ⟨A1, hA1⟩ : ∃ A1, A1 = A ++ [.lst (strV [aloneW]) false] := ⟨_, rfl⟩
  have F1 : Fr [] A A1 := by rw [hA1]; exact Fr.app _ _ _
  have g1 : gt A1 A.length = some (.lst (strV [aloneW]) false) := by rw [hA1]; exact gt_new
  have gj := F1.gt g (by simp)
  have e1 := eq_lst gj g1 (fun w hw' => (hw w hw').2) okSs_alone
  have hA1' : A ++ [.lst [.str (S [97, 108, 111, 110, 101])] false] = A1 := by rw [hA1]; rfl
  unfold folF
  by_cases c1 : ws = [aloneW]
  · rw [if_pos c1]
    rw [decide_eq_true c1] at e1
    exact ⟨A1, by simp [runBody_eq, f153_0, hA1', e1, entO, entV, rowV, oV], F1⟩
  rw [if_neg c1]
  rw [decide_eq_false c1] at e1
  have hlen : fLen [.ref j] A1 = some (.int ws.length, A1) := by simp [gj, strV]
  by_cases c2 : ws.length = 2
  · obtain ⟨a, b, rfl⟩ : ∃ a b, ws = [a, b] := by
      rcases ws with _ | ⟨a, _ | ⟨b, _ | ⟨c, r⟩⟩⟩
      · cases c2
      · cases c2
      · exact ⟨a, b, rfl⟩
      · simp at c2
    have i0 : pIx (.ref j) (.int 0) A1 = some (.str (S a), A1) := by rw [e_ixRI, gj]; rfl
    have i1 : ∀ B, Fr [] A1 B → pIx (.ref j) (.int 1) B = some (.str (S b), B) := fun B f => by rw [e_ixRI, f.gt gj (by simp)]; rfl
    dsimp only
    by_cases c3 : a = overW
    · rw [if_pos c3]
      have c3' : a = [111, 118, 101, 114] := c3
      obtain ⟨B, e2, f2⟩ := pin_R (k := k) (by omega) b (by have := (hw b (by simp)).1; omega) A1
      obtain ⟨C, e3, f3⟩ := pin_R (k := k) (by omega) b (by have := (hw b (by simp)).1; omega) B
      rw [optV_oV] at e2 e3
      have j1 := i1 A1 (Fr.refl _ _)
      have j2 := i1 B f2
      cases hq : pathIn b with
      | none =>
        rw [hq] at e2
        simp only [oV] at e2
        exact ⟨B, by simp [runBody_eq, f153_0, hA1', e1, hlen, -e_lenR, i0, -e_ixRI, c3', j1, e2, entO], F1.trans f2⟩
      | some q =>
        rw [hq] at e2 e3
        simp only [oV] at e2 e3
        exact ⟨C, by simp [runBody_eq, f153_0, hA1', e1, hlen, -e_lenR, i0, -e_ixRI, c3', j1, j2, e2, e3, entO, entV, rowV, oV], (F1.trans f2).trans f3⟩
    · rw [if_neg c3]
      have c3' : ¬ a = [111, 118, 101, 114] := c3
      exact ⟨A1, by simp [runBody_eq, f153_0, hA1', e1, hlen, -e_lenR, i0, -e_ixRI, c3', entO], F1⟩
  · have c2' : ¬ (ws.length : Int) = 2 := by omega
    refine ⟨A1, ?_, F1⟩
    have hm : (match ws with
      | [a, b] => if a = overW then (pathIn b).map fun q => (p, Row.fol (some q)) else none
      | _ => none) = none := by
      split
      · exact absurd rfl c2
      · rfl
    rw [hm]
    simp [runBody_eq, f153_0, hA1', e1, hlen, -e_lenR, c2', entO]
end
end Law
end
section
namespace Law
open PySem PySem.Spec L2 Ev
set_option autoImplicit false
/-! a row's entry: the whole -/
noncomputable def c154 (r : Rt) : Den Bool := (dAndT (dTB (dBin pEq (dBin pIx (dVar 1) (dC (.int 0))) (dC (.str (S [103, 111, 110, 101]))))) (dAndT (dTB (dBin pEq (dCB fLen (dCons (dVar 1) dNil)) (dC (.int 2)))) (dTB (dBin pIsNot (dCall 1 (r 152) (dCons (dBin pIx (dVar 1) (dC (.int 1))) dNil)) (dC .non)))))
noncomputable def t154 (r : Rt) : SDen := (sSeq (sIf (dOrT (dTB (dBin pLt (dCB fLen (dCons (dVar 1) dNil)) (dC (.int 2)))) (dTB (dBin pIs (dCall 1 (r 151) (dCons (dBin pIx (dVar 1) (dC (.int 1))) dNil)) (dC .non)))) (sRet (dC .non)) sNil) (sSeq (sAsg (dCall 1 (r 151) (dCons (dBin pIx (dVar 1) (dC (.int 1))) dNil)) (gNm 2)) (sSeq (sIf (dAndT (dTB (dBin pEq (dBin pIx (dVar 1) (dC (.int 0))) (dC (.str (S [102, 105, 108, 101]))))) (dAndT (dTB (dBin pEq (dCB fLen (dCons (dVar 1) dNil)) (dC (.int 3)))) (dTB (dBin pIsNot (dCall 1 (r 150) (dCons (dBin pIx (dVar 1) (dC (.int 2))) dNil)) (dC .non))))) (sRet (dTup (dCons (dVar 2) (dCons (dC (.str (S [102, 105, 108, 101]))) (dCons (dCall 1 (r 150) (dCons (dBin pIx (dVar 1) (dC (.int 2))) dNil)) dNil))))) sNil) (sSeq (sIf (dTB (dBin pEq (dBin pIx (dVar 1) (dC (.int 0))) (dC (.str (S [102, 111, 108, 100, 101, 114]))))) (sRet (dCall 2 (r 153) (dCons (dVar 2) (dCons (dSl (dVar 1) (dPart (dC (.int 2))) dNoPart) dNil)))) sNil) (sRet (dC .non))))))
theorem f154_eq (r : Rt) : f154_0 r = (sSeq (sAsg (dBM "str" mSplit (dVar 0) (dCons (dC (.str (S [32]))) dNil)) (gNm 1)) (sSeq (sIf (c154 r) (sRet (dTup (dCons (dCall 1 (r 152) (dCons (dBin pIx (dVar 1) (dC (.int 1))) dNil)) (dCons (dC (.str (S [103, 111, 110, 101]))) dNil)))) sNil) (t154 r))) := (rfl)
theorem spl_okS (c : Nat) : ∀ (a acc : List Nat) (x : List Nat), x ∈ TL.spl [c] 0 acc a → okS acc = true → okS a = true → okS x = true
  | [], acc, x, h, h1, _ => by
    rw [TL.spl_nil] at h
    simp at h
    subst h
    exact h1
  | d :: a, acc, x, h, h1, h2 => by
    have h2' : okS [d] = true ∧ okS a = true := by
      unfold okS at h2 ⊢
      simp at h2 ⊢
      exact h2
    rw [TL.spl] at h
    split at h
    · rcases List.mem_cons.mp h with z | z
      · subst z; exact h1
      · exact spl_okS c a [] x (by simpa using z) rfl h2'.2
    · refine spl_okS c a (acc ++ [d]) x h ?_ h2'.2
      unfold okS at h1 h2' ⊢
      rw [List.all_append, h1, h2'.1]
      rfl
theorem split_ok {l : List Nat} (c : Nat) (h1 : l.length ≤ 100000) (h2 : okS l = true) : WOk (splitL c l) := fun w hw => by
  have a := spl_len c l [] w hw
  simp at a
  exact ⟨by omega, spl_okS c l [] w hw rfl h2⟩
theorem split_cons (c : Nat) (l : List Nat) : ∃ w ws, splitL c l = w :: ws := by
  have := (spl_count c l []).2
  unfold splitL
  cases h : TL.spl [c] 0 [] l with
  | nil => rw [h] at this; simp at this
  | cons w ws => exact ⟨w, ws, rfl⟩
section
variable {k : Nat} {A : AHp} {j : Nat} {w0 : List Nat} {r : List (List Nat)} {x0 : Option AV}
theorem wd_at {ws : List (List Nat)} (g : gt A j = some (.lst (strV ws) false)) {i : Nat} {w : List Nat} (h : ws[i]? = some w) : pIx (.ref j) (.int i) A = some (.str (S w), A) := by
  rw [e_ixRI, g]
  dsimp only
  rw [strV_at h]
  rfl
theorem cond_R (hk : 4 ≤ k) (hw : WOk (w0 :: r)) (g : gt A j = some (.lst (strV (w0 :: r)) false)) : ∃ B, c154 (R k) [x0, some (.ref j), none] A = .ok (if w0 = goneW ∧ r.length = 1 then goneIn (r.headD []) else none).isSome B ∧ Fr [] A B := by
  unfold c154
  have i0 : pIx (.ref j) (.int 0) A = some (.str (S w0), A) := wd_at g (i := 0) rfl
  have hl : fLen [.ref j] A = some (.int ((r.length : Int) + 1), A) := by simp [g, strV]
  by_cases c1 : w0 = goneW
  · have c1' : w0 = [103, 111, 110, 101] := c1
    by_cases c2 : r.length = 1
    · obtain ⟨w1, rfl⟩ : ∃ w1, r = [w1] := by
        rcases r with _ | ⟨a, _ | ⟨b, s⟩⟩
        · cases c2
        · exact ⟨a, rfl⟩
        · simp at c2
      obtain ⟨B, e, f⟩ := gone_R (k := k) hk w1 (by have := (hw w1 (by simp)).1; omega) A
      have i1 : pIx (.ref j) (.int 1) A = some (.str (S w1), A) := wd_at g (i := 1) rfl
      have hl2 : fLen [.ref j] A = some (.int 2, A) := by simp [g, strV]
      refine ⟨B, ?_, f⟩
      rw [if_pos ⟨c1, c2⟩]
      cases hq : goneIn w1 with
      | none => rw [hq] at e; simp [oV] at e; simp [i0, -e_ixRI, c1', hl2, -e_lenR, i1, e, hq]
      | some q => rw [hq] at e; simp [oV] at e; simp [i0, -e_ixRI, c1', hl2, -e_lenR, i1, e, hq]
    · refine ⟨A, ?_, Fr.refl _ _⟩
      rw [if_neg (fun z => c2 z.2)]
      have c2' : ¬ (r.length : Int) + 1 = 2 := by omega
      simp [i0, -e_ixRI, c1', hl, -e_lenR, c2']
  · refine ⟨A, ?_, Fr.refl _ _⟩
    rw [if_neg (fun z => c1 z.1)]
    have c1' : ¬ w0 = [103, 111, 110, 101] := c1
    simp [i0, -e_ixRI, c1']
theorem tail_R (hk : 4 ≤ k) (hw : WOk (w0 :: r)) (g : gt A j = some (.lst (strV (w0 :: r)) false)) : ∃ B, fin (t154 (R k) [x0, some (.ref j), none] A) = .ok (entO (entR w0 r)) B ∧ Fr [] A B := by
  have ix : ∀ {B : AHp} (f : Fr [] A B) (i : Nat) (w : List Nat), (w0 :: r)[i]? = some w → pIx (.ref j) (.int i) B = some (.str (S w), B) := fun f i w h => wd_at (f.gt g (by simp)) h
  have hl : ∀ {B : AHp} (f : Fr [] A B), fLen [.ref j] B = some (.int ((r.length : Int) + 1), B) := fun f => by simp [f.gt g (by simp), strV]
  unfold t154
  rcases r with _ | ⟨w1, r2⟩
  · have h1 : fLen [.ref j] A = some (.int 1, A) := by simp [g, strV]
    exact ⟨A, by simp [h1, -e_lenR, entR, entO], Fr.refl _ _⟩
  have h1 : ∀ {B : AHp} (f : Fr [] A B), fLen [.ref j] B = some (.int ((r2.length : Int) + 1 + 1), B) := fun f => by simp [f.gt g (by simp), strV]
  have n1 : ¬ (r2.length : Int) + 1 + 1 < 2 := by omega
  obtain ⟨B, e1, f1⟩ := thing_R (k := k) (by omega) w1 (by have := (hw w1 (by simp)).1; omega) A
  obtain ⟨C, e2, f2⟩ := thing_R (k := k) (by omega) w1 (by have := (hw w1 (by simp)).1; omega) B
  have fC := f1.trans f2
  have a1 : pIx (.ref j) (.int 1) A = some (.str (S w1), A) := ix (Fr.refl _ _) 1 w1 rfl
  have b1 : pIx (.ref j) (.int 1) B = some (.str (S w1), B) := ix f1 1 w1 rfl
  have lA := h1 (Fr.refl [] A)
  have lC := h1 fC
  have eR : entR w0 (w1 :: r2) = match thingIn w1 with
      | none => none
      | some p => match (if w0 = fileW ∧ r2.length = 1 then numIn (r2.headD []) else none) with
        | some n => some (p, .fil n)
        | none => if w0 = foldW then folF p r2 else none := rfl
  rw [eR]
  clear eR
  cases hq : thingIn w1 with
  | none =>
    rw [hq] at e1
    simp only [oV] at e1
    exact ⟨B, by simp [lA, -e_lenR, n1, a1, -e_ixRI, e1, entO], f1⟩
  | some p =>
    rw [hq] at e1 e2
    simp only [oV] at e1 e2
    have c0 : pIx (.ref j) (.int 0) C = some (.str (S w0), C) := ix fC 0 w0 rfl
    dsimp only
    by_cases c1 : w0 = fileW
    · have c1' : w0 = [102, 105, 108, 101] := c1
      have c3 : ¬ w0 = foldW := by rw [c1]; decide
      have c3' : ¬ ([102, 105, 108, 101] : List Nat) = [102, 111, 108, 100, 101, 114] := by decide
      by_cases c2 : r2.length = 1
      · obtain ⟨w2, rfl⟩ : ∃ w2, r2 = [w2] := by
          rcases r2 with _ | ⟨a, _ | ⟨b, s⟩⟩
          · cases c2
          · exact ⟨a, rfl⟩
          · simp at c2
        have l3 : ∀ {B : AHp} (f : Fr [] A B), fLen [.ref j] B = some (.int 3, B) := fun f => by simp [f.gt g (by simp), strV]
        have lA3 := l3 (Fr.refl [] A)
        have lC3 := l3 fC
        obtain ⟨D, e3, f3⟩ := num_R (k := k) (by omega) w2 (by have := (hw w2 (by simp)).1; omega) C
        obtain ⟨F, e4, f4⟩ := num_R (k := k) (by omega) w2 (by have := (hw w2 (by simp)).1; omega) D
        have c2x : pIx (.ref j) (.int 2) C = some (.str (S w2), C) := ix fC 2 w2 rfl
        have d2x : pIx (.ref j) (.int 2) D = some (.str (S w2), D) := ix (fC.trans f3) 2 w2 rfl
        have d0x : pIx (.ref j) (.int 0) D = some (.str (S w0), D) := ix (fC.trans f3) 0 w0 rfl
        rw [if_pos ⟨c1, rfl⟩]
        cases hn : numIn w2 with
        | none =>
          rw [hn] at e3
          simp only [oN] at e3
          refine ⟨D, ?_, fC.trans f3⟩
          rw [c1'] at c0 d0x
          simp [lA3, lC3, -e_lenR, a1, b1, -e_ixRI, e1, e2, c0, c2x, d0x, e3, entO, hn, c3]
        | some n =>
          rw [hn] at e3 e4
          simp only [oN] at e3 e4
          refine ⟨F, ?_, (fC.trans f3).trans f4⟩
          rw [c1'] at c0
          simp [lA3, lC3, -e_lenR, a1, b1, -e_ixRI, e1, e2, c0, c2x, d2x, e3, e4, entO, entV, rowV, hn]
      · rw [if_neg (fun z => c2 z.2)]
        have c2' : ¬ (r2.length : Int) + 1 + 1 = 3 := by omega
        refine ⟨C, ?_, fC⟩
        rw [c1'] at c0
        simp [lA, lC, n1, -e_lenR, a1, b1, -e_ixRI, e1, e2, c0, c2', entO, c3]
    · have c1' : ¬ w0 = [102, 105, 108, 101] := c1
      rw [if_neg (fun z => c1 z.1)]
      dsimp only
      by_cases c3 : w0 = foldW
      · rw [if_pos c3]
        obtain ⟨C2, hC2⟩ : ∃ C2, C2 = C ++ [.lst (strV r2) false] := ⟨_, rfl⟩
        have fC2 : Fr [] C C2 := by rw [hC2]; exact Fr.app _ _ _
        have sl : pSl (.ref j) (some 2) none C = some (.ref C.length, C2) := by
          rw [e_slR, fC.gt g (by simp)]
          dsimp only
          rw [cut_from (h := by omega), hC2]
          rfl
        obtain ⟨D, e3, f3⟩ := folder_R (k := k) (by omega) p (ws := r2) (fun w hw' => hw w (by simp [hw'])) (A := C2) (j := C.length) (by rw [hC2]; exact gt_new)
        have c3' : w0 = [102, 111, 108, 100, 101, 114] := c3
        have c4' : ¬ ([102, 111, 108, 100, 101, 114] : List Nat) = [102, 105, 108, 101] := by decide
        refine ⟨D, ?_, (fC.trans fC2).trans f3⟩
        rw [c3'] at c0
        simp [lA, n1, -e_lenR, a1, b1, -e_ixRI, e1, e2, c0, sl, -e_slR, e3]
      · rw [if_neg c3]
        have c3' : ¬ w0 = [102, 111, 108, 100, 101, 114] := c3
        refine ⟨C, ?_, fC⟩
        simp [lA, n1, -e_lenR, a1, b1, -e_ixRI, e1, e2, c0, c1', c3', entO]
theorem entW_cons (w0 : List Nat) (r : List (List Nat)) : entW (w0 :: r) = match (if w0 = goneW ∧ r.length = 1 then goneIn (r.headD []) else none) with
    | some p => some (p, .gone)
    | none => entR w0 r := rfl
theorem entry_R (hk : 5 ≤ k) {l : List Nat} (h1 : l.length ≤ 100000) (h2 : okS l = true) (A : AHp) : ∃ B, R k 154 [.str (S l)] A = .ok (entO (entW (splitL 32 l))) B ∧ Fr [] A B := by
  obtain ⟨k, rfl, hk⟩ := succ_of hk
  rw [R154]
  obtain ⟨w0, r, hs⟩ := split_cons 32 l
  have hw := split_ok 32 h1 h2
  rw [hs] at hw ⊢
  obtain ⟨A1, hA1⟩ : ∃ A1, A1 = A ++ [.lst (strV (w0 :: r)) false] := ⟨_, rfl⟩
  have F1 : Fr [] A A1 := by rw [hA1]; exact Fr.app _ _ _
  have g1 : gt A1 A.length = some (.lst (strV (w0 :: r)) false) := by rw [hA1]; exact gt_new
  have es : mSplit (.str (S l)) [.str (S [32])] A = some (.ref A.length, A1) := by
    rw [e_split _ _ _ (by omega) (by omega), hs, hA1]
    rfl
  obtain ⟨B, e, f⟩ := cond_R (k := k) (x0 := some (.str (S l))) (by omega) hw g1
  rw [entW_cons]
  rw [f154_eq]
  cases hq : (if w0 = goneW ∧ r.length = 1 then goneIn (r.headD []) else none) with
  | some p =>
    rw [hq] at e
    have hc : w0 = goneW ∧ r.length = 1 := by
      split at hq
      · assumption
      · cases hq
    obtain ⟨w1, rfl⟩ : ∃ w1, r = [w1] := by
      rcases r with _ | ⟨a, _ | ⟨b, s⟩⟩
      · cases hc.2
      · exact ⟨a, rfl⟩
      · simp at hc
    rw [if_pos hc] at hq
    obtain ⟨C, e2, f2⟩ := gone_R (k := k) (by omega) w1 (by have := (hw w1 (by simp)).1; omega) B
    have i1 : pIx (.ref A.length) (.int 1) B = some (.str (S w1), B) := wd_at (f.gt g1 (by simp)) (i := 1) rfl
    have hq' : goneIn w1 = some p := hq
    rw [hq'] at e2
    simp only [oV] at e2
    refine ⟨C, ?_, (F1.trans f).trans f2⟩
    simp [runBody_eq, es, -e_split, e, i1, -e_ixRI, e2, entO, entV, rowV]
  | none =>
    rw [hq] at e
    obtain ⟨C, e2, f2⟩ := tail_R (k := k) (x0 := some (.str (S l))) (by omega) hw (f.gt g1 (by simp))
    refine ⟨C, ?_, (F1.trans f).trans f2⟩
    simp [runBody_eq, es, -e_split, e, e2]
end
end Law
end
section
namespace Law
open PySem PySem.Spec L2 Ev
set_option autoImplicit false
/-! a row's pair -/
def dataW : List Nat := [100, 97, 116, 97]
def ofW : List Nat := [100, 97, 116, 97, 32, 111, 102, 32]
theorem start_S (l p : List Nat) : Txt.startswith (S l) (S p) = decide (l.take p.length = p) := by
  unfold Txt.startswith
  rw [PySem.StrLaws.subAt_eq]
  have h1 : (S l).length = l.length := by simp [S, Str.length]
  have h2 : (S p).length = p.length := by simp [S, Str.length]
  have h3 : (S l).cps.toList = l := by simp [S]
  have h4 : (S p).cps.toList = p := by simp [S]
  rw [h1, h2, h3, h4]
  by_cases h : l.take p.length = p
  · have := congrArg List.length h
    rw [List.length_take] at this
    have h5 : p.length ≤ l.length := by omega
    simp [h, h5]
  · simp [h]
def pairX (head : List Nat) (x : Option (List Nat)) : Option Pr := if head = dataW ∧ x ≠ none then some (none, x) else if head.take 8 = ofW then (thingIn (head.drop 8)).map fun p => (some p, x) else none
def pairF (l : List Nat) : Option Pr := match fstL l [32, 61] with
  | none => pairX l none
  | some i => if textB (l.drop (i + 2)) = true then pairX (l.take i) (some (l.drop (i + 2))) else none
def prO : Option Pr → AV
  | none => .non
  | some q => pairV q
section
variable {k : Nat}
theorem pair_R (hk : 4 ≤ k) {l : List Nat} (h1 : l.length ≤ 100000) (A : AHp) : ∃ B, R k 155 [.str (S l)] A = .ok (prO (pairF l)) B ∧ Fr [] A B := by
  obtain ⟨k, rfl, hk⟩ := succ_of hk
  rw [R155]
  have hf := find_L l [32, 61]
  have st : ∀ h : List Nat, Txt.startswith (S h) (S [100, 97, 116, 97, 32, 111, 102, 32]) = decide (h.take 8 = ofW) := fun h => start_S h _
  have hs : ∀ (h : List Nat) (hh : h.length ≤ 100000) (B : AHp), pSl (.str (S h)) (some 8) none B = some (.str (S (h.drop 8)), B) := fun h hh B => S_drop h (by omega) 8 B
  have l8 : ∀ B, fLen [.str (S [100, 97, 116, 97, 32, 111, 102, 32])] B = some (.int 8, B) := fun B => rfl
  unfold pairF
  cases hi : fstL l [32, 61] with
  | none =>
    rw [hi] at hf
    unfold pairX
    have hn : ¬ (l = dataW ∧ (none : Option (List Nat)) ≠ none) := fun z => z.2 rfl
    dsimp only
    rw [if_neg hn]
    by_cases c1 : l.take 8 = ofW
    · rw [if_pos c1]
      obtain ⟨B, e1, f1⟩ := thing_R (k := k) (by omega) (l.drop 8) (by simp; omega) A
      obtain ⟨C, e2, f2⟩ := thing_R (k := k) (by omega) (l.drop 8) (by simp; omega) B
      cases hq : thingIn (l.drop 8) with
      | none =>
        rw [hq] at e1
        simp only [oV] at e1
        refine ⟨B, ?_, f1⟩
        by_cases c2 : l = [100, 97, 116, 97]
        · exact absurd c1 (by rw [c2]; decide)
        · simp [runBody_eq, f155_0, mStr1, hf, posV, c2, st, c1, l8, -e_lenS, hs l h1, -e_slS, e1, prO]
      | some p =>
        rw [hq] at e1 e2
        simp only [oV] at e1 e2
        refine ⟨C, ?_, f1.trans f2⟩
        by_cases c2 : l = [100, 97, 116, 97]
        · exact absurd c1 (by rw [c2]; decide)
        · simp [runBody_eq, f155_0, mStr1, hf, posV, c2, st, c1, l8, -e_lenS, hs l h1, -e_slS, e1, e2, prO, pairV, oV, xV]
    · rw [if_neg c1]
      refine ⟨A, ?_, Fr.refl _ _⟩
      by_cases c2 : l = [100, 97, 116, 97]
      · subst c2
        simp [runBody_eq, f155_0, mStr1, hf, posV, st, prO, ofW]
      · simp [runBody_eq, f155_0, mStr1, hf, posV, c2, st, c1, prO]
  | some i =>
    rw [hi] at hf
    have hat := (fst_at hi).1
    simp at hat
    have ht : ∀ B, pSl (.str (S l)) none (some (i : Int)) B = some (.str (S (l.take i)), B) := fun B => S_take l (by omega) i B
    have hd : ∀ B, pSl (.str (S l)) (some ((i : Int) + 2)) none B = some (.str (S (l.drop (i + 2))), B) := fun B => by
      have := S_drop l (by omega) (i + 2) B
      rwa [Int.natCast_add] at this
    have i0 : (0 : Int) ≤ i := by omega
    obtain ⟨A1, e0, f0⟩ := istext_R (k := k) (by omega) (l.drop (i + 2)) (by simp; omega) A
    dsimp only
    by_cases ct : textB (l.drop (i + 2)) = true
    · rw [if_pos ct]
      rw [ct] at e0
      unfold pairX
      by_cases c2 : l.take i = [100, 97, 116, 97]
      · rw [if_pos ⟨c2, fun z => nomatch z⟩]
        refine ⟨A1, ?_, f0⟩
        simp [runBody_eq, f155_0, mStr1, hf, posV, i0, ht, hd, -e_slS, e0, c2, prO, pairV, oV, xV]
      · have hn : ¬ (l.take i = dataW ∧ some (l.drop (i + 2)) ≠ none) := fun z => c2 z.1
        rw [if_neg hn]
        have hl : (l.take i).length ≤ 100000 := by simp; omega
        by_cases c1 : (l.take i).take 8 = ofW
        · rw [if_pos c1]
          obtain ⟨B, e1, f1⟩ := thing_R (k := k) (by omega) ((l.take i).drop 8) (by simp; omega) A1
          obtain ⟨C, e2, f2⟩ := thing_R (k := k) (by omega) ((l.take i).drop 8) (by simp; omega) B
          have hs' := hs _ hl
          have st' := st (l.take i)
          rw [decide_eq_true c1] at st'
          clear hs st
          generalize l.take i = hd0 at *
          cases hq : thingIn (hd0.drop 8) with
          | none =>
            rw [hq] at e1
            simp only [oV] at e1
            refine ⟨B, ?_, f0.trans f1⟩
            simp [runBody_eq, f155_0, mStr1, hf, posV, i0, ht, hd, -e_slS, e0, c2, st', l8, -e_lenS, hs', e1, prO]
          | some p =>
            rw [hq] at e1 e2
            simp only [oV] at e1 e2
            refine ⟨C, ?_, (f0.trans f1).trans f2⟩
            simp [runBody_eq, f155_0, mStr1, hf, posV, i0, ht, hd, -e_slS, e0, c2, st', l8, -e_lenS, hs', e1, e2, prO, pairV, oV, xV]
        · rw [if_neg c1]
          have st' := st (l.take i)
          rw [decide_eq_false c1] at st'
          refine ⟨A1, ?_, f0⟩
          generalize l.take i = hd0 at *
          simp [runBody_eq, f155_0, mStr1, hf, posV, i0, ht, hd, -e_slS, e0, c2, st', prO]
    · rw [if_neg ct]
      rw [Bool.not_eq_true] at ct
      rw [ct] at e0
      refine ⟨A1, ?_, f0⟩
      simp [runBody_eq, f155_0, mStr1, hf, posV, i0, ht, hd, -e_slS, e0, prO]
end
end Law
end
section
namespace Law
open PySem PySem.Spec L2 Ev
set_option autoImplicit false
/-! the reader of a layer -/
theorem toD_P (p : Pth) (A : AHp) : toD 40 A (.tup (nV p)) = some (pD p) := by
  show (mapO (toD 39 A) (p.map fun w => AV.str (S w))).map PyData.tuple = _
  rw [mapO_map (f := toD 39 A) (g := fun w => AV.str (S w)) (d := fun w => PyData.str (S w)) fun _ _ => rfl]
  rfl
theorem lt_P (p q : Pth) (A : AHp) : pLtD (.tup (nV p)) (.tup (nV q)) A = some (.bl (decide (p < q)), A) := by
  unfold pLtD
  rw [toD_P, toD_P]
  show (if (PySem.W.alike (pD p) (pD q) && decide ((pD p).depth ≤ 40)) = true then some (AV.bl (PySem.W.dataLt (pD p) (pD q)), A) else none) = _
  have h : (PySem.W.alike (pD p) (pD q) && decide ((pD p).depth ≤ 40)) = true := by
    rw [alike_pD, Bool.true_and]
    exact decide_eq_true (Nat.le_trans (depth_pD p) (by decide))
  rw [if_pos h]
  have e : PySem.W.dataLt (pD p) (pD q) = decide (p < q) := toks_lt p q
  rw [e]
end Law
end
section
namespace Law
open PySem PySem.Spec L2 Ev
set_option autoImplicit false
/-! the reader of a layer: its state, an entry taken -/
def isFol : Row → Bool
  | .fol _ => true
  | _ => false
def opnB (es : List (Pth × Row)) (q : Pth) : Bool := decide (q = []) || es.any fun y => decide (y.1 = q) && isFol y.2
def nkP (o : Option Pth) : NK := o.map fun p => p.map fun w => .inr (S w)
def aftB (es : List (Pth × Row)) (p : Pth) : Bool := match es.getLast? with
  | none => true
  | some y => decide (y.1 < p)
def takeE (es : List (Pth × Row)) (qs : List Pr) (x : Pth × Row) : Bool := decide (qs = []) && decide (es.length ≠ 400) && opnB es x.1.dropLast && aftB es x.1
def takeP (qs : List Pr) (q : Pr) : Bool := decide (qs.length ≠ 200) && (decide (q.1 = none) || !(qs.any fun y => decide (y.1 = q.1)))
structure RdS (A : AHp) (rd e p f o : Nat) (es : List (Pth × Row)) (qs : List Pr) (fl : List (Pth × AV)) (ks : List NK) : Prop where
  ii : gt A rd = some (.ins 17 [(10, .ref e), (11, .ref p), (12, .ref f), (13, .ref o)])
  ee : gt A e = some (.lst (es.map entV) false)
  pp : gt A p = some (.lst (qs.map pairV) false)
  ff : gt A f = some (.dict (enc kP id fl) false)
  oo : gt A o = some (if ks = [] then .dict [] false else .dn ks)
  nd : [rd, e, p, f, o].Nodup
  hf : ∀ q, (lk fl q).isSome = opnB es q
  hk : ∀ q, nHas ks (nkP q) = qs.any fun y => decide (y.1 = q)
  le : es.length ≤ 400
  lq : qs.length ≤ 200
  lf : fl.length ≤ es.length + 1
  lk' : ks.length ≤ qs.length
section
variable {k : Nat} {A A' : AHp} {rd e p f o : Nat} {es : List (Pth × Row)} {qs : List Pr} {fl : List (Pth × AV)} {ks : List NK}
theorem RdS.fr (s : RdS A rd e p f o es qs fl ks) (hF : Fr [] A A') : RdS A' rd e p f o es qs fl ks :=
  ⟨hF.gt s.ii (by simp), hF.gt s.ee (by simp), hF.gt s.pp (by simp), hF.gt s.ff (by simp), hF.gt s.oo (by simp), s.nd, s.hf, s.hk, s.le, s.lq, s.lf, s.lk'⟩
theorem par_R (hk : 1 ≤ k) (q : Pth) (A : AHp) : R k 15 [.tup (nV q)] A = .ok (.tup (nV q.dropLast)) A := by
  obtain ⟨k, rfl, hk⟩ := succ_of hk
  rw [R15]
  simp [runBody_eq, f15_0]
theorem opn_snoc (es : List (Pth × Row)) (x : Pth × Row) (q : Pth) : opnB (es ++ [x]) q = (opnB es q || (decide (x.1 = q) && isFol x.2)) := by
  unfold opnB
  rw [List.any_append]
  simp [Bool.or_assoc]
theorem RdS.entry (hk : 2 ≤ k) (s : RdS A rd e p f o es qs fl ks) (x : Pth × Row) : ∃ A' es' fl', R k 157 [.ref rd, entV x] A = .ok (.bl (takeE es qs x)) A' ∧ RdS A' rd e p f o es' qs fl' ks ∧ Fr [e, f] A A' ∧ es' = (if takeE es qs x = true then es ++ [x] else es) := by
  obtain ⟨k, rfl, hk⟩ := succ_of hk
  rw [R157]
  have hii := s.ii
  have hee := s.ee
  have hpp := s.pp
  have le := s.le
  have lf := s.lf
  have lp : fLen [.ref p] A = some (.int qs.length, A) := by simp [hpp]
  have ll : fLen [.ref e] A = some (.int es.length, A) := by simp [hee]
  have x0 := rowV_0 x.1 x.2 A
  have x1 := rowV_1 x.1 x.2 A
  have epar := par_R (k := k) (by omega) x.1 A
  have nin : pNotIn (.tup (nV x.1.dropLast)) (.ref f) A = some (.bl (!(opnB es x.1.dropLast)), A) := by
    have := d_notin (b := .tup (nV x.1.dropLast)) s.ff (keyOf_tV x.1.dropLast) (kind_P _ _) (.inl rfl)
    rw [getK_enc kP_inj] at this
    rw [this, ← s.hf]
    simp
  have no : ∀ (h : takeE es qs x = false) (e1 : runBody (f157_0 (R k)) 2 [.ref rd, entV x] A = .ok (.bl false) A), ∃ A' es' fl', runBody (f157_0 (R k)) 2 [.ref rd, entV x] A = .ok (.bl (takeE es qs x)) A' ∧ RdS A' rd e p f o es' qs fl' ks ∧ Fr [e, f] A A' ∧ es' = (if takeE es qs x = true then es ++ [x] else es) := fun h e1 => by
    rw [h]
    exact ⟨A, es, fl, e1, s, Fr.refl _ _, rfl⟩
  by_cases c1 : qs = []
  case neg =>
    have c1' : (0 : Int) < qs.length := by have := List.length_pos_iff.mpr c1; omega
    exact no (by unfold takeE; simp [c1]) (by simp [runBody_eq, f157_0, hii, lp, -e_lenR, c1', c1])
  have q0 : ¬ (0 : Int) < qs.length := by rw [c1]; simp
  by_cases c2 : es.length = 400
  · have c2' : (es.length : Int) = 400 := by omega
    exact no (by unfold takeE; simp [c2]) (by simp [runBody_eq, f157_0, hii, lp, ll, -e_lenR, q0, c1, c2, c2'])
  have c2' : ¬ (es.length : Int) = 400 := by omega
  by_cases c3 : opnB es x.1.dropLast = true
  case neg =>
    rw [Bool.not_eq_true] at c3
    rw [c3] at nin
    exact no (by unfold takeE; simp [c3]) (by simp [runBody_eq, f157_0, hii, lp, ll, -e_lenR, q0, c1, c2', entV, x0, epar, nin])
  rw [c3] at nin
  have step : takeE es qs x = aftB es x.1 := by unfold takeE; simp [c1, c2, c3]
  have ok : takeE es qs x = true → ∃ A' es' fl', runBody (f157_0 (R k)) 2 [.ref rd, entV x] A = .ok (.bl (takeE es qs x)) A' ∧ RdS A' rd e p f o es' qs fl' ks ∧ Fr [e, f] A A' ∧ es' = (if takeE es qs x = true then es ++ [x] else es) := fun h => by
    have hne : es.length ≤ 399 := by omega
    have nd := s.nd
    simp at nd
    obtain ⟨⟨n1, n2, n3, n4⟩, ⟨n5, n6, n7⟩, ⟨n8, n9⟩, n10⟩ := nd
    have gle := gt_lt hee
    have glf := gt_lt s.ff
    have fin : ∀ (A1 : AHp) (fl' : List (Pth × AV)), gt A1 e = some (.lst (es.map entV) false) → gt A1 f = some (.dict (enc kP id fl') false) → gt A1 rd = gt A rd → gt A1 p = gt A p → gt A1 o = gt A o → Fr [e, f] A A1 → fl'.length ≤ fl.length + 1 → (∀ q, (lk fl' q).isSome = (opnB es q || (decide (x.1 = q) && isFol x.2))) →
        mAppend (.ref e) [entV x] A1 = some (.non, A1.set e (.lst ((es ++ [x]).map entV) false)) ∧ RdS (A1.set e (.lst ((es ++ [x]).map entV) false)) rd e p f o (es ++ [x]) qs fl' ks ∧ Fr [e, f] A (A1.set e (.lst ((es ++ [x]).map entV) false)) := fun A1 fl' g1 g2 g3 g4 g5 fr hl hfl => by
      have hlt := gt_lt g1
      refine ⟨?_, ⟨?_, gt_set hlt, ?_, ?_, ?_, s.nd, fun q => by rw [hfl, opn_snoc], s.hk, by simp; omega, s.lq, by simp; omega, s.lk'⟩, fr.trans (Fr.set (by simp))⟩
      · rw [e_append, g1]
        dsimp only
        rw [appL_ok (by simp; omega), List.map_append]
        rfl
      · rw [gt_set_ne (Ne.symm n1), g3]; exact hii
      · rw [gt_set_ne n5, g4]; exact hpp
      · rw [gt_set_ne n6, g2]
      · rw [gt_set_ne n7, g5]; exact s.oo
    rw [if_pos h]
    -- the second question is answered by no
    have c5 : (es = [] ∧ fLen [.ref e] A = some (.int 0, A)) ∨ (¬ es = [] ∧ (0 : Int) < es.length ∧ ∃ y : Pth × Row, pIx (.ref e) (.int (-1)) A = some (rowV y.1 y.2, A) ∧ pIx (rowV y.1 y.2) (.int 0) A = some (.tup (nV y.1), A) ∧ pLtD (.tup (nV y.1)) (.tup (nV x.1)) A = some (.bl true, A)) := by
      by_cases he : es = []
      · exact .inl ⟨he, by rw [ll, he]; rfl⟩
      · refine .inr ⟨he, by have := List.length_pos_iff.mpr he; omega, ?_⟩
        cases hl : es.getLast? with
        | none => exact absurd (List.getLast?_eq_none_iff.mp hl) he
        | some y =>
          refine ⟨y, ?_, rowV_0 _ _ _, ?_⟩
          · rw [e_ixRI, hee]
            dsimp only
            rw [atI_map, Ev.atI_last, hl]
            rfl
          · rw [lt_P, decide_eq_true]
            rw [step] at h
            unfold aftB at h
            rw [hl] at h
            exact of_decide_eq_true h
    rw [h]
    by_cases c6 : rowW x.2 = [102, 111, 108, 100, 101, 114]
    · obtain ⟨og, hx2⟩ : ∃ og, x.2 = .fol og := by
        cases hr : x.2 with
        | fol og => exact ⟨og, rfl⟩
        | fil n => rw [hr] at c6; exact absurd c6 (by simp [rowW])
        | gone => rw [hr] at c6; exact absurd c6 (by simp [rowW])
      rw [c6] at x1
      obtain ⟨A1, hA1⟩ : ∃ A1, A1 = A.set f (.dict (enc kP id (pt fl x.1 (.bl true))) false) := ⟨_, rfl⟩
      have put : pPut (.ref f) (.tup (nV x.1)) (.bl true) A = some A1 := by
        have e1 := d_put (b := .tup (nV x.1)) s.ff (keyOf_tV x.1) (kind_P _ _) (by rw [enc_len]; omega) (.bl true)
        have e2 : putA (enc kP id fl) (kP x.1) (.bl true) = enc kP id (pt fl x.1 (.bl true)) := putA_enc (f := id) kP_inj _ _ _
        rw [e2] at e1
        rw [e1, hA1]
      obtain ⟨q1, q2, q3⟩ := fin A1 (pt fl x.1 (.bl true)) (by rw [hA1, gt_set_ne (Ne.symm n6)]; exact hee) (by rw [hA1, gt_set glf]) (by rw [hA1, gt_set_ne (Ne.symm n3)]) (by rw [hA1, gt_set_ne (Ne.symm n8)]) (by rw [hA1, gt_set_ne n10]) (by rw [hA1]; exact Fr.set (by simp)) (pt_len _ _ _) (fun q => by
        rw [lk_pt, hx2]
        by_cases hq : x.1 = q
        · simp [hq, isFol]
        · simp [hq, Ne.symm hq, isFol, s.hf])
      have g1 : gt A1 rd = some (.ins 17 [(10, .ref e), (11, .ref p), (12, .ref f), (13, .ref o)]) := by rw [hA1, gt_set_ne (Ne.symm n3)]; exact hii
      have g2 : gt A1 e = some (.lst (es.map entV) false) := by rw [hA1, gt_set_ne (Ne.symm n6)]; exact hee
      refine ⟨_, _, _, ?_, q2, q3, rfl⟩
      unfold entV at q1 ⊢
      rcases c5 with ⟨he, l0⟩ | ⟨he, e0, y, y1, y2, y3⟩
      · simp [runBody_eq, f157_0, hii, lp, l0, -e_lenR, q0, c1, x0, epar, nin, x1, put, g1, g2, q1, -e_append]
      · simp [runBody_eq, f157_0, hii, lp, ll, -e_lenR, q0, c1, c2', x0, epar, nin, e0, he, y1, -e_ixRI, y2, y3, x1, put, g1, g2, q1, -e_append]
    · obtain ⟨q1, q2, q3⟩ := fin A fl hee s.ff rfl rfl rfl (Fr.refl _ _) (by omega) (fun q => by
        rw [s.hf]
        cases hr : x.2 with
        | fol og => rw [hr] at c6; exact absurd rfl c6
        | fil n => simp [isFol]
        | gone => simp [isFol])
      refine ⟨_, _, _, ?_, q2, q3, rfl⟩
      unfold entV at q1 ⊢
      rcases c5 with ⟨he, l0⟩ | ⟨he, e0, y, y1, y2, y3⟩
      · simp [runBody_eq, f157_0, hii, lp, l0, -e_lenR, q0, c1, x0, epar, nin, x1, c6, hee, q1, -e_append]
      · simp [runBody_eq, f157_0, hii, lp, ll, -e_lenR, q0, c1, c2', x0, epar, nin, e0, he, y1, -e_ixRI, y2, y3, x1, c6, hee, q1, -e_append]
  cases hl : es.getLast? with
  | none =>
    exact ok (by rw [step]; unfold aftB; rw [hl])
  | some y =>
    by_cases c4 : y.1 < x.1
    · exact ok (by rw [step]; unfold aftB; rw [hl]; exact decide_eq_true c4)
    · have hne : ¬ es = [] := fun z => by rw [z] at hl; cases hl
      have e0 : (0 : Int) < es.length := by
        have := List.length_pos_iff.mpr hne
        omega
      have last : pIx (.ref e) (.int (-1)) A = some (entV y, A) := by
        rw [e_ixRI, hee]
        dsimp only
        rw [atI_map, Ev.atI_last, hl]
        rfl
      have y0 := rowV_0 y.1 y.2 A
      have lt := lt_P y.1 x.1 A
      rw [decide_eq_false c4] at lt
      exact no (by rw [step]; unfold aftB; rw [hl]; exact decide_eq_false c4) (by
        unfold entV at last ⊢
        simp [runBody_eq, f157_0, hii, lp, ll, -e_lenR, q0, c1, c2', x0, epar, nin, e0, hne, last, -e_ixRI, y0, lt])
end
end Law
end
section
namespace Law
open PySem PySem.Spec L2 Ev
set_option autoImplicit false
/-! the reader of a layer: a pair taken, a row taken -/
theorem nkP_inj {a b : Option Pth} (h : nkP a = nkP b) : a = b := by
  cases a with
  | none => cases b with
    | none => rfl
    | some q => cases h
  | some p => cases b with
    | none => cases h
    | some q =>
      have : kP p = kP q := congrArg AK.t (Option.some.inj h)
      rw [kP_inj _ _ this]
theorem nk_oV (o : Option Pth) : nkOf (oV o) = some (nkP o) := by
  cases o with
  | none => rfl
  | some p =>
    have h : keyOf (.tup (nV p)) = some (kP p) := keyOf_tV p
    show (match keyOf (.tup (nV p)) with
      | some (.t ks) => some (some ks)
      | _ => none) = _
    rw [h]
    rfl
theorem nHas_put (ks : List NK) (a b : NK) : nHas (putNK ks a) b = (nHas ks b || decide (a = b)) := by
  unfold putNK
  by_cases h : nHas ks a = true
  · rw [if_pos h]
    by_cases e : a = b
    · subst e; rw [h]; simp
    · rw [decide_eq_false e]; simp
  · rw [if_neg h]
    unfold nHas
    rw [List.any_append]
    simp
theorem putNK_ne (ks : List NK) (a : NK) : putNK ks a ≠ [] := by
  intro h
  have := nHas_put ks a a
  rw [h] at this
  simp [nHas] at this
section
variable {k : Nat} {A A' : AHp} {rd e p f o : Nat} {es : List (Pth × Row)} {qs : List Pr} {fl : List (Pth × AV)} {ks : List NK}
theorem RdS.inO (s : RdS A rd e p f o es qs fl ks) (q : Pth) : pInN (.tup (nV q)) (.ref o) A = some (.bl (qs.any fun y => decide (y.1 = some q)), A) := by
  have hk := s.hk (some q)
  have ho := s.oo
  unfold pInN
  rw [e_inN, show nkOf (.tup (nV q)) = some (nkP (some q)) from nk_oV (some q), ho]
  by_cases h : ks = []
  · rw [if_pos h] at ho ⊢
    dsimp only
    have := d_in (b := .tup (nV q)) ho (keyOf_tV q) (kind_P (f := id) [] q) (.inl rfl)
    rw [this, ← hk, h]
    rfl
  · rw [if_neg h]
    dsimp only
    rw [← hk]
theorem RdS.pair (hk : 2 ≤ k) (s : RdS A rd e p f o es qs fl ks) (q : Pr) : ∃ A' qs' ks', R k 158 [.ref rd, pairV q] A = .ok (.bl (takeP qs q)) A' ∧ RdS A' rd e p f o es qs' fl ks' ∧ Fr [p, o] A A' ∧ qs' = (if takeP qs q = true then qs ++ [q] else qs) := by
  obtain ⟨k, rfl, hk⟩ := succ_of hk
  rw [R158]
  have hii := s.ii
  have hpp := s.pp
  have lq := s.lq
  have lk := s.lk'
  have lp : fLen [.ref p] A = some (.int qs.length, A) := by simp [hpp]
  have x0 : ∀ B, pIx (pairV q) (.int 0) B = some (oV q.1, B) := fun B => by simp [pairV]
  have no : ∀ (h : takeP qs q = false) (e1 : runBody (f158_0 (R k)) 2 [.ref rd, pairV q] A = .ok (.bl false) A), ∃ A' qs' ks', runBody (f158_0 (R k)) 2 [.ref rd, pairV q] A = .ok (.bl (takeP qs q)) A' ∧ RdS A' rd e p f o es qs' fl ks' ∧ Fr [p, o] A A' ∧ qs' = (if takeP qs q = true then qs ++ [q] else qs) := fun h e1 => by
    rw [h]
    exact ⟨A, qs, ks, e1, s, Fr.refl _ _, rfl⟩
  by_cases c1 : qs.length = 200
  · have c1' : (qs.length : Int) = 200 := by omega
    exact no (by unfold takeP; simp [c1]) (by simp [runBody_eq, f158_0, hii, lp, -e_lenR, c1'])
  have c1' : ¬ (qs.length : Int) = 200 := by omega
  by_cases c2 : q.1 ≠ none ∧ (qs.any fun y => decide (y.1 = q.1)) = true
  · obtain ⟨h1, h2⟩ := c2
    cases hq : q.1 with
    | none => exact absurd hq h1
    | some z =>
      have inO := s.inO z
      rw [hq] at h2
      rw [h2] at inO
      have x0' := x0 A
      rw [hq] at x0'
      simp only [oV] at x0'
      exact no (by unfold takeP; rw [hq, h2]; simp) (by simp [runBody_eq, f158_0, hii, lp, -e_lenR, c1', x0', inO])
  have ht : takeP qs q = true := by
    unfold takeP
    rw [decide_eq_true c1, Bool.true_and]
    by_cases h : q.1 = none
    · rw [decide_eq_true h]; rfl
    · have : (qs.any fun y => decide (y.1 = q.1)) = false := by
        cases hh : (qs.any fun y => decide (y.1 = q.1)) with
        | false => rfl
        | true => exact absurd ⟨h, hh⟩ c2
      rw [this]
      simp
  rw [ht, if_pos rfl]
  have nd := s.nd
  simp at nd
  obtain ⟨⟨n1, n2, n3, n4⟩, ⟨n5, n6, n7⟩, ⟨n8, n9⟩, n10⟩ := nd
  obtain ⟨A1, hA1⟩ : ∃ A1, A1 = A.set o (.dn (putNK ks (nkP q.1))) := ⟨_, rfl⟩
  have glo := gt_lt s.oo
  have put : pPutN (.ref o) (oV q.1) (.bl true) A = some A1 := by
    rw [e_putN, nk_oV, s.oo, hA1]
    by_cases h : ks = []
    · rw [if_pos h, h]
      rfl
    · rw [if_neg h]
      dsimp only
      rw [if_pos (by omega)]
  have g1 : gt A1 rd = some (.ins 17 [(10, .ref e), (11, .ref p), (12, .ref f), (13, .ref o)]) := by rw [hA1, gt_set_ne (Ne.symm n4)]; exact hii
  have g2 : gt A1 p = some (.lst (qs.map pairV) false) := by rw [hA1, gt_set_ne (Ne.symm n9)]; exact hpp
  have glp := gt_lt g2
  have app : mAppend (.ref p) [pairV q] A1 = some (.non, A1.set p (.lst ((qs ++ [q]).map pairV) false)) := by
    rw [e_append, g2]
    dsimp only
    rw [appL_ok (by simp; omega), List.map_append]
    rfl
  refine ⟨A1.set p (.lst ((qs ++ [q]).map pairV) false), qs ++ [q], putNK ks (nkP q.1), ?_, ⟨?_, ?_, gt_set glp, ?_, ?_, s.nd, s.hf, fun z => ?_, s.le, by simp; omega, s.lf, ?_⟩, ?_, rfl⟩
  · cases hq : q.1 with
    | none =>
      have x0' := x0 A
      rw [hq] at x0' put
      simp only [oV] at x0' put
      simp [runBody_eq, f158_0, hii, lp, -e_lenR, c1', x0', put, -e_putN, g1, g2, app, -e_append]
    | some z =>
      have inO := s.inO z
      have h2 : (qs.any fun y => decide (y.1 = some z)) = false := by
        cases hh : (qs.any fun y => decide (y.1 = some z)) with
        | false => rfl
        | true => exact absurd ⟨by rw [hq]; simp, by rw [hq]; exact hh⟩ c2
      rw [h2] at inO
      have x0' := x0 A
      rw [hq] at x0' put
      simp only [oV] at x0' put
      simp [runBody_eq, f158_0, hii, lp, -e_lenR, c1', x0', inO, put, -e_putN, g1, g2, app, -e_append]
  · rw [gt_set_ne (Ne.symm n2)]; exact g1
  · rw [gt_set_ne (Ne.symm n5), hA1, gt_set_ne (Ne.symm n7)]; exact s.ee
  · rw [gt_set_ne n8, hA1, gt_set_ne (Ne.symm n10)]; exact s.ff
  · rw [gt_set_ne n9, hA1, gt_set glo, if_neg (putNK_ne _ _)]
  · rw [nHas_put, s.hk, List.any_append]
    have e : decide (nkP q.1 = nkP z) = decide (q.1 = z) := by
      by_cases h : q.1 = z
      · rw [h]; simp
      · rw [decide_eq_false h, decide_eq_false fun w => h (nkP_inj w)]
    rw [e]
    simp
  · unfold putNK
    split
    · simp; omega
    · simp; omega
  · rw [hA1]; exact (Fr.set (by simp)).trans (Fr.set (by simp))
def rowF (es : List (Pth × Row)) (qs : List Pr) (l : List Nat) : Option (List (Pth × Row) × List Pr) := match entW (splitL 32 l) with
  | some x => if takeE es qs x = true then some (es ++ [x], qs) else none
  | none => match pairF l with
    | none => none
    | some q => if takeP qs q = true then some (es, qs ++ [q]) else none
theorem isn_ent (x : Pth × Row) : Ev.isNon (entV x) = false := by
  obtain ⟨p, r⟩ := x
  cases r <;> rfl
theorem isn_pr (q : Pr) : Ev.isNon (pairV q) = false := rfl
theorem RdS.row (hk : 6 ≤ k) (s : RdS A rd e p f o es qs fl ks) {l : List Nat} (h1 : l.length ≤ 100000) (h2 : okS l = true) : ∃ A' es' qs' fl' ks', R k 159 [.ref rd, .str (S l)] A = .ok (.bl (rowF es qs l).isSome) A' ∧ RdS A' rd e p f o es' qs' fl' ks' ∧ Fr [e, f, p, o] A A' ∧ ∀ r, rowF es qs l = some r → (es', qs') = r := by
  obtain ⟨k, rfl, hk⟩ := succ_of hk
  rw [R159]
  obtain ⟨B, e1, f1⟩ := entry_R (k := k) (by omega) h1 h2 A
  have sB := s.fr f1
  have hB := sB.ii
  unfold rowF
  cases hx : entW (splitL 32 l) with
  | some x =>
    rw [hx] at e1
    simp only [entO] at e1
    obtain ⟨C, es', fl', e2, sC, fC, hes⟩ := sB.entry (k := k) (by omega) x
    have isn := isn_ent x
    refine ⟨C, es', qs, fl', ks, ?_, sC, (fr_wide f1).trans (fC.mono fun x hx => by simp at hx ⊢; omega), fun r hr => ?_⟩
    · dsimp only
      cases ht : takeE es qs x with
      | true => rw [ht] at e2; simp [runBody_eq, f159_0, e1, isn, hB, e2]
      | false => rw [ht] at e2; simp [runBody_eq, f159_0, e1, isn, hB, e2]
    · dsimp only at hr
      split at hr
      · rename_i ht
        cases hr
        rw [hes, if_pos ht]
      · cases hr
  | none =>
    rw [hx] at e1
    simp only [entO] at e1
    obtain ⟨C, e2, f2⟩ := pair_R (k := k) (by omega) h1 B
    have sC := sB.fr f2
    have hC := sC.ii
    dsimp only
    cases hq : pairF l with
    | none =>
      rw [hq] at e2
      simp only [prO] at e2
      exact ⟨C, es, qs, fl, ks, by simp [runBody_eq, f159_0, e1, e2], sC, (fr_wide f1).trans (fr_wide f2), fun r hr => nomatch hr⟩
    | some q =>
      rw [hq] at e2
      simp only [prO] at e2
      obtain ⟨D, qs', ks', e3, sD, fD, hqs⟩ := sC.pair (k := k) (by omega) q
      have isn := isn_pr q
      refine ⟨D, es, qs', fl, ks', ?_, sD, ((fr_wide f1).trans (fr_wide f2)).trans (fD.mono fun x hx => by simp at hx ⊢; omega), fun r hr => ?_⟩
      · dsimp only
        cases ht : takeP qs q with
        | true => rw [ht] at e3; simp [runBody_eq, f159_0, e1, e2, isn, hC, e3]
        | false => rw [ht] at e3; simp [runBody_eq, f159_0, e1, e2, isn, hC, e3]
      · dsimp only at hr
        split at hr
        · rename_i ht
          cases hr
          rw [hqs, if_pos ht]
        · cases hr
end
end Law
end
section
namespace Law
open PySem PySem.Spec L2 Ev
set_option autoImplicit false
/-! the reader of a layer: whether it is whole -/
theorem e_iEnu (f : Den (List AV)) (σ : ASt) (A : AHp) : iEnu f σ A = (f σ A).bind fun vs A1 => enumOf vs A1 := (rfl)
theorem e_enumR (n : Nat) (A : AHp) : enumOf [.ref n] A = (match gt A n with
  | some (.lst xs _) => .ok (srcE (srcL n), xs.length + 1) A
  | _ => .bad) := (rfl)
theorem filt_true {α : Type} (l : List α) : l.filter (fun _ => true) = l := List.filter_eq_self.mpr fun _ _ => rfl
def isFil : Row → Bool
  | .fil _ => true
  | _ => false
def numR : Row → Nat
  | .fil n => n
  | _ => 0
def numsF (es : List (Pth × Row)) : List Nat := (es.filter fun x => isFil x.2).map fun x => numR x.2
def wholeB (es : List (Pth × Row)) (qs : List Pr) : Bool := !((numsF es).any fun n => decide (qs.length ≤ n)) && qs.zipIdx.all fun z => z.1.1.isSome || decide (z.2 ∈ numsF es)
theorem in_nums {A : AHp} {n : Nat} {l : List Nat} (h : gt A n = some (.lst (l.map fun x : Nat => AV.int (x : Int)) false)) (i : Nat) : pIn (.int i) (.ref n) A = some (.bl (decide (i ∈ l)), A) := by
  have h1 : (l.map fun x : Nat => AV.int (x : Int)).all inB.flatA = true := by
    rw [List.all_map]
    exact List.all_eq_true.mpr fun x _ => rfl
  have e : inB (.int i) (.ref n) A = some (decide (i ∈ l)) := by
    unfold inB
    dsimp only
    rw [show A[n]? = some (.lst (l.map fun x : Nat => AV.int (x : Int)) false) from h]
    dsimp only
    rw [h1]
    show (if true = true then some _ else _) = _
    rw [if_pos rfl, List.any_map]
    congr 1
    rw [Bool.eq_iff_iff, List.any_eq_true, decide_eq_true_iff]
    constructor
    · rintro ⟨x, hx, h2⟩
      have h3 : ((x : Int) == (i : Int)) = true := h2
      have h4 : (x : Int) = i := by simpa using h3
      have : x = i := by omega
      exact this ▸ hx
    · intro hi
      refine ⟨i, hi, ?_⟩
      show ((i : Int) == (i : Int)) = true
      simp
  unfold pIn
  rw [e]
  rfl
section
variable {k : Nat} {A A' : AHp} {rd e p f o : Nat} {es : List (Pth × Row)} {qs : List Pr} {fl : List (Pth × AV)} {ks : List NK}
theorem RdS.whole (hk : 1 ≤ k) (s : RdS A rd e p f o es qs fl ks) : ∃ A', R k 160 [.ref rd] A = .ok (.bl (wholeB es qs)) A' ∧ Fr [] A A' := by
  obtain ⟨k, rfl, hk⟩ := succ_of hk
  rw [R160]
  have hii := s.ii
  have hee := s.ee
  have le := s.le
  have lq := s.lq
  obtain ⟨A1, q1, q2, q3⟩ := comp_fr (src := srcL e) (g := gNm 2) (t := dTB (dBin pEq (dBin pIx (dVar 2) (dC (.int 1))) (dC (.str (S [102, 105, 108, 101]))))) (e := dBin pIx (dVar 2) (dC (.int 2))) (τ := [some (.ref rd), none, none, none, none]) (l := es) entV (fun x => .int (numR x.2)) (fun x => isFil x.2) (A := A) (by omega) (fun B i hF => src_L (hF.gt hee (by simp)) i) (fun B x hx hF => by
    obtain ⟨pa, r⟩ := x
    refine ⟨[some (.ref rd), none, some (entV (pa, r)), none, none], B, rfl, ?_, Fr.refl _ _, fun hp => ?_⟩
    · cases r <;> simp [entV, rowV, isFil]
    · cases r with
      | fil n => exact ⟨B, by simp [entV, rowV, numR], Fr.refl _ _⟩
      | fol _ => cases hp
      | gone => cases hp)
  have cc0 : f160_0_c0 (R k) [some (.ref rd), none, none, none, none] A = .ok (.ref A.length) A1 := by
    unfold f160_0_c0 dLc
    simp [hii, hee, wipeA, q1]
  have gn : gt A1 A.length = some (.lst ((numsF es).map fun x : Nat => AV.int (x : Int)) false) := by
    rw [q2]
    unfold numsF
    rw [List.map_map]
    rfl
  have ln : (numsF es).length ≤ es.length := by unfold numsF; rw [List.length_map]; exact List.length_filter_le _ _
  have hp1 := q3.gt s.pp (by simp)
  have hi1 := q3.gt hii (by simp)
  obtain ⟨A2, u1, u2, u3⟩ := comp_fr (src := srcL A.length) (g := gNm 3) (t := dYes) (e := dBin pGe (dVar 3) (dCB fLen (dCons (dFld 11 (dVar 0)) dNil))) (τ := [some (.ref rd), some (.ref A.length), none, none, none]) (l := numsF es) (fun x => .int x) (fun n => .bl (decide (qs.length ≤ n))) (fun _ => true) (A := A1) (by omega) (fun B i hF => src_L (hF.gt gn (by simp)) i) (fun B x hx hF => by
    have hpB := hF.gt hp1 (by simp)
    have hiB := hF.gt hi1 (by simp)
    refine ⟨[some (.ref rd), some (.ref A.length), none, some (.int x), none], B, rfl, rfl, Fr.refl _ _, fun _ => ⟨B, ?_, Fr.refl _ _⟩⟩
    simp [hiB, hpB])
  rw [filt_true] at u2
  have cc1 : f160_0_c1 (R k) [some (.ref rd), some (.ref A.length), none, none, none] A1 = .ok (.ref A1.length) A2 := by
    unfold f160_0_c1 dLc
    simp [gn, wipeA, u1]
  have F2 := q3.trans u3
  have gn2 := u3.gt gn (by simp)
  have hp2 := u3.gt hp1 (by simp)
  have hi2 := u3.gt hi1 (by simp)
  unfold wholeB
  by_cases c1 : ((numsF es).any fun n => decide (qs.length ≤ n)) = true
  · rw [c1]
    refine ⟨A2, ?_, F2⟩
    have hex : ∃ x, x ∈ numsF es ∧ qs.length ≤ x := by simpa using c1
    simp [runBody_eq, f160_0, cc0, cc1, u2, hex]
  have hex : ¬ ∃ x, x ∈ numsF es ∧ qs.length ≤ x := by simpa using c1
  rw [Bool.not_eq_true] at c1
  rw [c1]
  obtain ⟨A3, w1, w2, w3⟩ := comp_fr (src := srcE (srcL p)) (g := gTp 2 (gsCons (gNm 3) (gsCons (gNm 4) gsNil))) (t := dYes) (e := dOrV (dBin pIsNot (dBin pIx (dVar 4) (dC (.int 0))) (dC .non)) (dBin pIn (dVar 3) (dVar 1))) (τ := [some (.ref rd), some (.ref A.length), none, none, none]) (l := qs.zipIdx) (fun z => .tup [.int z.2, pairV z.1]) (fun z => .bl (z.1.1.isSome || decide (z.2 ∈ numsF es))) (fun _ => true) (A := A2) (by simp; omega) (fun B i hF => by
    have := src_L (hF.gt hp2 (by simp)) i
    unfold srcE
    rw [this, List.getElem?_map, List.getElem?_map, List.getElem?_zipIdx]
    cases qs[i]? <;> simp) (fun B z hz hF => by
    obtain ⟨⟨oz, xz⟩, i⟩ := z
    have hnB := hF.gt gn2 (by simp)
    have hin := in_nums hnB i
    refine ⟨[some (.ref rd), some (.ref A.length), none, some (.int i), some (pairV (oz, xz))], B, by simp, rfl, Fr.refl _ _, fun _ => ⟨B, ?_, Fr.refl _ _⟩⟩
    cases oz with
    | none => simp [pairV, oV, hin]
    | some q => simp [pairV, oV])
  rw [filt_true] at w2
  have cc2 : f160_0_c2 (R k) [some (.ref rd), some (.ref A.length), none, none, none] A2 = .ok (.ref A2.length) A3 := by
    unfold f160_0_c2 dLc
    rw [List.length_zipIdx] at w1
    simp [e_iEnu, e_enumR, hi2, hp2, wipeA, w1]
  refine ⟨A3, ?_, F2.trans w3⟩
  simp [runBody_eq, f160_0, cc0, cc1, u2, hex, cc2, w2]
end
end Law
end
section
namespace Law
open PySem PySem.Spec L2 Ev
set_option autoImplicit false
/-! a layer read -/
abbrev LS := List (Pth × Row) × List Pr
def readS : List (List Nat) → LS → Nat → Except Nat LS
  | [], s, _ => .ok s
  | l :: r, s, i => match rowF s.1 s.2 l with
    | some s' => readS r s' (i + 1)
    | none => .error i
def layRead (rows : List (List Nat)) : Except Nat LS := match readS rows ([], []) 0 with
  | .error i => .error i
  | .ok s => if wholeB s.1 s.2 = true then .ok s else .error rows.length
def rowsOf (t : List Nat) : List (List Nat) := if t = [] then [] else splitL 10 t
section
variable {k : Nat} {A A' : AHp}
theorem fr5 {A B : AHp} {a b c d e : Nat} (h : Fr [a, b, c, d, e] A B) (h1 : A.length ≤ a) (h2 : A.length ≤ b) (h3 : A.length ≤ c) (h4 : A.length ≤ d) (h5 : A.length ≤ e) : Fr [] A B := ((((h.new h1).new h2).new h3).new h4).new h5
theorem make_R (hk : 2 ≤ k) (A : AHp) : ∃ A', R k 1017 [] A = .ok (.ref A.length) A' ∧ RdS A' A.length (A.length + 1) (A.length + 2) (A.length + 3) (A.length + 4) [] [] [([], .bl true)] [] ∧ Fr [] A A' := by
  obtain ⟨k, rfl⟩ : ∃ m, k = m + 1 + 1 := ⟨k - 2, by omega⟩
  refine ⟨A ++ [.ins 17 [(10, .ref (A.length + 1)), (11, .ref (A.length + 2)), (12, .ref (A.length + 3)), (13, .ref (A.length + 4))], .lst [] false, .lst [] false, .dict [(kP [], .bl true)] false, .dict [] false], ?_, ?_, Fr.app _ _ _⟩
  · rw [R1017, R156]
    have k0 : Ev.keyOf (.tup []) = some (AK.t []) := rfl
    simp [runBody_eq, f156_0, k0, kP]
  · refine ⟨by simp, by simp, by simp, by simp, by simp, by simp, fun q => ?_, fun q => rfl, by simp, by simp, by simp, by simp⟩
    unfold opnB
    rw [lk_cons]
    by_cases h : q = []
    · subst h; rfl
    · simp [h, Ne.symm h]
/-- what a reading comes to -/
def readQ (k : Nat) (A : AHp) (t : List Nat) : Except Nat LS → Prop
  | .ok s => ∃ A', R k 161 [.str (S t)] A = .ok (layV s.1 s.2) A' ∧ Fr [] A A'
  | .error i => ∃ A', R k 161 [.str (S t)] A = .err 14 (some (i : Int)) A' ∧ Fr [] A A'
theorem readS_get : ∀ {rows : List (List Nat)} {s : LS} {i : Nat} {l : List Nat} {j : Nat}, rows[j]? = some l → readS (rows.drop j) s i = match rowF s.1 s.2 l with
    | some s' => readS (rows.drop (j + 1)) s' (i + 1)
    | none => .error i
  | rows, s, i, l, j, h => by
    have : rows.drop j = l :: rows.drop (j + 1) := by
      have hlt := (List.getElem?_eq_some_iff.mp h).1
      rw [List.drop_eq_getElem_cons hlt]
      congr 1
      exact (List.getElem?_eq_some_iff.mp h).2
    rw [this, readS]
theorem read_R (hk : 8 ≤ k) (t : List Nat) (ht : t.length ≤ 10000000) (hw : WOk (rowsOf t)) (A : AHp) : readQ k A t (layRead (rowsOf t)) := by
  obtain ⟨k, rfl⟩ : ∃ m, k = m + 2 + 1 := ⟨k - 3, by omega⟩
  obtain ⟨A1, e1, s1, f1⟩ := make_R (k := k + 2) (by omega) A
  obtain ⟨rd, hrd⟩ : ∃ rd, rd = A.length := ⟨_, rfl⟩
  obtain ⟨e, he⟩ : ∃ e, e = A.length + 1 := ⟨_, rfl⟩
  obtain ⟨p, hp⟩ : ∃ p, p = A.length + 2 := ⟨_, rfl⟩
  obtain ⟨f, hf⟩ : ∃ f, f = A.length + 3 := ⟨_, rfl⟩
  obtain ⟨o, ho⟩ : ∃ o, o = A.length + 4 := ⟨_, rfl⟩
  rw [← he, ← hp, ← hf, ← ho, ← hrd] at s1
  have lo : o < A1.length := gt_lt s1.oo
  -- the rows
  obtain ⟨j, A2, hA2, g2, f2, hj, hjl⟩ : ∃ (j : Nat) (A2 : AHp), ((t = [] ∧ j = A1.length ∧ A2 = A1 ++ [.lst [] false]) ∨ (t ≠ [] ∧ j = A1.length + 1 ∧ mSplit (.str (S t)) [.str (S [10])] (A1 ++ [.lst [] false]) = some (.ref j, A2))) ∧ gt A2 j = some (.lst (strV (rowsOf t)) false) ∧ Fr [] A1 A2 ∧ A1.length ≤ j ∧ (rowsOf t).length < 16777216 := by
    by_cases h0 : t = []
    · refine ⟨A1.length, _, .inl ⟨h0, rfl, rfl⟩, ?_, Fr.app _ _ _, Nat.le_refl _, by unfold rowsOf; rw [if_pos h0]; simp⟩
      unfold rowsOf
      rw [if_pos h0]
      exact gt_new
    · have hc := (spl_count 10 t []).1
      refine ⟨A1.length + 1, A1 ++ [.lst [] false] ++ [.lst (strV (splitL 10 t)) false], .inr ⟨h0, rfl, ?_⟩, ?_, (Fr.app _ _ _).trans (Fr.app _ _ _), by omega, by unfold rowsOf; rw [if_neg h0]; unfold splitL; omega⟩
      · rw [e_split _ _ _ (by omega) (by omega)]
        simp [strV]
      · unfold rowsOf
        rw [if_neg h0]
        have : A1.length + 1 = (A1 ++ [AO.lst [] false]).length := by simp
        rw [this]
        exact gt_new
  have s2 := s1.fr f2
  have ne : j ∉ [e, f, p, o] := by simp; omega
  have wid : ∀ {X Y : AHp}, Fr [e, f, p, o] X Y → Fr [rd, e, p, f, o] X Y := fun h => h.mono fun x hx => by simp at hx ⊢; omega
  have lr := loop_run (src := srcE (srcL j)) (g := gTp 2 (gsCons (gNm 3) (gsCons (gNm 4) gsNil))) (body := f161_0_l0 (R (k + 2))) ((rowsOf t).zipIdx.map fun z => .tup [.int z.2, .str (S z.1)])
    (fun i τ B => ∃ s fl ks y3 y4, τ = [some (.str (S t)), some (.ref rd), some (.ref j), y3, y4] ∧ RdS B rd e p f o s.1 s.2 fl ks ∧ Fr [e, f, p, o] A2 B ∧ readS (rowsOf t) ([], []) 0 = readS ((rowsOf t).drop i) s i)
    (fun q => match readS (rowsOf t) ([], []) 0 with
      | .ok s => ∃ B fl ks y3 y4, q = .nx [some (.str (S t)), some (.ref rd), some (.ref j), y3, y4] B ∧ RdS B rd e p f o s.1 s.2 fl ks ∧ Fr [e, f, p, o] A2 B
      | .error i => ∃ B σ, q = .er σ 14 (some (i : Int)) B ∧ Fr [e, f, p, o] A2 B)
    (fun i τ B hi ⟨s, fl, ks, y3, y4, hτ, hS, hF, hR⟩ => by
      subst hτ
      have gB := hF.gt g2 ne
      refine ⟨?_, fun x hx => ?_⟩
      · have := src_L gB i
        unfold srcE
        rw [this, List.getElem?_map, List.getElem?_zipIdx]
        unfold strV
        rw [List.getElem?_map]
        cases (rowsOf t)[i]? <;> simp
      · rw [List.getElem?_map, List.getElem?_zipIdx] at hx
        obtain ⟨z, hz, rfl⟩ := Option.map_eq_some_iff.mp hx
        obtain ⟨l, hl, rfl⟩ := Option.map_eq_some_iff.mp hz
        have hwl := hw l (List.mem_of_getElem? hl)
        obtain ⟨C, es', qs', fl', ks', e3, sC, fC, hC⟩ := hS.row (k := k + 2) (by omega) hwl.1 hwl.2
        refine ⟨[some (.str (S t)), some (.ref rd), some (.ref j), some (.int (0 + i : Nat)), some (.str (S l))], by simp, ?_⟩
        have hB := hS.ii
        rw [readS_get hl] at hR
        cases hr : rowF s.1 s.2 l with
        | some s' =>
          rw [hr] at e3 hR
          have := hC s' hr
          subst this
          have e3' : R (k + 2) 159 [.ref rd, .str (S l)] B = .ok (.bl true) C := e3
          simp [f161_0_l0, hB, e3', -Prod.exists]
          exact ⟨(es', qs'), ⟨fl', ks', sC⟩, hF.trans fC, hR⟩
        | none =>
          rw [hr] at e3 hR
          have e3' : R (k + 2) 159 [.ref rd, .str (S l)] B = .ok (.bl false) C := e3
          simp [f161_0_l0, hB, e3', R2014]
          rw [hR]
          dsimp only
          exact ⟨C, ⟨rfl, rfl⟩, hF.trans fC⟩)
    (fun τ B ⟨s, fl, ks, y3, y4, hτ, hS, hF, hR⟩ => by
      rw [List.length_map, List.length_zipIdx, List.drop_length] at hR
      rw [hR, readS]
      exact ⟨B, fl, ks, y3, y4, by rw [hτ], hS, hF⟩)
    (τ := [some (.str (S t)), some (.ref rd), some (.ref j), none, none]) (A0 := A2) ⟨([], []), _, _, none, none, rfl, s2, Fr.refl _ _, rfl⟩
  rw [List.length_map, List.length_zipIdx] at lr
  have lenJ : ∀ {B : AHp}, Fr [e, f, p, o] A2 B → fLen [.ref j] B = some (.int (rowsOf t).length, B) := fun h => by simp [h.gt g2 ne, strV]
  have toA : ∀ {B C : AHp}, Fr [e, f, p, o] A2 B → Fr [] B C → Fr [] A C := fun {B C} h h' => by
    have h3 : Fr [rd, e, p, f, o] A C := (((fr_wide f1).trans (fr_wide f2)).trans (wid h)).trans (fr_wide h')
    exact fr5 h3 (by omega) (by omega) (by omega) (by omega) (by omega)
  have gl2 : (strV (rowsOf t)).length = (rowsOf t).length := by simp [strV]
  -- the walk up to the loop
  have go : ∀ (q : SR), loopS (srcE (srcL j)) (gTp 2 (gsCons (gNm 3) (gsCons (gNm 4) gsNil))) (f161_0_l0 (R (k + 2))) ((rowsOf t).length + 1) 0 [some (.str (S t)), some (.ref rd), some (.ref j), none, none] A2 = q →
      sFor (iEnu (dCons (dVar 2) dNil)) (gTp 2 (gsCons (gNm 3) (gsCons (gNm 4) gsNil))) (f161_0_l0 (R (k + 2))) [some (.str (S t)), some (.ref rd), some (.ref j), none, none] A2 = q := fun q h => by
    simp [e_iEnu, e_enumR, g2, gl2, h]
  have g0 := go _ rfl
  unfold readQ
  rw [R161]
  have e1' : R (k + 2) 1017 [] A = .ok (.ref rd) A1 := by rw [hrd]; exact e1
  unfold layRead
  cases hr : readS (rowsOf t) ([], []) 0 with
  | error i =>
    rw [hr] at lr
    obtain ⟨B, σ, hq, hB⟩ := lr
    rw [hq] at g0
    refine ⟨B, ?_, toA hB (Fr.refl _ _)⟩
    rcases hA2 with ⟨h0, rfl, rfl⟩ | ⟨h0, rfl, hs⟩
    · subst h0
      simp [runBody_eq, f161_0, e1', g0, -e_sFor]
    · simp [runBody_eq, f161_0, e1', h0, hs, -e_split, g0, -e_sFor]
  | ok s =>
    rw [hr] at lr
    obtain ⟨B, fl, ks, y3, y4, hq, sB, hB⟩ := lr
    rw [hq] at g0
    obtain ⟨C, e4, f4⟩ := sB.whole (k := k + 2) (by omega)
    have hBi := sB.ii
    have hCi := f4.gt hBi (by simp)
    have hCe := f4.gt sB.ee (by simp)
    have hCp := f4.gt sB.pp (by simp)
    have lC : fLen [.ref j] C = some (.int (rowsOf t).length, C) := by simp [f4.gt (hB.gt g2 ne) (by simp), strV]
    dsimp only
    by_cases hw' : wholeB s.1 s.2 = true
    · rw [if_pos hw']
      rw [hw'] at e4
      refine ⟨C, ?_, toA hB f4⟩
      rcases hA2 with ⟨h0, rfl, rfl⟩ | ⟨h0, rfl, hs⟩
      · subst h0
        simp [runBody_eq, f161_0, e1', g0, -e_sFor, hBi, e4, hCi, hCe, hCp, layV]
      · simp [runBody_eq, f161_0, e1', h0, hs, -e_split, g0, -e_sFor, hBi, e4, hCi, hCe, hCp, layV]
    · rw [if_neg hw']
      rw [Bool.not_eq_true] at hw'
      rw [hw'] at e4
      refine ⟨C, ?_, toA hB f4⟩
      rcases hA2 with ⟨h0, rfl, rfl⟩ | ⟨h0, rfl, hs⟩
      · subst h0
        simp [runBody_eq, f161_0, e1', g0, -e_sFor, hBi, e4, lC, -e_lenR, R2014]
      · simp [runBody_eq, f161_0, e1', h0, hs, -e_split, g0, -e_sFor, hBi, e4, lC, -e_lenR, R2014]
end
end Law
end
section
namespace Law
open PySem PySem.Spec L2 Ev
set_option autoImplicit false
/-! two alike things -/
def PV : Nat → AV → Prop
  | 0, v => v = .non ∨ (∃ a : List Nat, v = .str (S a)) ∨ ∃ i, v = .int i
  | n + 1, v => PV n v ∨ ∃ xs, v = .tup xs ∧ xs.length < 16777216 ∧ ∀ x ∈ xs, PV n x
theorem alike_R : ∀ (n k : Nat) (v : AV), n + 1 ≤ k → PV n v → ∀ A : AHp, ∃ B, R k 116 [v, v] A = .ok (.bl true) B ∧ Fr [] A B := by
  have atom : ∀ (k : Nat) (v : AV), 1 ≤ k → PV 0 v → ∀ A : AHp, ∃ B, R k 116 [v, v] A = .ok (.bl true) B ∧ Fr [] A B := by
    intro k v hk h A
    obtain ⟨k, rfl, hk⟩ := succ_of hk
    refine ⟨A, ?_, Fr.refl _ _⟩
    rw [R116]
    rcases h with rfl | ⟨x, rfl⟩ | ⟨i, rfl⟩ <;> simp [runBody_eq, f116_1]
  intro n
  induction n with
  | zero => exact fun k v hk h A => atom k v hk h A
  | succ n ih =>
    intro k v hk h A
    rcases h with h | ⟨xs, rfl, hl, hx⟩
    · exact ih k v (by omega) h A
    obtain ⟨k, rfl, hk⟩ := succ_of hk
    rw [R116]
    obtain ⟨A1, q1, q2, q3⟩ := comp_fr (src := srcZ (srcC xs) (srcC xs)) (g := gTp 2 (gsCons (gNm 2) (gsCons (gNm 3) gsNil))) (t := dYes) (e := dCall 2 (R k 116) (dCons (dVar 2) (dCons (dVar 3) dNil))) (τ := [some (.tup xs), some (.tup xs), none, none]) (l := xs) (fun x => .tup [x, x]) (fun _ => .bl true) (fun _ => true) (A := A) hl (fun B i hF => by
      have := src_Z (s1 := srcC xs) (s2 := srcC xs) (xs := xs) (ys := xs) (i := i) (B := B) rfl rfl
      rw [this]
      unfold zipL
      rw [List.getElem?_map, List.getElem?_map, List.zip, List.getElem?_zipWith]
      cases xs[i]? <;> rfl) (fun B x hx' hF => by
      obtain ⟨C, e1, f1⟩ := ih k x (by omega) (hx x hx') B
      exact ⟨[some (.tup xs), some (.tup xs), some x, some x], B, by simp, rfl, Fr.refl _ _, fun _ => ⟨C, by simp [e1], f1⟩⟩)
    rw [List.filter_eq_self.mpr fun _ _ => rfl] at q2
    have cc : f116_1_c0 (R k) [some (.tup xs), some (.tup xs), none, none] A = .ok (.ref A.length) A1 := by
      unfold f116_1_c0 dLc
      simp [wipeA, q1]
    refine ⟨A1, ?_, q3⟩
    simp [runBody_eq, f116_1, cc, q2]
end Law
end
section
namespace Law
open PySem PySem.Spec L2 Ev
set_option autoImplicit false
/-! a row written is read back -/
theorem mem_joinL {s : Nat} {c : Nat} : ∀ {ws : List (List Nat)}, c ∈ TL.joinL [s] ws → c = s ∨ ∃ w ∈ ws, c ∈ w
  | [], h => by rw [TL.joinL] at h; cases h
  | [w], h => by rw [TL.joinL] at h; exact .inr ⟨w, by simp, h⟩
  | w :: v :: r, h => by
    rw [TL.joinL] at h
    rcases List.mem_append.mp h with h | h
    · exact .inr ⟨w, by simp, h⟩
    rcases List.mem_append.mp h with h | h
    · exact .inl (List.mem_singleton.mp h)
    · rcases mem_joinL h with h | ⟨x, hx, hc⟩
      · exact .inl h
      · exact .inr ⟨x, by simp [hx], hc⟩
theorem nm_ch {w : List Nat} (h : nmB w = true) {c : Nat} (hc : c ∈ w) : 97 ≤ c ∧ c ≤ 122 := by
  have := nameB_low (w := w) h c hc
  simpa [lowB] using this
theorem pathT_ch {p : Pth} (h : nmP p) {c : Nat} (hc : c ∈ pathT p) : c = 47 ∨ (97 ≤ c ∧ c ≤ 122) := by
  unfold pathT at hc
  rcases List.mem_cons.mp hc with e | hc
  · exact .inl e
  · rcases mem_joinL hc with e | ⟨w, hw, hc⟩
    · exact .inl e
    · exact .inr (nm_ch (h w hw) hc)
theorem pathIn_T {p : Pth} (h : nmP p) (h8 : p.length ≤ 8) : pathIn (pathT p) = some p := by
  by_cases h0 : p = []
  · subst h0; rfl
  · exact pathIn_join h0 h8 h
theorem thingIn_T {p : Pth} (h : nmP p) (h8 : p.length ≤ 8) (h1 : 1 ≤ p.length) : thingIn (pathT p) = some p := by
  unfold thingIn
  rw [pathIn_T h h8]
  cases p with
  | nil => simp at h1
  | cons w r => rfl
theorem joinL_snoc (s : Nat) (w : List Nat) : ∀ {ws : List (List Nat)}, ws ≠ [] → TL.joinL [s] (ws ++ [w]) = TL.joinL [s] ws ++ s :: w
  | [], h => absurd rfl h
  | [v], _ => by simp [TL.joinL]
  | v :: u :: r, _ => by
    have := joinL_snoc s w (ws := u :: r) (by simp)
    rw [List.cons_append] at this
    rw [List.cons_append, List.cons_append, TL.joinL, this, TL.joinL]
    simp
theorem goneIn_T {p : Pth} (h : nmP p) (h9 : p.length ≤ 9) (h1 : 1 ≤ p.length) : goneIn (pathT p) = some p := by
  obtain ⟨q, w, rfl⟩ : ∃ q w, p = q ++ [w] := ⟨p.dropLast, p.getLast (by cases p with | nil => simp at h1 | cons _ _ => simp), (List.dropLast_concat_getLast _).symm⟩
  have hq : nmP q := fun x hx => h x (by simp [hx])
  have hw := h w (by simp)
  have h47 : ∀ c ∈ w, c ≠ 47 := fun c hc e => by have := nm_ch hw hc; omega
  obtain ⟨a, ha, hpar⟩ : ∃ a : List Nat, pathT (q ++ [w]) = a ++ 47 :: w ∧ (if 0 < a.length then thingIn a else some []) = some q := by
    by_cases h0 : q = []
    · subst h0
      exact ⟨[], rfl, rfl⟩
    · refine ⟨pathT q, ?_, ?_⟩
      · unfold pathT
        rw [joinL_snoc 47 w h0]
        rfl
      · rw [if_pos (by simp [pathT])]
        exact thingIn_T hq (by simp at h9; omega) (List.length_pos_iff.mpr h0)
  have hl : lstL (pathT (q ++ [w])) [47] = some a.length := by
    rw [ha]
    refine lst_eq ⟨by simp, by simp⟩ fun k hk hat => ?_
    obtain ⟨k1, k2⟩ := hat
    simp at k1 k2
    have : (a ++ 47 :: w).drop k = w.drop (k - a.length - 1) := by
      rw [List.drop_append, List.drop_of_length_le (by omega), List.nil_append]
      obtain ⟨m, hm⟩ : ∃ m, k - a.length = m + 1 := ⟨k - a.length - 1, by omega⟩
      rw [hm, List.drop_succ_cons]
      rfl
    rw [this] at k2
    have hm : 47 ∈ (w.drop (k - a.length - 1)).take 1 := by rw [k2]; simp
    exact h47 47 (List.mem_of_mem_drop (List.mem_of_mem_take hm)) rfl
  unfold goneIn
  rw [hl]
  dsimp only
  have e1 : (pathT (q ++ [w])).take a.length = a := by rw [ha]; simp
  have e2 : (pathT (q ++ [w])).drop (a.length + 1) = w := by
    rw [ha, List.drop_append, List.drop_of_length_le (by omega)]
    simp
  rw [e1, e2, hpar]
  dsimp only
  exact if_pos hw
theorem numIn_T {n : Nat} (h : n < 200) : numIn (numT n) = some n := by
  have : ∀ n : Fin 200, numIn (numT n.val) = some n.val := by decide +kernel
  exact this ⟨n, h⟩
theorem numT_ch {n : Nat} (h : n < 200) : ∀ c ∈ numT n, 48 ≤ c ∧ c ≤ 57 := by
  have : ∀ n : Fin 200, (numT n.val).all (fun c => decide (48 ≤ c ∧ c ≤ 57)) = true := by decide +kernel
  intro c hc
  have := List.all_eq_true.mp (this ⟨n, h⟩) c hc
  simpa using this
theorem spl3 {a b : List Nat} (ha : 32 ∉ a) (hb : 32 ∉ b) : splitL 32 (a ++ 32 :: b) = [a, b] := by
  have := TL.spl_join (s := 32) (S := []) (parts := [a, b]) (by simp) (by simp [ha, hb])
  simpa [TL.joinL, splitL] using this
theorem spl4 {a b c : List Nat} (ha : 32 ∉ a) (hb : 32 ∉ b) (hc : 32 ∉ c) : splitL 32 (a ++ 32 :: (b ++ 32 :: c)) = [a, b, c] := by
  have := TL.spl_join (s := 32) (S := []) (parts := [a, b, c]) (by simp) (by simp [ha, hb, hc])
  simpa [TL.joinL, splitL] using this
theorem spl5 {a b c d : List Nat} (ha : 32 ∉ a) (hb : 32 ∉ b) (hc : 32 ∉ c) (hd : 32 ∉ d) : splitL 32 (a ++ 32 :: (b ++ 32 :: (c ++ 32 :: d))) = [a, b, c, d] := by
  have := TL.spl_join (s := 32) (S := []) (parts := [a, b, c, d]) (by simp) (by simp [ha, hb, hc, hd])
  simpa [TL.joinL, splitL] using this
theorem no32 {p : Pth} (h : nmP p) : 32 ∉ pathT p := fun hc => by
  rcases pathT_ch h hc with e | e <;> omega
theorem ent_back {np : Nat} {x : Pth × Row} (h : okE np x) (hn : np ≤ 200) (h1 : 1 ≤ x.1.length) (h8 : 8 < x.1.length → x.2 = .gone) : entW (splitL 32 (entT x)) = some x := by
  obtain ⟨p, r⟩ := x
  obtain ⟨k1, k2, k3⟩ := h
  dsimp only at k1 k2 k3 h1 h8
  have n32 := no32 k1
  cases r with
  | gone =>
    have e : entT (p, .gone) = goneW ++ 32 :: pathT p := by simp [entT, goneW]
    rw [e, spl3 (by decide) n32]
    unfold entW
    dsimp only
    rw [if_pos ⟨rfl, rfl⟩]
    simp [goneIn_T k1 k2 h1]
  | fil n =>
    have hp8 : p.length ≤ 8 := by
      rcases Nat.lt_or_ge 8 p.length with z | z
      · cases h8 z
      · exact z
    have hn2 : n < 200 := by have : n < np := k3; omega
    have e : entT (p, .fil n) = fileW ++ 32 :: (pathT p ++ 32 :: numT n) := by simp [entT, fileW]
    rw [e, spl4 (by decide) n32 (fun z => by have := numT_ch hn2 32 z; omega)]
    unfold entW
    dsimp only
    rw [if_neg (by rintro ⟨z, _⟩; exact absurd z (by decide))]
    unfold entR
    simp [thingIn_T k1 hp8 h1, numIn_T hn2]
  | fol o =>
    have hp8 : p.length ≤ 8 := by
      rcases Nat.lt_or_ge 8 p.length with z | z
      · cases h8 z
      · exact z
    cases o with
    | none =>
      have e : entT (p, .fol none) = foldW ++ 32 :: (pathT p ++ 32 :: aloneW) := by simp [entT, foldW, aloneW]
      rw [e, spl4 (by decide) n32 (by decide)]
      unfold entW
      dsimp only
      rw [if_neg (by rintro ⟨z, _⟩; exact absurd z (by decide))]
      unfold entR
      dsimp only
      rw [thingIn_T k1 hp8 h1]
      dsimp only
      rw [if_neg (by rintro ⟨z, _⟩; exact absurd z (by decide)), if_pos rfl]
      unfold folF
      rw [if_pos rfl]
    | some q =>
      obtain ⟨q1, q2⟩ := k3 q rfl
      have e : entT (p, .fol (some q)) = foldW ++ 32 :: (pathT p ++ 32 :: (overW ++ 32 :: pathT q)) := by simp [entT, foldW, overW]
      rw [e, spl5 (by decide) n32 (by decide) (no32 q1)]
      unfold entW
      dsimp only
      rw [if_neg (by rintro ⟨z, _⟩; exact absurd z (by decide))]
      unfold entR
      dsimp only
      rw [thingIn_T k1 hp8 h1]
      dsimp only
      rw [if_neg (by rintro ⟨z, _⟩; exact absurd z (by decide)), if_pos rfl]
      unfold folF
      rw [if_neg (by simp)]
      dsimp only
      rw [if_pos rfl, pathIn_T q1 q2]
      rfl
end Law
end
section
namespace Law
open PySem PySem.Spec L2 Ev
set_option autoImplicit false
/-! a pair written is read back; a whole layer -/
theorem data_split (s : List Nat) : ∃ r, splitL 32 (dataW ++ 32 :: s) = dataW :: r := ⟨TL.spl [32] 0 [] s, by simp [splitL, dataW, TL.spl, TL.pre]⟩
theorem entW_data (r : List (List Nat)) : entW (dataW :: r) = none := by
  unfold entW
  dsimp only
  rw [if_neg (by rintro ⟨z, _⟩; exact absurd z (by decide))]
  dsimp only
  cases r with
  | nil => rfl
  | cons w1 r2 =>
    unfold entR
    dsimp only
    cases thingIn w1 with
    | none => rfl
    | some p =>
      dsimp only
      rw [if_neg (by rintro ⟨z, _⟩; exact absurd z (by decide)), if_neg (by decide)]
theorem prT_form {q : Pr} (h : okPr q) : ∃ s, prT q = dataW ++ 32 :: s := by
  obtain ⟨o, x⟩ := q
  obtain ⟨_, _, _, h4⟩ := h
  cases o with
  | none => cases x with
    | none => exact absurd rfl (h4 rfl)
    | some t => exact ⟨61 :: t, by simp [prT, dataW]⟩
  | some p => cases x with
    | none => exact ⟨[111, 102, 32] ++ pathT p, by simp [prT, dataW]⟩
    | some t => exact ⟨[111, 102, 32] ++ pathT p ++ ([32, 61] ++ t), by simp [prT, dataW]⟩
theorem ent_prT {q : Pr} (h : okPr q) : entW (splitL 32 (prT q)) = none := by
  obtain ⟨s, e⟩ := prT_form h
  obtain ⟨r, e2⟩ := data_split s
  rw [e, e2, entW_data]
theorem sg_sign {t : List Nat} (h : t.length ≤ 200) (h2 : ∀ y ∈ t, y ∈ sgL) : textB t = true := by
  have hs : ∀ c ∈ sgL, signB c = true := by decide
  unfold textB
  rw [Bool.and_eq_true]
  exact ⟨decide_eq_true h, List.all_eq_true.mpr fun c hc => hs c (h2 c hc)⟩
/-- the first place of what stands behind a text without its second sign -/
theorem fst_behind (a t : List Nat) (ha : 61 ∉ a) : fstL (a ++ [32, 61] ++ t) [32, 61] = some a.length := by
  refine fst_eq ⟨by simp, by simp⟩ fun k hk hat => ?_
  obtain ⟨k1, k2⟩ := hat
  have e : (a ++ [32, 61] ++ t)[k + 1]? = some 61 := by
    have := congrArg (fun l : List Nat => l[1]?) k2
    simpa [List.getElem?_take, List.getElem?_drop] using this
  rw [List.append_assoc] at e
  by_cases c : k + 1 < a.length
  · rw [List.getElem?_append_left c] at e
    exact ha (List.mem_of_getElem? e)
  · have : k + 1 = a.length := by omega
    rw [List.getElem?_append_right (by omega), this] at e
    simp at e
theorem drop_behind (a t : List Nat) : (a ++ [32, 61] ++ t).drop (a.length + 2) = t := by
  rw [List.append_assoc, List.drop_append, List.drop_of_length_le (by omega)]
  simp
theorem fst_no {l : List Nat} (h : 61 ∉ l) : fstL l [32, 61] = none := by
  refine fst_none fun i hat => ?_
  obtain ⟨k1, k2⟩ := hat
  have hm : 61 ∈ (l.drop i).take ([32, 61] : List Nat).length := by rw [k2]; simp
  exact h (List.mem_of_mem_drop (List.mem_of_mem_take hm))
theorem no61 {p : Pth} (h : nmP p) : 61 ∉ pathT p := fun hc => by
  rcases pathT_ch h hc with e | e <;> omega
theorem pair_back {q : Pr} (h : okPr q) : pairF (prT q) = some q := by
  obtain ⟨o, x⟩ := q
  obtain ⟨h1, h2, h3, h4⟩ := h
  dsimp only at h1 h2 h3 h4
  unfold pairF
  cases o with
  | none => cases x with
    | none => exact absurd rfl (h4 rfl)
    | some t =>
      obtain ⟨t1, t2⟩ := h2 t rfl
      have e : prT (none, some t) = dataW ++ [32, 61] ++ t := by simp [prT, dataW]
      rw [e, fst_behind dataW t (by decide)]
      have e2 : (dataW ++ [32, 61] ++ t).drop (dataW.length + 2) = t := by simp [dataW]
      have e3 : (dataW ++ [32, 61] ++ t).take dataW.length = dataW := by simp
      dsimp only
      rw [e2, e3, if_pos (sg_sign t1 t2)]
      unfold pairX
      rw [if_pos ⟨rfl, by simp⟩]
  | some p =>
    obtain ⟨p1, p2⟩ := h1 p rfl
    have p3 := h3 p rfl
    have hx : ∀ x : Option (List Nat), pairX (ofW ++ pathT p) x = some (some p, x) := fun x => by
      unfold pairX
      rw [if_neg (by rintro ⟨z, _⟩; have := congrArg List.length z; simp [ofW, dataW] at this)]
      have e1 : (ofW ++ pathT p).take 8 = ofW := by simp [ofW]
      have e2 : (ofW ++ pathT p).drop 8 = pathT p := by simp [ofW]
      rw [if_pos e1, e2, thingIn_T p1 p2 p3]
      rfl
    have n61 : 61 ∉ ofW ++ pathT p := by
      intro hc
      rcases List.mem_append.mp hc with hc | hc
      · exact absurd hc (by decide)
      · exact no61 p1 hc
    cases x with
    | none =>
      have e : prT (some p, none) = ofW ++ pathT p := by simp [prT, ofW]
      rw [e, fst_no n61]
      exact hx none
    | some t =>
      obtain ⟨t1, t2⟩ := h2 t rfl
      have e : prT (some p, some t) = (ofW ++ pathT p) ++ [32, 61] ++ t := by simp [prT, ofW]
      rw [e, fst_behind _ t n61]
      have e2 : ((ofW ++ pathT p) ++ [32, 61] ++ t).drop ((ofW ++ pathT p).length + 2) = t := drop_behind _ _
      have e3 : ((ofW ++ pathT p) ++ [32, 61] ++ t).take (ofW ++ pathT p).length = ofW ++ pathT p := by
        rw [List.append_assoc, List.take_append_of_le_length (Nat.le_refl _), List.take_length]
      dsimp only
      rw [e2, e3, if_pos (sg_sign t1 t2)]
      exact hx (some t)
theorem not_lt_pre : ∀ a b : Pth, ¬ a ++ b < a
  | [], b, h => List.not_lt_nil _ h
  | x :: a, b, h => by
    rw [List.cons_append, List.cons_lt_cons_iff] at h
    rcases h with h | ⟨_, h⟩
    · exact Ord1.irr _ h
    · exact not_lt_pre a b h
theorem readS_app (a b : List (List Nat)) : ∀ (s : LS) (i : Nat), readS (a ++ b) s i = match readS a s i with
    | .ok s' => readS b s' (i + a.length)
    | .error e => .error e := by
  induction a with
  | nil => intro s i; rfl
  | cons l a ih =>
    intro s i
    rw [List.cons_append, readS, readS]
    cases rowF s.1 s.2 l with
    | none => rfl
    | some s' =>
      dsimp only
      rw [ih, show i + 1 + a.length = i + (l :: a).length by simp; omega]
theorem ent_mem {pre post : List (Pth × Row)} {x : Pth × Row} {y : Pth × Row} (hs : ((pre ++ x :: post).map Prod.fst).Pairwise (· < ·)) (hy : y ∈ pre ++ x :: post) (h1 : y.1 = x.1.dropLast) (h0 : 1 ≤ x.1.length) : y ∈ pre := by
  rcases List.mem_append.mp hy with h | h
  · exact h
  · exfalso
    have hne : x.1 = x.1.dropLast ++ [x.1.getLast (by intro z; rw [z] at h0; simp at h0)] := (List.dropLast_concat_getLast _).symm
    rcases List.mem_cons.mp h with h | h
    · subst h
      have := congrArg List.length h1
      rw [List.length_dropLast] at this
      omega
    · rw [List.map_append, List.map_cons, List.pairwise_append] at hs
      have h2 := (List.pairwise_cons.mp hs.2.1).1 y.1 (List.mem_map.mpr ⟨y, h, rfl⟩)
      rw [h1] at h2
      refine not_lt_pre x.1.dropLast [x.1.getLast (by intro z; rw [z] at h0; simp at h0)] ?_
      rwa [← hne]
theorem readS_es {es : List (Pth × Row)} {qs : List Pr} (ok : okL es qs) : ∀ (post pre : List (Pth × Row)) (i : Nat), es = pre ++ post → readS (post.map entT) (pre, []) i = .ok (es, [])
  | [], pre, i, h => by rw [h, List.append_nil]; rfl
  | x :: post, pre, i, h => by
    have hx : x ∈ es := by rw [h]; simp
    obtain ⟨r1, r2, r3, r4⟩ := ok.row x hx
    have hl := ok.lq
    have e1 := ent_back (np := qs.length) (x := x) ⟨r1, r3, r4⟩ (by omega) r2 (ok.len x hx)
    have hs := ok.srt
    have ht : takeE pre [] x = true := by
      unfold takeE
      have hlen : pre.length < es.length := by rw [h]; simp
      have := ok.le
      have a1 : decide (pre.length ≠ 400) = true := decide_eq_true (by omega)
      have a2 : opnB pre x.1.dropLast = true := by
        unfold opnB
        rcases ok.par x hx with z | ⟨o, z⟩
        · rw [decide_eq_true z]; rfl
        · rw [h] at z hs
          have := ent_mem hs z rfl r2
          rw [Bool.or_eq_true, List.any_eq_true]
          exact .inr ⟨_, this, by simp [isFol]⟩
      have a3 : aftB pre x.1 = true := by
        unfold aftB
        cases hg : pre.getLast? with
        | none => rfl
        | some y =>
          rw [h, List.map_append, List.pairwise_append] at hs
          exact decide_eq_true (hs.2.2 y.1 (List.mem_map.mpr ⟨y, List.mem_of_getLast? hg, rfl⟩) x.1 (by simp))
      rw [a1, a2, a3]
      rfl
    rw [List.map_cons, readS]
    have : rowF pre [] (entT x) = some (pre ++ [x], []) := by
      unfold rowF
      rw [e1]
      dsimp only
      rw [if_pos ht]
    dsimp only
    rw [this]
    exact readS_es ok post (pre ++ [x]) (i + 1) (by rw [h]; simp)
theorem readS_qs {es : List (Pth × Row)} {qs : List Pr} (ok : okL es qs) : ∀ (post pre : List Pr) (i : Nat), qs = pre ++ post → readS (post.map prT) (es, pre) i = .ok (es, qs)
  | [], pre, i, h => by rw [h, List.append_nil]; rfl
  | q :: post, pre, i, h => by
    have hq : q ∈ qs := by rw [h]; simp
    have okq := ok.pr q hq
    have hl := ok.lq
    have ho := ok.org
    have ht : takeP pre q = true := by
      unfold takeP
      have hlen : pre.length < qs.length := by rw [h]; simp
      rw [decide_eq_true (show pre.length ≠ 200 by omega), Bool.true_and, Bool.or_eq_true]
      cases hq1 : q.1 with
      | none => exact .inl rfl
      | some p =>
        refine .inr ?_
        rw [Bool.not_eq_true', List.any_eq_false]
        intro y hy hc
        have hy1 : y.1 = some p := of_decide_eq_true hc
        rw [h, List.filterMap_append, List.nodup_append] at ho
        exact ho.2.2 p (List.mem_filterMap.mpr ⟨y, hy, hy1⟩) p (List.mem_filterMap.mpr ⟨q, by simp, hq1⟩) rfl
    rw [List.map_cons, readS]
    have : rowF es pre (prT q) = some (es, pre ++ [q]) := by
      unfold rowF
      rw [ent_prT okq, pair_back okq]
      dsimp only
      rw [if_pos ht]
    dsimp only
    rw [this]
    exact readS_qs ok post (pre ++ [q]) (i + 1) (by rw [h]; simp)
theorem whole_ok {es : List (Pth × Row)} {qs : List Pr} (ok : okL es qs) : wholeB es qs = true := by
  unfold wholeB
  rw [Bool.and_eq_true, Bool.not_eq_true']
  constructor
  · rw [List.any_eq_false]
    intro n hn hc
    have hc := of_decide_eq_true hc
    obtain ⟨x, hx, rfl⟩ := List.mem_map.mp hn
    obtain ⟨h1, h2⟩ := List.mem_filter.mp hx
    obtain ⟨_, _, _, r4⟩ := ok.row x h1
    obtain ⟨p, r⟩ := x
    cases r with
    | fil n => have : n < qs.length := r4; simp [numR] at hc; omega
    | fol o => cases h2
    | gone => cases h2
  · rw [List.all_eq_true]
    rintro ⟨⟨o, x⟩, i⟩ hz
    have hz' := List.mem_zipIdx_iff_getElem?.mp hz
    cases o with
    | some p => rfl
    | none =>
      obtain ⟨p, hp⟩ := ok.nam i x hz'
      rw [Bool.or_eq_true]
      refine .inr (decide_eq_true ?_)
      exact List.mem_map.mpr ⟨(p, .fil i), List.mem_filter.mpr ⟨hp, rfl⟩, rfl⟩
theorem layRead_rows {es : List (Pth × Row)} {qs : List Pr} (ok : okL es qs) : layRead (rowsT es qs) = .ok (es, qs) := by
  unfold layRead rowsT
  rw [readS_app, readS_es ok es [] 0 rfl]
  dsimp only
  rw [readS_qs ok qs [] _ rfl]
  dsimp only
  rw [if_pos (whole_ok ok)]
end Law
end
section
namespace Law
open PySem PySem.Spec L2 Ev
set_option autoImplicit false
/-! the rows of a layer's text; a layer is a plain thing -/
def chOk (l : List Nat) : Prop := ∀ c ∈ l, c ≠ 10 ∧ c < 1114112
theorem chOk.app {a b : List Nat} (ha : chOk a) (hb : chOk b) : chOk (a ++ b) := fun c hc => by
  rcases List.mem_append.mp hc with h | h
  · exact ha c h
  · exact hb c h
theorem ch_path {p : Pth} (h : nmP p) : chOk (pathT p) := fun c hc => by
  rcases pathT_ch h hc with e | e <;> omega
theorem ch_num {n : Nat} (h : n < 200) : chOk (numT n) := fun c hc => by have := numT_ch h c hc; omega
theorem ch_dec {l : List Nat} (h : (l.all fun c => decide (c ≠ 10) && decide (c < 1114112)) = true) : chOk l := fun c hc => by
  have := List.all_eq_true.mp h c hc
  simpa using this
theorem ch_ent {np : Nat} {x : Pth × Row} (h : okE np x) (hn : np ≤ 200) : chOk (entT x) := by
  obtain ⟨p, r⟩ := x
  obtain ⟨h1, h2, h3⟩ := h
  dsimp only at h1 h2 h3
  cases r with
  | gone => exact (ch_dec (by decide)).app (ch_path h1)
  | fil n => exact (((ch_dec (by decide)).app (ch_path h1)).app (ch_dec (by decide))).app (ch_num (by have : n < np := h3; omega))
  | fol o => cases o with
    | none => exact ((ch_dec (by decide)).app (ch_path h1)).app (ch_dec (by decide))
    | some q => exact (((ch_dec (by decide)).app (ch_path h1)).app (ch_dec (by decide))).app (ch_path (h3 q rfl).1)
theorem ch_text {t : List Nat} (h : ∀ y ∈ t, y ∈ sgL) : chOk t := fun c hc => by
  have hs : ∀ c ∈ sgL, c ≠ 10 ∧ c < 1114112 := by decide
  exact hs c (h c hc)
theorem ch_pr {q : Pr} (h : okPr q) : chOk (prT q) := by
  obtain ⟨o, x⟩ := q
  obtain ⟨h1, h2, _, _⟩ := h
  dsimp only at h1 h2
  cases o with
  | none => cases x with
    | none => exact ch_dec (by decide)
    | some t => exact (ch_dec (by decide)).app ((ch_dec (by decide)).app (ch_text (h2 t rfl).2))
  | some p => cases x with
    | none => exact (ch_dec (by decide)).app ((ch_dec (by decide)).app (ch_path (h1 p rfl).1))
    | some t => exact ((ch_dec (by decide)).app ((ch_dec (by decide)).app (ch_path (h1 p rfl).1))).app ((ch_dec (by decide)).app (ch_text (h2 t rfl).2))
theorem row_ok {es : List (Pth × Row)} {qs : List Pr} (ok : okL es qs) : ∀ l ∈ rowsT es qs, chOk l ∧ l.length ≤ 100000 ∧ l ≠ [] := fun l hl => by
  have lq := ok.lq
  unfold rowsT at hl
  rcases List.mem_append.mp hl with h | h
  · obtain ⟨x, hx, rfl⟩ := List.mem_map.mp h
    have e := ok.okE x hx
    refine ⟨ch_ent e (by omega), Nat.le_trans (entT_len e (by omega)) (by decide), ?_⟩
    obtain ⟨p, r⟩ := x
    cases r with
    | gone => simp [entT]
    | fil n => simp [entT]
    | fol o => cases o <;> simp [entT]
  · obtain ⟨q, hq, rfl⟩ := List.mem_map.mp h
    have e := ok.pr q hq
    refine ⟨ch_pr e, Nat.le_trans (prT_len e) (by decide), ?_⟩
    obtain ⟨s, e2⟩ := prT_form e
    rw [e2]
    simp [dataW]
theorem rowsOf_T {es : List (Pth × Row)} {qs : List Pr} (ok : okL es qs) : rowsOf (layT es qs) = rowsT es qs := by
  have hr := row_ok ok
  unfold rowsOf layT
  generalize rowsT es qs = ws at hr
  by_cases h0 : ws = []
  · subst h0; rfl
  have hne : TL.joinL [10] ws ≠ [] := by
    cases ws with
    | nil => exact absurd rfl h0
    | cons w r =>
      have hw := (hr w (by simp)).2.2
      cases r with
      | nil => rw [TL.joinL]; exact hw
      | cons v s => rw [TL.joinL]; simp [hw]
  rw [if_neg hne]
  exact TL.spl_join h0 fun p hp hc => ((hr p hp).1 10 hc).1 rfl
theorem rows_WOk {es : List (Pth × Row)} {qs : List Pr} (ok : okL es qs) : WOk (rowsT es qs) := fun w hw => by
  obtain ⟨h1, h2, _⟩ := row_ok ok w hw
  refine ⟨h2, ?_⟩
  unfold okS
  exact List.all_eq_true.mpr fun c hc => decide_eq_true (h1 c hc).2
theorem layT_len {es : List (Pth × Row)} {qs : List Pr} (ok : okL es qs) : (layT es qs).length ≤ 10000000 := by
  have h1 := joinL_le [10] (rowsT es qs)
  have h2 := rowsT_sum ok.okE ok.pr ok.le (by have := ok.lq; omega)
  have h3 : (rowsT es qs).length = es.length + qs.length := by unfold rowsT; simp
  have := ok.le
  have := ok.lq
  unfold layT
  simp at h1
  omega
theorem pv_path (p : Pth) (h : p.length < 16777216) : PV 1 (.tup (nV p)) := .inr ⟨_, rfl, by simpa using h, fun x hx => by
  obtain ⟨w, _, rfl⟩ := List.mem_map.mp hx
  exact .inr (.inl ⟨w, rfl⟩)⟩
theorem pv_str (a : List Nat) : PV 1 (.str (S a)) := .inl (.inr (.inl ⟨a, rfl⟩))
theorem pv_oV {o : Option Pth} (h : okO o) : PV 1 (oV o) := by
  cases o with
  | none => exact .inl (.inl rfl)
  | some p => exact pv_path p (by have := (h p rfl).2; omega)
theorem pv_ent {np : Nat} {x : Pth × Row} (h : okE np x) : PV 2 (entV x) := by
  obtain ⟨p, r⟩ := x
  obtain ⟨h1, h2, h3⟩ := h
  dsimp only at h1 h2 h3
  have hp := pv_path p (by omega)
  cases r with
  | gone =>
    refine .inr ⟨_, rfl, by simp, fun x hx => ?_⟩
    rcases List.mem_cons.mp hx with rfl | hx
    · exact hp
    · rw [List.mem_singleton.mp hx]; exact pv_str _
  | fil n =>
    refine .inr ⟨_, rfl, by simp, fun x hx => ?_⟩
    rcases List.mem_cons.mp hx with rfl | hx
    · exact hp
    · rcases List.mem_cons.mp hx with rfl | hx
      · exact pv_str _
      · rw [List.mem_singleton.mp hx]; exact .inl (.inr (.inr ⟨_, rfl⟩))
  | fol o =>
    refine .inr ⟨_, rfl, by simp, fun x hx => ?_⟩
    rcases List.mem_cons.mp hx with rfl | hx
    · exact hp
    · rcases List.mem_cons.mp hx with rfl | hx
      · exact pv_str _
      · rw [List.mem_singleton.mp hx]; exact pv_oV h3
theorem pv_pr {q : Pr} (h : okPr q) : PV 2 (pairV q) := by
  obtain ⟨o, x⟩ := q
  obtain ⟨h1, h2, _, _⟩ := h
  refine .inr ⟨_, rfl, by simp, fun y hy => ?_⟩
  rcases List.mem_cons.mp hy with rfl | hy
  · exact pv_oV h1
  · rw [List.mem_singleton.mp hy]
    cases x with
    | none => exact .inl (.inl rfl)
    | some t => exact pv_str t
theorem pv_lay {es : List (Pth × Row)} {qs : List Pr} (ok : okL es qs) : PV 4 (layV es qs) := by
  have := ok.le
  have := ok.lq
  refine .inr ⟨_, rfl, by simp, fun y hy => ?_⟩
  rcases List.mem_cons.mp hy with rfl | hy
  · refine .inr ⟨_, rfl, by simp; omega, fun x hx => ?_⟩
    obtain ⟨z, hz, rfl⟩ := List.mem_map.mp hx
    exact pv_ent (ok.okE z hz)
  · rw [List.mem_singleton.mp hy]
    refine .inr ⟨_, rfl, by simp; omega, fun x hx => ?_⟩
    obtain ⟨z, hz, rfl⟩ := List.mem_map.mp hx
    exact pv_pr (ok.pr z hz)
section
variable {k : Nat}
/-- a layer's text is read as the layer -/
theorem back_R (hk : 8 ≤ k) {es : List (Pth × Row)} {qs : List Pr} (ok : okL es qs) (A : AHp) : ∃ B, R k 161 [.str (S (layT es qs))] A = .ok (layV es qs) B ∧ Fr [] A B := by
  have h := read_R hk (layT es qs) (layT_len ok) (by rw [rowsOf_T ok]; exact rows_WOk ok) A
  rw [rowsOf_T ok, layRead_rows ok] at h
  exact h
end
end Law
end
section
namespace Law
open PySem PySem.Spec L2 Ev
set_option autoImplicit false
/-! two layers compared -/
mutual
theorem same_eq : ∀ {t t' : T}, noB t' = true → noB t = true → sameT t t' = true → t = t'
  | t, .non, _, _, h => by
    cases t with
    | non => rfl
    | _ => simp [sameT] at h
  | t, .bl b, n, _, h => by rw [noB] at n; cases n
  | t, .int i, _, n2, h => by
    cases t with
    | int j => simp [sameT] at h; rw [h]
    | bl b => rw [noB] at n2; cases n2
    | _ => simp [sameT] at h
  | t, .str l, _, _, h => by
    cases t with
    | str m => simp [sameT] at h; rw [h]
    | _ => simp [sameT] at h
  | t, .tup ys, n, n2, h => by
    cases t with
    | tup xs =>
      rw [sameT] at h
      rw [noB] at n n2
      rw [sameL_eq n n2 h]
    | _ => simp [sameT] at h
  | t, .lst ys, n, n2, h => by
    cases t with
    | lst xs =>
      rw [sameT] at h
      rw [noB] at n n2
      rw [sameL_eq n n2 h]
    | _ => simp [sameT] at h
theorem sameL_eq : ∀ {ts ts' : List T}, noBs ts' = true → noBs ts = true → sameL ts ts' = true → ts = ts'
  | [], [], _, _, _ => rfl
  | [], _ :: _, _, _, h => by simp [sameL] at h
  | _ :: _, [], _, _, h => by simp [sameL] at h
  | x :: xs, y :: ys, n, n2, h => by
    rw [sameL, Bool.and_eq_true] at h
    rw [noBs, Bool.and_eq_true] at n n2
    rw [same_eq n.1 n2.1 h.1, sameL_eq n.2 n2.2 h.2]
end
mutual
theorem same_refl : ∀ {t : T}, noB t = true → sameT t t = true
  | .non, _ => by rw [sameT]
  | .bl b, n => by rw [noB] at n; cases n
  | .int i, _ => by simp [sameT]
  | .str l, _ => by simp [sameT]
  | .tup xs, n => by rw [sameT]; rw [noB] at n; exact sameL_refl n
  | .lst xs, n => by rw [sameT]; rw [noB] at n; exact sameL_refl n
theorem sameL_refl : ∀ {ts : List T}, noBs ts = true → sameL ts ts = true
  | [], _ => by rw [sameL]
  | x :: xs, n => by
    rw [noBs, Bool.and_eq_true] at n
    rw [sameL, same_refl n.1, sameL_refl n.2]
    rfl
end
def paT (p : Pth) : T := .tup (p.map .str)
def entTr (x : Pth × Row) : T := match x.2 with
  | .fol o => .tup [paT x.1, .str foldW, oT o]
  | .fil n => .tup [paT x.1, .str fileW, .int n]
  | .gone => .tup [paT x.1, .str goneW]
def xT : Option (List Nat) → T
  | none => .non
  | some t => .str t
def prTr (q : Pr) : T := .tup [oT q.1, xT q.2]
def layTr (es : List (Pth × Row)) (qs : List Pr) : T := .tup [.tup (es.map entTr), .tup (qs.map prTr)]
def strs0 (ts : List T) : List (List Nat) := ts.map fun t => match t with
  | .str l => l
  | _ => []
theorem strs0_map (p : Pth) : strs0 (p.map .str) = p := by
  unfold strs0
  rw [List.map_map]
  exact List.map_id'' (fun _ => rfl) p
def oBk : T → Option Pth
  | .tup ts => some (strs0 ts)
  | _ => none
theorem oBk_oT (o : Option Pth) : oBk (oT o) = o := by
  cases o with
  | none => rfl
  | some p => exact congrArg some (strs0_map p)
def xBk : T → Option (List Nat)
  | .str l => some l
  | _ => none
theorem xBk_xT (x : Option (List Nat)) : xBk (xT x) = x := by cases x <;> rfl
def entBk : T → Pth × Row
  | .tup [.tup ps, .str k, o] => if k = foldW then (strs0 ps, .fol (oBk o)) else match o with
    | .int n => (strs0 ps, .fil n.toNat)
    | _ => ([], .gone)
  | .tup [.tup ps, _] => (strs0 ps, .gone)
  | _ => ([], .gone)
theorem entBk_ent (x : Pth × Row) : entBk (entTr x) = x := by
  obtain ⟨p, r⟩ := x
  cases r with
  | fol o =>
    simp [entBk, entTr, paT, strs0_map, oBk_oT]
  | fil n =>
    simp [entBk, entTr, paT, strs0_map, foldW, fileW]
  | gone => show (strs0 (p.map .str), Row.gone) = _; rw [strs0_map]
def prBk : T → Pr
  | .tup [o, x] => (oBk o, xBk x)
  | _ => (none, none)
theorem prBk_pr (q : Pr) : prBk (prTr q) = q := by
  obtain ⟨o, x⟩ := q
  show (oBk (oT o), xBk (xT x)) = _
  rw [oBk_oT, xBk_xT]
theorem layTr_inj {es es' : List (Pth × Row)} {qs qs' : List Pr} (h : layTr es qs = layTr es' qs') : es = es' ∧ qs = qs' := by
  unfold layTr at h
  injection h with h
  injection h with h1 h2
  injection h1 with h1
  injection h2 with h2 _
  injection h2 with h2
  constructor
  · have := congrArg (List.map entBk) h1
    rw [List.map_map, List.map_map] at this
    rwa [List.map_id'' (f := entBk ∘ entTr) (fun x => entBk_ent x), List.map_id'' (f := entBk ∘ entTr) (fun x => entBk_ent x)] at this
  · have := congrArg (List.map prBk) h2
    rw [List.map_map, List.map_map] at this
    rwa [List.map_id'' (f := prBk ∘ prTr) (fun x => prBk_pr x), List.map_id'' (f := prBk ∘ prTr) (fun x => prBk_pr x)] at this
theorem rep_pa (A : AHp) (p : Pth) : Rep A (paT p) (.tup (nV p)) := by
  unfold paT
  rw [Rep]
  exact ⟨_, rfl, reps_strV A p⟩
theorem rep_ent (A : AHp) (x : Pth × Row) : Rep A (entTr x) (entV x) := by
  obtain ⟨p, r⟩ := x
  have hp := rep_pa A p
  cases r with
  | fol o =>
    show Rep A (.tup [paT p, .str foldW, oT o]) (.tup [.tup (nV p), .str (S foldW), oV o])
    rw [Rep]
    refine ⟨_, rfl, ?_⟩
    rw [Reps]; refine ⟨_, _, rfl, hp, ?_⟩
    rw [Reps]; refine ⟨_, _, rfl, by rw [Rep], ?_⟩
    rw [Reps]; refine ⟨_, _, rfl, rep_oT A o, ?_⟩
    rw [Reps]
  | fil n =>
    show Rep A (.tup [paT p, .str fileW, .int n]) (.tup [.tup (nV p), .str (S fileW), .int n])
    rw [Rep]
    refine ⟨_, rfl, ?_⟩
    rw [Reps]; refine ⟨_, _, rfl, hp, ?_⟩
    rw [Reps]; refine ⟨_, _, rfl, by rw [Rep], ?_⟩
    rw [Reps]; refine ⟨_, _, rfl, by rw [Rep], ?_⟩
    rw [Reps]
  | gone =>
    show Rep A (.tup [paT p, .str goneW]) (.tup [.tup (nV p), .str (S goneW)])
    rw [Rep]
    refine ⟨_, rfl, ?_⟩
    rw [Reps]; refine ⟨_, _, rfl, hp, ?_⟩
    rw [Reps]; refine ⟨_, _, rfl, by rw [Rep], ?_⟩
    rw [Reps]
theorem rep_pr (A : AHp) (q : Pr) : Rep A (prTr q) (pairV q) := by
  obtain ⟨o, x⟩ := q
  show Rep A (.tup [oT o, xT x]) (.tup [oV o, xV x])
  rw [Rep]
  refine ⟨_, rfl, ?_⟩
  rw [Reps]; refine ⟨_, _, rfl, rep_oT A o, ?_⟩
  rw [Reps]; refine ⟨_, _, rfl, by cases x <;> (unfold xT xV; rw [Rep]), ?_⟩
  rw [Reps]
theorem reps_map {α : Type} {A : AHp} (f : α → T) (g : α → AV) (h : ∀ x, Rep A (f x) (g x)) : ∀ l : List α, Reps A (l.map f) (l.map g)
  | [] => by rw [List.map_nil, List.map_nil, Reps]
  | x :: l => by
    rw [List.map_cons, List.map_cons, Reps]
    exact ⟨_, _, rfl, h x, reps_map f g h l⟩
theorem rep_lay (A : AHp) (es : List (Pth × Row)) (qs : List Pr) : Rep A (layTr es qs) (layV es qs) := by
  unfold layTr layV
  rw [Rep]
  refine ⟨_, rfl, ?_⟩
  rw [Reps]; refine ⟨_, _, rfl, by rw [Rep]; exact ⟨_, rfl, reps_map _ _ (rep_ent A) es⟩, ?_⟩
  rw [Reps]; refine ⟨_, _, rfl, by rw [Rep]; exact ⟨_, rfl, reps_map _ _ (rep_pr A) qs⟩, ?_⟩
  rw [Reps]
theorem noBs_map {α : Type} (f : α → T) : ∀ l : List α, (∀ x ∈ l, noB (f x) = true) → noBs (l.map f) = true
  | [], _ => rfl
  | x :: l, h => by rw [List.map_cons, noBs, h x (by simp), noBs_map f l fun y hy => h y (by simp [hy])]; rfl
theorem okTs_map {α : Type} (f : α → T) : ∀ l : List α, (∀ x ∈ l, okT (f x) = true) → okTs (l.map f) = true
  | [], _ => rfl
  | x :: l, h => by rw [List.map_cons, okTs, h x (by simp), okTs_map f l fun y hy => h y (by simp [hy])]; rfl
theorem deps_map {α : Type} (f : α → T) (m : Nat) : ∀ l : List α, (∀ x ∈ l, dep (f x) ≤ m) → deps (l.map f) ≤ m
  | [], _ => by rw [List.map_nil, deps]; omega
  | x :: l, h => by
    rw [List.map_cons, deps]
    have h1 := h x (by simp)
    have h2 := deps_map f m l fun y hy => h y (by simp [hy])
    omega
theorem ent_facts {np : Nat} {x : Pth × Row} (h : okE np x) : noB (entTr x) = true ∧ okT (entTr x) = true ∧ dep (entTr x) ≤ 2 := by
  obtain ⟨p, r⟩ := x
  obtain ⟨h1, h2, h3⟩ := h
  dsimp only at h1 h2 h3
  have a1 : noB (paT p) = true := by unfold paT; rw [noB]; exact noBs_strV p
  have a2 : okT (paT p) = true := by unfold paT; rw [okT]; exact okTs_strV h1.ok
  have a3 : dep (paT p) ≤ 1 := by unfold paT; rw [dep, deps_strV]; omega
  cases r with
  | fol o =>
    have b1 := noB_oT o
    have b2 := okT_oT (o := o) h3
    have b3 := dep_oT o
    refine ⟨?_, ?_, ?_⟩
    · show noB (.tup [paT p, .str foldW, oT o]) = true
      simp [noB, noBs, a1, b1]
    · show okT (.tup [paT p, .str foldW, oT o]) = true
      simp [okT, okTs, a2, b2]; decide
    · show dep (.tup [paT p, .str foldW, oT o]) ≤ 2
      simp [dep, deps]; omega
  | fil n =>
    refine ⟨?_, ?_, ?_⟩
    · show noB (.tup [paT p, .str fileW, .int n]) = true
      simp [noB, noBs, a1]
    · show okT (.tup [paT p, .str fileW, .int n]) = true
      simp [okT, okTs, a2]; decide
    · show dep (.tup [paT p, .str fileW, .int n]) ≤ 2
      simp [dep, deps]; omega
  | gone =>
    refine ⟨?_, ?_, ?_⟩
    · show noB (.tup [paT p, .str goneW]) = true
      simp [noB, noBs, a1]
    · show okT (.tup [paT p, .str goneW]) = true
      simp [okT, okTs, a2]; decide
    · show dep (.tup [paT p, .str goneW]) ≤ 2
      simp [dep, deps]; omega
theorem pr_facts {q : Pr} (h : okPr q) : noB (prTr q) = true ∧ okT (prTr q) = true ∧ dep (prTr q) ≤ 2 := by
  obtain ⟨o, x⟩ := q
  obtain ⟨h1, h2, _, _⟩ := h
  dsimp only at h1 h2
  have b1 := noB_oT o
  have b2 := okT_oT (o := o) h1
  have b3 := dep_oT o
  have c1 : noB (xT x) = true := by cases x <;> rfl
  have c2 : okT (xT x) = true := by
    cases x with
    | none => rfl
    | some t =>
      show okS t = true
      unfold okS
      exact List.all_eq_true.mpr fun c hc => decide_eq_true (ch_text (h2 t rfl).2 c hc).2
  have c3 : dep (xT x) = 0 := by cases x <;> rfl
  refine ⟨?_, ?_, ?_⟩
  · show noB (.tup [oT o, xT x]) = true
    simp [noB, noBs, b1, c1]
  · show okT (.tup [oT o, xT x]) = true
    simp [okT, okTs, b2, c2]
  · show dep (.tup [oT o, xT x]) ≤ 2
    simp [dep, deps, c3]; omega
theorem lay_facts {es : List (Pth × Row)} {qs : List Pr} (ok : okL es qs) : noB (layTr es qs) = true ∧ okT (layTr es qs) = true ∧ dep (layTr es qs) < 40 := by
  have e1 := noBs_map entTr es fun x hx => (ent_facts (ok.okE x hx)).1
  have e2 := okTs_map entTr es fun x hx => (ent_facts (ok.okE x hx)).2.1
  have e3 := deps_map entTr 2 es fun x hx => (ent_facts (ok.okE x hx)).2.2
  have q1 := noBs_map prTr qs fun x hx => (pr_facts (ok.pr x hx)).1
  have q2 := okTs_map prTr qs fun x hx => (pr_facts (ok.pr x hx)).2.1
  have q3 := deps_map prTr 2 qs fun x hx => (pr_facts (ok.pr x hx)).2.2
  unfold layTr
  refine ⟨by simp [noB, noBs, e1, q1], by simp [okT, okTs, e2, q2], by simp [dep, deps]; omega⟩
theorem eq_lay {es es' : List (Pth × Row)} {qs qs' : List Pr} (ok : okL es qs) (ok' : okL es' qs') (A : AHp) : ∃ b, eqB (layV es qs) (layV es' qs') A = some b ∧ (b = true ↔ es = es' ∧ qs = qs') := by
  obtain ⟨n1, o1, d1⟩ := lay_facts ok
  obtain ⟨n2, o2, d2⟩ := lay_facts ok'
  refine ⟨_, eqB_T (rep_lay A es qs) (rep_lay A es' qs') n1 n2 o1 o2 d1 d2, fun h => layTr_inj (same_eq n2 n1 h), ?_⟩
  rintro ⟨rfl, rfl⟩
  exact same_refl n1
theorem layT_inj {es es' : List (Pth × Row)} {qs qs' : List Pr} (ok : okL es qs) (ok' : okL es' qs') (h : layT es qs = layT es' qs') : es = es' ∧ qs = qs' := by
  have h1 := rowsOf_T ok
  rw [h, rowsOf_T ok'] at h1
  have h2 := layRead_rows ok
  rw [← h1, layRead_rows ok'] at h2
  injection h2 with h2
  injection h2 with a b
  exact ⟨a.symm, b.symm⟩
end Law
end
section
namespace Law
open PySem PySem.Spec L2 Ev
set_option autoImplicit false
/-! the rows that are no files -/
def marks (es : List (Pth × Row)) : List (Pth × Row) := es.filter fun x => !isFil x.2
theorem marks_sub (es : List (Pth × Row)) (m : Nat) : ((marks es).take m).Sublist es := (List.take_sublist _ _).trans List.filter_sublist
theorem okL_marks {es : List (Pth × Row)} {qs : List Pr} (ok : okL es qs) (m : Nat) : okL ((marks es).take m) [] := by
  have hsub := marks_sub es m
  have hmem : ∀ x ∈ (marks es).take m, x ∈ es ∧ isFil x.2 = false := fun x hx => by
    have := List.mem_filter.mp (List.mem_of_mem_take hx)
    exact ⟨this.1, by simpa using this.2⟩
  refine ⟨ok.srt.sublist (hsub.map _), fun x hx => ?_, fun x hx => ?_, fun x hx h8 => ok.len x (hmem x hx).1 h8, fun q hq => (by cases hq), List.nodup_nil, fun i x h => (by simp at h), Nat.le_trans hsub.length_le ok.le, by simp⟩
  · obtain ⟨h1, h2⟩ := hmem x hx
    obtain ⟨r1, r2, r3, r4⟩ := ok.row x h1
    refine ⟨r1, r2, r3, ?_⟩
    obtain ⟨p, r⟩ := x
    cases r with
    | fol o => exact r4
    | fil n => cases h2
    | gone => trivial
  · obtain ⟨h1, h2⟩ := hmem x hx
    obtain ⟨_, r2, _, _⟩ := ok.row x h1
    rcases ok.par x h1 with z | ⟨o, z⟩
    · exact .inl z
    · refine .inr ⟨o, ?_⟩
      have hz : (x.1.dropLast, Row.fol o) ∈ marks es := List.mem_filter.mpr ⟨z, rfl⟩
      have hs : ((marks es).map Prod.fst).Pairwise (· < ·) := ok.srt.sublist ((List.filter_sublist (l := es)).map _)
      rw [← List.take_append_drop m (marks es)] at hz hs
      rcases List.mem_append.mp hz with h | h
      · exact h
      · exfalso
        rw [List.map_append, List.pairwise_append] at hs
        have h3 := hs.2.2 x.1 (List.mem_map.mpr ⟨x, hx, rfl⟩) x.1.dropLast (List.mem_map.mpr ⟨_, h, rfl⟩)
        have hne : x.1 = x.1.dropLast ++ [x.1.getLast (by intro z; rw [z] at r2; simp at r2)] := (List.dropLast_concat_getLast _).symm
        refine not_lt_pre x.1.dropLast [x.1.getLast (by intro z; rw [z] at r2; simp at r2)] ?_
        rwa [← hne]
theorem okL_all {es : List (Pth × Row)} {qs : List Pr} (ok : okL es qs) : okL (marks es) [] := by
  have := okL_marks ok (marks es).length
  rwa [List.take_length] at this
/-- a text's first rows -/
theorem part_rows {M : List (Pth × Row)} (ok : okL M []) (m : Nat) (hm : m ≤ M.length) : (splitL 10 (layT M [])).take m = rowsT (M.take m) [] := by
  by_cases h0 : M = []
  · subst h0
    have : m = 0 := by simpa using hm
    subst this
    rfl
  · have hr := rowsOf_T ok
    have hne : layT M [] ≠ [] := by
      intro z
      rw [z] at hr
      have : rowsT M [] = [] := hr.symm
      simp [rowsT] at this
      exact h0 this
    unfold rowsOf at hr
    rw [if_neg hne] at hr
    rw [hr]
    unfold rowsT
    simp [List.map_take]
end Law
end
section
namespace Law
open PySem PySem.Spec L2 Ev
set_option autoImplicit false
section
variable {k : Nat} {A : AHp}
/-- one of the two layers: written, read, written again -/
theorem one_R {es : List (Pth × Row)} {qs : List Pr} (ok : okL es qs) {tx : Nat} {xs : List AV} (g : gt A tx = some (.lst xs false)) (hx : xs.length ≤ 10) (s0 v1 v2 x5 x6 x7 x8 x9 : Option AV) :
    ∃ B, f7_21_l0 (R 39) [s0, v1, v2, some (.ref tx), some (layV es qs), x5, x6, x7, x8, x9] A = .nx [s0, v1, v2, some (.ref tx), some (layV es qs), some (.str (S (layT es qs))), x6, x7, x8, x9] B ∧ gt B tx = some (.lst (xs ++ [.str (S (layT es qs))]) false) ∧ Fr [tx] A B := by
  have lq : qs.length ≤ 200 := by have := ok.lq; omega
  obtain ⟨A1, e1, f1⟩ := laytext_R (k := 39) (by omega) ok.okE ok.pr ok.le lq A
  obtain ⟨A2, e2, f2⟩ := back_R (k := 39) (by omega) ok A1
  obtain ⟨A3, e3, f3⟩ := alike_R 4 39 _ (by omega) (pv_lay ok) A2
  obtain ⟨A4, e4, f4⟩ := back_R (k := 39) (by omega) ok A3
  obtain ⟨A5, e5, f5⟩ := laytext_R (k := 39) (by omega) ok.okE ok.pr ok.le lq A4
  have F := (((f1.trans f2).trans f3).trans f4).trans f5
  have g5 := F.gt g (by simp)
  have hlt := gt_lt g5
  have app : mAppend (.ref tx) [.str (S (layT es qs))] A5 = some (.non, A5.set tx (.lst (xs ++ [.str (S (layT es qs))]) false)) := by
    rw [e_append, g5]
    exact appL_ok (by omega)
  refine ⟨A5.set tx (.lst (xs ++ [.str (S (layT es qs))]) false), ?_, gt_set hlt, (fr_wide F).trans (Fr.set (by simp))⟩
  simp [f7_21_l0, e1, e2, e3, e4, e5, g5, app, -e_append]
/-- a part of the rows that are no files -/
theorem part_R {M : List (Pth × Row)} (ok : okL M []) (hok : ∀ m, okL (M.take m) []) (m : Nat) (hm : m ≤ M.length) (s0 v1 v2 x3 x4 x7 x9 : Option AV) :
    ∃ B, f7_21_l2 (R 39) [s0, v1, v2, x3, x4, some (.str (S (layT M []))), some (.tup (M.map entV)), x7, some (.int m), x9] A = .nx [s0, v1, v2, x3, x4, some (.str (S (layT M []))), some (.tup (M.map entV)), x7, some (.int m), some (.str (S (layT (M.take m) [])))] B ∧ Fr [] A B := by
  have hl := layT_len ok
  have okm := hok m
  obtain ⟨A1, hA1⟩ : ∃ A1, A1 = A ++ [.lst (strV (splitL 10 (layT M []))) false] := ⟨_, rfl⟩
  have F1 : Fr [] A A1 := by rw [hA1]; exact Fr.app _ _ _
  have g1 : gt A1 A.length = some (.lst (strV (splitL 10 (layT M []))) false) := by rw [hA1]; exact gt_new
  have es : mSplit (.str (S (layT M []))) [.str (S [10])] A = some (.ref A.length, A1) := by
    rw [e_split _ _ _ (by omega) (by omega), hA1]
    rfl
  obtain ⟨A2, hA2⟩ : ∃ A2, A2 = A1 ++ [.lst (strV ((splitL 10 (layT M [])).take m)) false] := ⟨_, rfl⟩
  have F2 : Fr [] A1 A2 := by rw [hA2]; exact Fr.app _ _ _
  have g2 : gt A2 A1.length = some (.lst (strV ((splitL 10 (layT M [])).take m)) false) := by rw [hA2]; exact gt_new
  have sl : pSl (.ref A.length) none (some (m : Int)) A1 = some (.ref A1.length, A2) := by
    rw [e_slR, g1]
    dsimp only
    rw [cut_to (h := by omega), Int.toNat_natCast, hA2]
    unfold strV
    rw [List.map_take]
  have hj : joinA [10] (strV ((splitL 10 (layT M [])).take m)) A2 = some (.str (S (layT (M.take m) [])), A2) := by
    rw [part_rows ok m hm]
    exact join_rows okm.okE okm.pr okm.le (by simp) A2
  have sl2 : pSl (.tup (M.map entV)) none (some (m : Int)) A2 = some (.tup ((M.take m).map entV), A2) := by
    rw [e_slT, cut_to (h := by omega), Int.toNat_natCast, List.map_take]
  obtain ⟨A3, e3, f3⟩ := back_R (k := 39) (by omega) okm A2
  obtain ⟨A4, e4, f4⟩ := alike_R 4 39 _ (by omega) (pv_lay okm) A3
  have sl3 : pSl (.tup (M.map entV)) none (some (m : Int)) A3 = some (.tup ((M.take m).map entV), A3) := by
    rw [e_slT, cut_to (h := by omega), Int.toNat_natCast, List.map_take]
  have e4' : R 39 116 [layV (M.take m) [], .tup [.tup ((M.map entV).take m), .tup []]] A3 = .ok (.bl true) A4 := by rw [← List.map_take]; exact e4
  refine ⟨A4, ?_, ((F1.trans F2).trans f3).trans f4⟩
  simp [f7_21_l2, es, -e_split, sl, -e_slR, g2, hj, e3, sl3, -e_slT, e4']
end
theorem htrue (ns : List Int) (hl : ns.length ≤ 63) : ∃ A', R 40 7 [scriptV ns] [] = .ok (.bl true) A' := by
  unfold scriptV
  obtain ⟨es, qs, A1, e1, ok, f1, _⟩ := layer_R (k := 39) (by omega) (A := []) (sv := .kl (ns.map .int)) (ns := ns) (.inl rfl) hl
  obtain ⟨es2, qs2, A2, e2, ok2, f2, _⟩ := layer_R (k := 39) (by omega) (A := A1 ++ [.lst ((ns.reverse).map .int) false]) (sv := .ref A1.length) (ns := ns.reverse) (.inr ⟨_, rfl, gt_new⟩) (by simpa using hl)
  rw [List.map_reverse] at e2
  obtain ⟨A3, hA3⟩ : ∃ A3, A3 = A2 ++ [.lst [] false] := ⟨_, rfl⟩
  obtain ⟨tx, htx⟩ : ∃ tx, tx = A2.length := ⟨_, rfl⟩
  have g3 : gt A3 tx = some (.lst [] false) := by rw [hA3, htx]; exact gt_new
  have l3 : A3.length = tx + 1 := by rw [hA3, htx]; simp
  obtain ⟨A4, hA4⟩ : ∃ A4, A4 = A3 ++ [.lst [layV es qs, layV es2 qs2] false] := ⟨_, rfl⟩
  have g4 : gt A4 tx = some (.lst [] false) := by rw [hA4, gt_app (by omega)]; exact g3
  have gi : gt A4 (tx + 1) = some (.lst [layV es qs, layV es2 qs2] false) := by rw [hA4, ← l3]; exact gt_new
  obtain ⟨sc, hsc⟩ : ∃ sc, sc = some (AV.kl (ns.map .int)) := ⟨_, rfl⟩
  have lr := loop_run (src := srcL (tx + 1)) (g := gNm 4) (body := f7_21_l0 (R 39)) [layV es qs, layV es2 qs2]
    (fun i τ B => Fr [tx] A4 B ∧ gt B tx = some (.lst ([AV.str (S (layT es qs)), .str (S (layT es2 qs2))].take i) false) ∧ ∃ x4 x5, τ = [sc, some (layV es qs), some (layV es2 qs2), some (.ref tx), x4, x5, none, none, none, none])
    (fun q => ∃ x4 x5 B, q = .nx [sc, some (layV es qs), some (layV es2 qs2), some (.ref tx), x4, x5, none, none, none, none] B ∧ Fr [tx] A4 B ∧ gt B tx = some (.lst [AV.str (S (layT es qs)), .str (S (layT es2 qs2))] false))
    (fun i τ B hi ⟨hF, hE, x4, x5, hτ⟩ => by
      subst hτ
      have gB := hF.gt gi (by simp)
      refine ⟨src_L gB i, fun x hx => ?_⟩
      have hi2 : i = 0 ∨ i = 1 := by
        have := (List.getElem?_eq_some_iff.mp hx).1
        simp at this
        omega
      rcases hi2 with rfl | rfl
      · cases hx
        obtain ⟨C, q1, q2, q3⟩ := one_R (A := B) ok hE (by simp) sc (some (layV es qs)) (some (layV es2 qs2)) x5 none none none none
        refine ⟨[sc, some (layV es qs), some (layV es2 qs2), some (.ref tx), some (layV es qs), x5, none, none, none, none], by simp, ?_⟩
        rw [q1]
        exact ⟨hF.trans q3, q2, _, _, rfl⟩
      · cases hx
        obtain ⟨C, q1, q2, q3⟩ := one_R (A := B) ok2 hE (by simp) sc (some (layV es qs)) (some (layV es2 qs2)) x5 none none none none
        refine ⟨[sc, some (layV es qs), some (layV es2 qs2), some (.ref tx), some (layV es2 qs2), x5, none, none, none, none], by simp, ?_⟩
        rw [q1]
        exact ⟨hF.trans q3, q2, _, _, rfl⟩)
    (fun τ B ⟨hF, hE, x4, x5, hτ⟩ => ⟨x4, x5, B, by rw [hτ], hF, hE⟩)
    (τ := [sc, some (layV es qs), some (layV es2 qs2), some (.ref tx), none, none, none, none, none, none]) (A0 := A4) ⟨Fr.refl _ _, g4, none, none, rfl⟩
  obtain ⟨x4, x5, B5, e5, F5, g5⟩ := lr
  have i0 : pIx (.ref tx) (.int 0) B5 = some (.str (S (layT es qs)), B5) := by rw [e_ixRI, g5]; rfl
  have i1 : pIx (.ref tx) (.int 1) B5 = some (.str (S (layT es2 qs2)), B5) := by rw [e_ixRI, g5]; rfl
  have hq : eqB (layV es qs) (layV es2 qs2) B5 = some (decide (layT es qs = layT es2 qs2)) := by
    obtain ⟨b, hb, hiff⟩ := eq_lay ok ok2 B5
    rw [hb]
    refine congrArg some ?_
    rw [Bool.eq_iff_iff, hiff, decide_eq_true_iff]
    exact ⟨fun h => by rw [h.1, h.2], fun h => layT_inj ok ok2 h⟩
  have le := ok.le
  obtain ⟨M, hM⟩ : ∃ M, M = marks es := ⟨_, rfl⟩
  have okM : okL M [] := by rw [hM]; exact okL_all ok
  have okT : ∀ m, okL (M.take m) [] := fun m => by rw [hM]; exact okL_marks ok m
  have lM := okM.le
  obtain ⟨A6, q1, q2, q3⟩ := comp_fr (src := srcC (es.map entV)) (g := gNm 7) (t := dTB (dBin pNe (dBin pIx (dVar 7) (dC (.int 1))) (dC (.str (S [102, 105, 108, 101]))))) (e := dVar 7) (τ := [sc, some (layV es qs), some (layV es2 qs2), some (.ref tx), x4, x5, none, none, none, none]) (l := es) entV entV (fun x => !isFil x.2) (A := B5) (by omega) (fun B i hF => rfl) (fun B x hx hF => by
    obtain ⟨pa, r⟩ := x
    refine ⟨[sc, some (layV es qs), some (layV es2 qs2), some (.ref tx), x4, x5, none, some (entV (pa, r)), none, none], B, by simp, ?_, Fr.refl _ _, fun _ => ⟨B, by simp, Fr.refl _ _⟩⟩
    cases r <;> simp [entV, rowV, isFil])
  have cc : f7_21_c1 (R 39) [sc, some (layV es qs), some (layV es2 qs2), some (.ref tx), x4, x5, none, none, none, none] B5 = .ok (.ref B5.length) A6 := by
    unfold f7_21_c1 dLc
    unfold layV at q1 ⊢
    simp [wipeA, q1]
  have gM : gt A6 B5.length = some (.lst (M.map entV) false) := by rw [q2, hM]; rfl
  obtain ⟨A7, e7, f7⟩ := laytext_R (k := 39) (by omega) okM.okE okM.pr okM.le (by simp) A6
  have e7' : R 39 138 [.tup [.tup (M.map entV), .tup []]] A6 = .ok (.str (S (layT M []))) A7 := e7
  obtain ⟨A8, hA8⟩ : ∃ A8, A8 = A7 ++ [.lst [.int 0, .int ((M.length : Int) / 2), .int M.length] false] := ⟨_, rfl⟩
  have g8 : gt A8 A7.length = some (.lst [.int 0, .int ((M.length : Int) / 2), .int M.length] false) := by rw [hA8]; exact gt_new
  have lr2 := loop_run (src := srcL A7.length) (g := gNm 8) (body := f7_21_l2 (R 39)) [.int 0, .int ((M.length : Int) / 2), .int M.length]
    (fun i τ B => Fr [] A8 B ∧ ∃ x8 x9, τ = [sc, some (layV es qs), some (layV es2 qs2), some (.ref tx), x4, some (.str (S (layT M []))), some (.tup (M.map entV)), none, x8, x9])
    (fun q => ∃ σ B, q = .nx σ B)
    (fun i τ B hi ⟨hF, x8, x9, hτ⟩ => by
      subst hτ
      have gB := hF.gt g8 (by simp)
      refine ⟨src_L gB i, fun x hx => ?_⟩
      obtain ⟨m, rfl, hm⟩ : ∃ m : Nat, x = .int m ∧ m ≤ M.length := by
        have hmem := List.mem_of_getElem? hx
        simp at hmem
        rcases hmem with rfl | rfl | rfl
        · exact ⟨0, rfl, by omega⟩
        · exact ⟨M.length / 2, by rw [Int.natCast_ediv]; rfl, by omega⟩
        · exact ⟨M.length, rfl, Nat.le_refl _⟩
      obtain ⟨C, p1, p2⟩ := part_R (A := B) okM okT m hm sc (some (layV es qs)) (some (layV es2 qs2)) (some (.ref tx)) x4 none x9
      refine ⟨[sc, some (layV es qs), some (layV es2 qs2), some (.ref tx), x4, some (.str (S (layT M []))), some (.tup (M.map entV)), none, some (.int m), x9], by simp, ?_⟩
      rw [p1]
      exact ⟨hF.trans p2, _, _, rfl⟩)
    (fun τ B _ => ⟨τ, B, rfl⟩)
    (τ := [sc, some (layV es qs), some (layV es2 qs2), some (.ref tx), x4, some (.str (S (layT M []))), some (.tup (M.map entV)), none, none, none]) (A0 := A8) ⟨Fr.refl _ _, none, none, rfl⟩
  obtain ⟨σ9, A9, e9⟩ := lr2
  refine ⟨A9, ?_⟩
  rw [R7]
  have hA4' : A2 ++ [.lst [] false, .lst [layV es qs, layV es2 qs2] false] = A4 := by rw [hA4, hA3]; simp
  simp [runBody_eq, f7_21, e1, e2]
  rw [hA4', ← hsc, ← htx]
  simp at e5 e9
  rw [e5]
  simp [i0, i1, -e_ixRI, hq, cc, gM, e7', ← hA8, g8, e9]
end Law
end
theorem PySem.Challenge.cw_overfold_k25_whole_written_and_read_holds : PySem.Challenge.rw_overfold_k25_whole_written_and_read.Holds := by
  exact holds_of Law.htrue
