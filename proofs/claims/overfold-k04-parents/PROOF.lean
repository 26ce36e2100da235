import PyProof.Rows.All
import Wide.All
import OpenK.AllK
import Wide.FinOn
import HandS.ForMost
import HandS.ForExc
import HandS.Defaults
import HandS.TupAny
import HandS.Flow
import HandS.Deep
import HandS.IsInst
import HandS.SetKeys
import HandS.TupLen
import HandS.DictTup
import HandS.More
import HandS.Conv
import HandS.Zip
import KE.KStateDown
import Lean
import HandS.Head0
import HandS.Head1
import HandS.Head2
import HandS.HeadEnd
import HandS.HeadHook1
import HandS.HeadHook2
import PySem.Challenge.RW_overfold_k04_parents_and_beginnings
set_option Elab.async false
set_option linter.all false
set_option maxRecDepth 100000
set_option maxHeartbeats 4000000
section
/-! Ev, first part: own values, the abstract heap, results, and how they stand to the hand layer's. -/
namespace Ev
open PySem PySem.Spec L2
set_option autoImplicit false

inductive AV where
  | non | bl (b : Bool) | int (i : Int) | str (x : Str) | tup (xs : List AV) | ktup (xs : List AV) | kl (xs : List AV) | ref (n : Nat) | exc (c : Nat) (r : Option Int) | ty (n : String) | cls (c : Nat)
  deriving Inhabited
inductive AK where
  | k (x : Key) | t (xs : List Key)
  deriving DecidableEq
inductive AO where
  | lst (xs : List AV) (ro : Bool)
  | dict (kvs : List (AK × AV)) (lk : Bool)
  | ins (c : Nat) (fs : List (Nat × AV))
abbrev AHp := List AO
abbrev ASt := List (Option AV)
inductive Res (α : Type) where
  | ok (a : α) (A : AHp) | err (c : Nat) (r : Option Int) (A : AHp) | bad
inductive SR where
  | nx (σ : ASt) (A : AHp) | rt (v : AV) (A : AHp) | bk (σ : ASt) (A : AHp) | ct (σ : ASt) (A : AHp) | er (σ : ASt) (c : Nat) (r : Option Int) (A : AHp) | bad
abbrev M (α : Type) := AHp → Res α
abbrev Den (α : Type) := ASt → AHp → Res α
abbrev SDen := ASt → AHp → SR
def Res.bind {α β : Type} (r : Res α) (g : α → AHp → Res β) : Res β := match r with
  | .ok a A => g a A
  | .err c x A => .err c x A
  | .bad => .bad
@[simp] theorem Res.bind_ok {α β : Type} (a : α) (A : AHp) (g : α → AHp → Res β) : (Res.ok a A).bind g = g a A := (rfl)
@[simp] theorem Res.bind_err {α β : Type} (c : Nat) (x : Option Int) (A : AHp) (g : α → AHp → Res β) : (Res.err c x A : Res α).bind g = .err c x A := (rfl)
@[simp] theorem Res.bind_bad {α β : Type} (g : α → AHp → Res β) : (Res.bad : Res α).bind g = .bad := (rfl)

/-- the program's names: where its classes stand, its fields' names, the field of an error class -/
structure En where
  K : PySem.W.Frag
  cad : Nat → Addr
  fnm : Nat → Str
  finj : ∀ i j, fnm i = fnm j → i = j
  efl : Nat → Str
  isC : Nat → Bool
  isF : Nat → Bool
  clsOk : ∀ c, isC c = true → Cls K (cad c)
  noat : ∀ c f, isC c = true → isF f = true → NoAttr K (cad c) (fnm f)
  mnm : Nat → Str
  mnf : ∀ m f, isF f = true → fnm f ≠ mnm m
  sub : Nat → Nat → Option Bool
  subB : Nat → String → Option Bool
  bsub : String → Nat → Option Bool
  subOk : ∀ c c' b, isC c = true → sub c c' = some b → PySem.W.kitOne K (.ref (cad c)) (.ref (cad c')) = some b
  subBOk : ∀ c n b, isC c = true → subB c n = some b → PySem.W.kitOne K (.ref (cad c)) (.type n) = some b
  bsubOk : ∀ n c b, bsub n c = some b → PySem.W.kitOne K (.type n) (.ref (cad c)) = some b
  insF : ∀ c, isC c = true → PySem.W.findIn K (.ref (cad c)) "__class__" = some (some (.builtin "object.__class__")) ∧ PySem.W.specialIn K (.builtin "object.__class__") "__get__" = some (some (.builtin "getset_descriptor.__get__")) ∧
    PySem.W.takesIn K (.builtin "object.__class__") = some true ∧ PySem.W.mroIn K (cad c) (.type "object") = some true

/-- what never changes once it stands -/
def fixd : HO → Bool
  | .tup _ => true
  | .ext _ => true
  | .xd _ => true
  | .frz _ (.tup _) => true
  | .frz _ (.lst _) => true
  | _ => false
/-- the exception object: its class and its own dict -/
def exφ (a : Addr) (cls : Value) (d : Option Addr) : Heap → Prop := fun h => ∃ oe, h.get? a = some oe ∧ oe.cls = cls ∧ oe.dict = d ∧ ∃ vs, oe.data = .fields vs
/-- a list that nothing writes: the law's argument -/
def SqF (K : PySem.W.Frag) (H : Hp) (a : Addr) (xs : List V) : Prop := (∃ o, H a = some (.frz o (.lst xs))) ∨ SqL K (fun _ => none) a xs
theorem SqF.sq {K : PySem.W.Frag} {H : Hp} {a : Addr} {xs : List V} (h : SqF K H a xs) : SqL K H a xs := by
  rcases h with ⟨o, h⟩ | (h | ⟨o, h⟩) | h
  · exact .inl (.inr ⟨o, h⟩)
  · cases h
  · cases h
  · exact .inr h
theorem SqF.of {K : PySem.W.Frag} {H : Hp} {a : Addr} {xs : List V} (hO : Only H) (h : SqL K H a xs) : SqF K H a xs := by
  rcases h with (h | ⟨o, h⟩) | h
  · rcases hO a with z | ⟨_, _, z⟩ <;> (rw [h] at z; cases z)
  · exact .inl ⟨o, h⟩
  · exact .inr (.inr h)
def RX (E : En) (H : Hp) (c : Nat) (r : Option Int) (d : Option Addr) : Prop := match r with
  | none => d = none
  | some i => ∃ dd, d = some dd ∧ H dd = some (.xd [(E.efl c, V.int i)])

section
variable (E : En) (ρ : List Addr) (H : Hp)
mutual
def RV : AV → V → Prop
  | .non, v => v = .non
  | .bl b, v => v = .bl b
  | .int i, v => v = .int i
  | .str x, v => v = .str x
  | .tup xs, v => ∃ a ys, v = .ref a ∧ H a = some (.tup ys) ∧ RVs xs ys
  | .ktup xs, v => ∃ a ys, v = .ref a ∧ SqT E.K H a ys ∧ RVs xs ys
  | .kl xs, v => ∃ a ys, v = .ref a ∧ SqF E.K H a ys ∧ RVs xs ys
  | .ref n, v => ∃ a, ρ[n]? = some a ∧ v = .ref a
  | .exc c r, v => ∃ a d, v = .ref a ∧ H a = some (.ext (exφ a (.ref (E.cad c)) d)) ∧ RX E H c r d
  | .ty n, v => v = .ty n
  | .cls c, v => v = .ref (E.cad c)
def RVs : List AV → List V → Prop
  | [], vs => vs = []
  | x :: xs, vs => ∃ y ys, vs = y :: ys ∧ RV x y ∧ RVs xs ys
end
def RK : List (AK × AV) → List (Key × V) → Prop
  | [], l => l = []
  | (k, v) :: r, l => ∃ k' v' r', l = (k', v') :: r' ∧ k = .k k' ∧ RV E ρ H v v' ∧ RK r r'
def RT : List (AK × AV) → List (List Key × V) → Prop
  | [], l => l = []
  | (k, v) :: r, l => ∃ k' v' r', l = (k', v') :: r' ∧ k = .t k' ∧ RV E ρ H v v' ∧ RT r r'
def RF : List (Nat × AV) → List (Str × V) → Prop
  | [], l => l = []
  | (k, v) :: r, l => ∃ v' r', l = (E.fnm k, v') :: r' ∧ RV E ρ H v v' ∧ RF r r'
/-- a dict that may be written, or one that a loop holds -/
def AtD (a : Addr) (lk : Bool) (u : HO) : Prop := if lk = true then ∃ od, H a = some (.frz od u) else H a = some u
def RO : AO → Addr → Prop
  | .lst xs ro, a => ∃ ys, RVs E ρ H xs ys ∧ H a = some (.lst ys)
  | .dict kvs lk, a => (∃ kv', RK E ρ H kvs kv' ∧ AtD H a lk (.dK kv')) ∨ ∃ kv', RT E ρ H kvs kv' ∧ AtD H a lk (.dT kv')
  | .ins c fs, a => ∃ dx fs', H a = some (.ins (E.cad c) dx fs') ∧ RF E ρ H fs fs' ∧ E.isC c = true ∧ ∀ p ∈ fs, E.isF p.1 = true
structure RH (A : AHp) : Prop where
  len : ρ.length = A.length
  nd : ρ.Nodup
  at_ : ∀ (n : Nat) (o : AO) (a : Addr), A[n]? = some o → ρ[n]? = some a → RO E ρ H o a
structure RS (σa : ASt) (σ : St) : Prop where
  len : σa.length = σ.length
  at_ : ∀ (i : Nat) (x : AV), σa[i]? = some (some x) → ∃ v, σ[i]? = some (some v) ∧ RV E ρ H x v
end
/-- more addresses, the fixed things kept -/
structure Ext (ρ : List Addr) (H : Hp) (ρ' : List Addr) (H' : Hp) : Prop where
  pre : ∀ (n : Nat) (a : Addr), ρ[n]? = some a → ρ'[n]? = some a
  fx : ∀ (a : Addr) (o : HO), H a = some o → fixd o = true → H' a = some o
theorem Ext.refl (ρ : List Addr) (H : Hp) : Ext ρ H ρ H := ⟨fun _ _ h => h, fun _ _ h _ => h⟩
theorem Ext.trans {ρ ρ1 ρ2 : List Addr} {H H1 H2 : Hp} (a : Ext ρ H ρ1 H1) (b : Ext ρ1 H1 ρ2 H2) : Ext ρ H ρ2 H2 :=
  ⟨fun n x h => b.pre n x (a.pre n x h), fun x o h f => b.fx x o (a.fx x o h f) f⟩

section
variable {E : En} {ρ ρ' : List Addr} {H H' : Hp}
theorem SqT.ext {K : PySem.W.Frag} {a : Addr} {ys : List V} (x : ∀ a o, H a = some o → fixd o = true → H' a = some o) (h : SqT K H a ys) : SqT K H' a ys := by
  rcases h with (h | ⟨o, h⟩) | h
  · exact .inl (.inl (x _ _ h rfl))
  · exact .inl (.inr ⟨o, x _ _ h rfl⟩)
  · exact .inr h
theorem SqF.ext {K : PySem.W.Frag} {a : Addr} {ys : List V} (x : ∀ a o, H a = some o → fixd o = true → H' a = some o) (h : SqF K H a ys) : SqF K H' a ys := by
  rcases h with ⟨o, h⟩ | h
  · exact .inl ⟨o, x _ _ h rfl⟩
  · exact .inr h
mutual
theorem RV.ext (x : Ext ρ H ρ' H') : ∀ {v : AV} {u : V}, RV E ρ H v u → RV E ρ' H' v u
  | .non, _, h => h
  | .bl _, _, h => h
  | .int _, _, h => h
  | .str _, _, h => h
  | .tup xs, _, h => by
    obtain ⟨a, ys, e, s, r⟩ := h
    exact ⟨a, ys, e, x.fx _ _ s rfl, RVs.ext x r⟩
  | .ktup xs, _, h => by
    obtain ⟨a, ys, e, s, r⟩ := h
    exact ⟨a, ys, e, SqT.ext x.fx s, RVs.ext x r⟩
  | .kl xs, _, h => by
    obtain ⟨a, ys, e, s, r⟩ := h
    exact ⟨a, ys, e, SqF.ext x.fx s, RVs.ext x r⟩
  | .ref n, _, h => by
    obtain ⟨a, e, q⟩ := h
    exact ⟨a, x.pre n a e, q⟩
  | .exc c r, _, h => by
    obtain ⟨a, d, e, q, z⟩ := h
    refine ⟨a, d, e, x.fx _ _ q rfl, ?_⟩
    cases r with
    | none => exact z
    | some i =>
      obtain ⟨dd, e1, e2⟩ := z
      exact ⟨dd, e1, x.fx _ _ e2 rfl⟩
  | .ty _, _, h => h
  | .cls _, _, h => h
theorem RVs.ext (x : Ext ρ H ρ' H') : ∀ {vs : List AV} {us : List V}, RVs E ρ H vs us → RVs E ρ' H' vs us
  | [], _, h => h
  | v :: vs, _, h => by
    obtain ⟨y, ys, e, a, b⟩ := h
    exact ⟨y, ys, e, RV.ext x a, RVs.ext x b⟩
end
theorem RX.ext (x : Ext ρ H ρ' H') {c : Nat} {r : Option Int} {d : Option Addr} (h : RX E H c r d) : RX E H' c r d := by
  cases r with
  | none => exact h
  | some i =>
    obtain ⟨dd, e1, e2⟩ := h
    exact ⟨dd, e1, x.fx _ _ e2 rfl⟩
theorem RK.ext (x : Ext ρ H ρ' H') : ∀ {l : List (AK × AV)} {m : List (Key × V)}, RK E ρ H l m → RK E ρ' H' l m
  | [], _, h => h
  | (k, v) :: r, _, h => by
    obtain ⟨k', v', r', e, e2, a, b⟩ := h
    exact ⟨k', v', r', e, e2, a.ext x, b.ext x⟩
theorem RT.ext (x : Ext ρ H ρ' H') : ∀ {l : List (AK × AV)} {m : List (List Key × V)}, RT E ρ H l m → RT E ρ' H' l m
  | [], _, h => h
  | (k, v) :: r, _, h => by
    obtain ⟨k', v', r', e, e2, a, b⟩ := h
    exact ⟨k', v', r', e, e2, a.ext x, b.ext x⟩
theorem RF.ext (x : Ext ρ H ρ' H') : ∀ {l : List (Nat × AV)} {m : List (Str × V)}, RF E ρ H l m → RF E ρ' H' l m
  | [], _, h => h
  | (k, v) :: r, _, h => by
    obtain ⟨v', r', e, a, b⟩ := h
    exact ⟨v', r', e, a.ext x, b.ext x⟩
theorem RS.ext {σa : ASt} {σ : St} (h : RS E ρ H σa σ) (x : Ext ρ H ρ' H') : RS E ρ' H' σa σ :=
  ⟨h.len, fun i v e => let ⟨u, e2, r⟩ := h.at_ i v e; ⟨u, e2, r.ext x⟩⟩
theorem RS.set {σa : ASt} {σ : St} (h : RS E ρ H σa σ) (i : Nat) {x : AV} {v : V} (r : RV E ρ H x v) : RS E ρ H (σa.set i (some x)) (σ.set i (some v)) := by
  refine ⟨by rw [List.length_set, List.length_set]; exact h.len, fun j y e => ?_⟩
  by_cases hj : j = i
  · subst hj
    have hlt : j < σa.length := by
      have q := (List.getElem?_eq_some_iff.mp e).1
      rw [List.length_set] at q
      exact q
    rw [List.getElem?_set_self hlt] at e
    cases e
    exact ⟨v, by rw [List.getElem?_set_self (by rw [← h.len]; exact hlt)], r⟩
  · rw [List.getElem?_set_ne (Ne.symm hj)] at e
    obtain ⟨u, e2, q⟩ := h.at_ j y e
    exact ⟨u, by rw [List.getElem?_set_ne (Ne.symm hj)]; exact e2, q⟩
/-- forgetting locals -/
theorem RS.forget {σa : ASt} {σ : St} (h : RS E ρ H σa σ) (i : Nat) : RS E ρ H (σa.set i none) σ := by
  refine ⟨by rw [List.length_set]; exact h.len, fun j y e => ?_⟩
  by_cases hj : j = i
  · subst hj
    by_cases hlt : j < σa.length
    · rw [List.getElem?_set_self hlt] at e; cases e
    · rw [List.getElem?_eq_none (by rw [List.length_set]; omega)] at e; cases e
  · rw [List.getElem?_set_ne (Ne.symm hj)] at e
    exact h.at_ j y e
theorem RH.get {A : AHp} (h : RH E ρ H A) {n : Nat} {o : AO} (e : A[n]? = some o) : ∃ a, ρ[n]? = some a ∧ RO E ρ H o a := by
  have hlt : n < ρ.length := by rw [h.len]; exact (List.getElem?_eq_some_iff.mp e).1
  exact ⟨ρ[n], List.getElem?_eq_getElem hlt, h.at_ n o _ e (List.getElem?_eq_getElem hlt)⟩
theorem RO_some {o : AO} {a : Addr} (h : RO E ρ H o a) : ∃ u, H a = some u := by
  cases o with
  | lst xs ro =>
    obtain ⟨ys, _, q⟩ := h
    exact ⟨_, q⟩
  | dict kvs lk =>
    rcases h with ⟨kv', _, q⟩ | ⟨kv', _, q⟩ <;> cases lk
    · exact ⟨_, q⟩
    · obtain ⟨od, q⟩ := q; exact ⟨_, q⟩
    · exact ⟨_, q⟩
    · obtain ⟨od, q⟩ := q; exact ⟨_, q⟩
  | ins c fs =>
    obtain ⟨dx, fs', q, _⟩ := h
    exact ⟨_, q⟩
theorem RO_notFix {o : AO} {a : Addr} {u : HO} (h : RO E ρ H o a) (e : H a = some u) : fixd u = false := by
  cases o with
  | lst xs ro =>
    obtain ⟨ys, _, q⟩ := h
    have q : H a = some (.lst ys) := q
    rw [e] at q; cases q; rfl
  | dict kvs lk =>
    rcases h with ⟨kv', _, q⟩ | ⟨kv', _, q⟩ <;> cases lk
    · have q : H a = some (.dK kv') := q
      rw [e] at q; cases q; rfl
    · obtain ⟨od, q⟩ := q; rw [e] at q; cases q; rfl
    · have q : H a = some (.dT kv') := q
      rw [e] at q; cases q; rfl
    · obtain ⟨od, q⟩ := q; rw [e] at q; cases q; rfl
  | ins c fs =>
    obtain ⟨dx, fs', q, _⟩ := h
    rw [e] at q; cases q; rfl
/-- an object stands as before where its address is not written and values go over -/
theorem RO_ext {o : AO} {a : Addr} (x : Ext ρ H ρ' H') (k : H' a = H a) (h : RO E ρ H o a) : RO E ρ' H' o a := by
  cases o with
  | lst xs ro =>
    obtain ⟨ys, r, q⟩ := h
    refine ⟨ys, r.ext x, ?_⟩
    show H' a = some (.lst ys)
    rw [k]
    exact q
  | dict kvs lk =>
    rcases h with ⟨kv', r, q⟩ | ⟨kv', r, q⟩
    · refine .inl ⟨kv', r.ext x, ?_⟩
      unfold AtD at q ⊢
      rw [k]
      exact q
    · refine .inr ⟨kv', r.ext x, ?_⟩
      unfold AtD at q ⊢
      rw [k]
      exact q
  | ins c fs =>
    obtain ⟨dx, fs', q, r, z⟩ := h
    exact ⟨dx, fs', by rw [k]; exact q, r.ext x, z⟩
/-- a fixed or hidden thing more -/
theorem RH.keep {A : AHp} (h : RH E ρ H A) (k : ∀ a u, H a = some u → H' a = some u) : RH E ρ H' A ∧ Ext ρ H ρ H' := by
  have x : Ext ρ H ρ H' := ⟨fun _ _ e => e, fun a o e _ => k a o e⟩
  refine ⟨⟨h.len, h.nd, fun n o a e1 e2 => ?_⟩, x⟩
  have q := h.at_ n o a e1 e2
  obtain ⟨u, hu⟩ := (RO_some q)
  exact RO_ext x (by rw [hu]; exact k a u hu) q
/-- a new object -/
theorem RH.alloc {A : AHp} (h : RH E ρ H A) {p : Addr} (k : ∀ a u, H a = some u → H' a = some u) (hp : H p = none) {o : AO} (new : Ext ρ H (ρ ++ [p]) H' → RO E (ρ ++ [p]) H' o p) :
    RH E (ρ ++ [p]) H' (A ++ [o]) ∧ Ext ρ H (ρ ++ [p]) H' ∧ (ρ ++ [p])[A.length]? = some p := by
  have x : Ext ρ H (ρ ++ [p]) H' := ⟨fun n a e => by rw [List.getElem?_append_left (List.getElem?_eq_some_iff.mp e).1]; exact e, fun a o e _ => k a o e⟩
  have hlast : (ρ ++ [p])[A.length]? = some p := by rw [← h.len]; simp
  refine ⟨⟨by simp [h.len], ?_, fun n o' a e1 e2 => ?_⟩, x, hlast⟩
  · rw [List.nodup_append]
    refine ⟨h.nd, by simp, fun a ha b hb => ?_⟩
    have hb' : b = p := by simpa using hb
    subst hb'
    rintro rfl
    obtain ⟨n, hn, e⟩ := List.getElem_of_mem ha
    have hnA : n < A.length := by rw [← h.len]; exact hn
    obtain ⟨u, hu⟩ := RO_some (h.at_ n A[n] a (List.getElem?_eq_getElem hnA) (by rw [List.getElem?_eq_getElem hn, e]))
    rw [hp] at hu; cases hu
  · by_cases hn : n < A.length
    · rw [List.getElem?_append_left hn] at e1
      rw [List.getElem?_append_left (by rw [h.len]; exact hn)] at e2
      have q := h.at_ n o' a e1 e2
      obtain ⟨u, hu⟩ := (RO_some q)
      exact RO_ext x (by rw [hu]; exact k a u hu) q
    · have hn2 : n = A.length := by
        have z := (List.getElem?_eq_some_iff.mp e1).1
        rw [List.length_append, List.length_singleton] at z
        omega
      subst hn2
      rw [hlast] at e2
      cases e2
      rw [List.getElem?_append_right (Nat.le_refl _), Nat.sub_self] at e1
      cases e1
      exact new x
/-- an object is written -/
theorem RH.write {A : AHp} (h : RH E ρ H A) {n : Nat} {a : Addr} {o o' : AO} (e1 : A[n]? = some o) (e2 : ρ[n]? = some a) (k : ∀ b, b ≠ a → H' b = H b) (new : Ext ρ H ρ H' → RO E ρ H' o' a) :
    RH E ρ H' (A.set n o') ∧ Ext ρ H ρ H' := by
  have ra := h.at_ n o a e1 e2
  have x : Ext ρ H ρ H' := ⟨fun _ _ e => e, fun b u e f => by
    by_cases hb : b = a
    · subst hb
      rw [RO_notFix ra e] at f; cases f
    · rw [k b hb]; exact e⟩
  refine ⟨⟨by rw [List.length_set]; exact h.len, h.nd, fun m u b q1 q2 => ?_⟩, x⟩
  by_cases hm : m = n
  · subst hm
    rw [e2] at q2; cases q2
    rw [List.getElem?_set_self (List.getElem?_eq_some_iff.mp e1).1] at q1
    cases q1
    exact new x
  · rw [List.getElem?_set_ne (Ne.symm hm)] at q1
    have hb : b ≠ a := fun z => by
      subst z
      exact hm (nodup_addr h.nd q2 e2)
    exact RO_ext x (k b hb) (h.at_ m u b q1 q2)
where
  nodup_addr {N : List Addr} (hN : N.Nodup) {i j : Nat} {x : Addr} (a : N[i]? = some x) (b : N[j]? = some x) : i = j := by
    obtain ⟨h1, e1⟩ := List.getElem?_eq_some_iff.mp a
    obtain ⟨h2, e2⟩ := List.getElem?_eq_some_iff.mp b
    exact (List.getElem_inj hN).mp (e1.trans e2.symm)

/-! ### what is wanted of a result -/
abbrev WH := Value → Option Addr → Hp → Prop
def Post {α β : Type} (E : En) (rel : List Addr → Hp → α → β → Prop) (r : Res α) (ρ : List Addr) (H : Hp) (Q : β → Hp → Prop) (W : WH) : Prop := match r with
  | .ok a A => ∀ ρ' H' b, Ext ρ H ρ' H' → RH E ρ' H' A → rel ρ' H' a b → Q b H'
  | .err c x A => ∀ ρ' H' d, Ext ρ H ρ' H' → RH E ρ' H' A → RX E H' c x d → W (.ref (E.cad c)) d H'
  | .bad => False
theorem Post.ext {α β : Type} {rel : List Addr → Hp → α → β → Prop} {r : Res α} {Q : β → Hp → Prop} {W : WH} (p : Post E rel r ρ H Q W) (x : Ext ρ H ρ' H') : Post E rel r ρ' H' Q W := by
  cases r with
  | ok a A => exact fun ρ2 H2 b y => p ρ2 H2 b (x.trans y)
  | err c i A => exact fun ρ2 H2 d y => p ρ2 H2 d (x.trans y)
  | bad => exact p
theorem Post.mono {α β : Type} {rel : List Addr → Hp → α → β → Prop} {r : Res α} {Q Q' : β → Hp → Prop} {W W' : WH} (p : Post E rel r ρ H Q W) (h : ∀ b H', Q b H' → Q' b H') (hw : ∀ c d H', W c d H' → W' c d H') : Post E rel r ρ H Q' W' := by
  cases r with
  | ok a A => exact fun ρ2 H2 b x y z => h _ _ (p ρ2 H2 b x y z)
  | err c i A => exact fun ρ2 H2 d x y z => hw _ _ _ (p ρ2 H2 d x y z)
  | bad => exact p
/-- the reading of a denotation; any kind of result -/
def rd {α β : Type} (E : En) (rel : List Addr → Hp → α → β → Prop) (f : Den α) (W : WX) : St → Hp → (β → Hp → Prop) → Prop := fun σ H Q =>
  ∃ ρ σa A, RS E ρ H σa σ ∧ RH E ρ H A ∧ Post E rel (f σa A) ρ H Q (fun c d H' => W c d σ H')
/-- what stands behind a first step -/
def At (E : En) {α β : Type} (rel : List Addr → Hp → α → β → Prop) (σ : St) (b : β) (H : Hp) (R : List Addr → ASt → AHp → α → Prop) : Prop := ∃ ρ σa A a, RS E ρ H σa σ ∧ RH E ρ H A ∧ rel ρ H a b ∧ R ρ σa A a
theorem rd_bind {α β γ δ : Type} {rel : List Addr → Hp → α → β → Prop} {rel' : List Addr → Hp → γ → δ → Prop} {f : Den α} {g : ASt → α → AHp → Res γ} {W : WX} {σ : St} {Q : δ → Hp → Prop}
    (h : rd E rel' (fun σa A => (f σa A).bind (g σa)) W σ H Q) :
    rd E rel f W σ H (fun b H1 => At E rel σ b H1 fun ρ σa A a => Post E rel' (g σa a A) ρ H1 Q (fun c d H' => W c d σ H')) := by
  obtain ⟨ρ, σa, A, hs, hh, p⟩ := h
  have p : Post E rel' ((f σa A).bind (g σa)) ρ H Q (fun c d H' => W c d σ H') := p
  refine ⟨ρ, σa, A, hs, hh, ?_⟩
  cases e : f σa A with
  | ok a A1 =>
    rw [e] at p
    intro ρ1 H1 b x rh r
    exact ⟨ρ1, σa, A1, a, hs.ext x, rh, r, p.ext x⟩
  | err c i A1 => rw [e] at p; exact p
  | bad => rw [e] at p; exact p
theorem rd_step {α β γ δ : Type} {rel : List Addr → Hp → α → β → Prop} {rel' : List Addr → Hp → γ → δ → Prop} {f : Den α} {g : ASt → α → AHp → Res γ} {W : WX} {σ : St} {Q : δ → Hp → Prop} {Q1 : β → Hp → Prop}
    (h : rd E rel' (fun σa A => (f σa A).bind (g σa)) W σ H Q)
    (k : ∀ (b : β) (H1 : Hp) (ρ : List Addr) (σa : ASt) (A : AHp) (a : α), RS E ρ H1 σa σ → RH E ρ H1 A → rel ρ H1 a b → Post E rel' (g σa a A) ρ H1 Q (fun c d H' => W c d σ H') → Q1 b H1) : rd E rel f W σ H Q1 := by
  obtain ⟨ρ, σa, A, hs, hh, p⟩ := h
  have p : Post E rel' ((f σa A).bind (g σa)) ρ H Q (fun c d H' => W c d σ H') := p
  refine ⟨ρ, σa, A, hs, hh, ?_⟩
  cases e : f σa A with
  | ok a A1 =>
    rw [e] at p
    intro ρ1 H1 b x rh r
    exact k b H1 ρ1 σa A1 a (hs.ext x) rh r (p.ext x)
  | err c i A1 => rw [e] at p; exact p
  | bad => rw [e] at p; exact p
theorem rd_mono {α β : Type} {rel : List Addr → Hp → α → β → Prop} {f : Den α} {W : WX} {σ : St} {Q Q' : β → Hp → Prop} (h : rd E rel f W σ H Q) (k : ∀ b H', Q b H' → Q' b H') : rd E rel f W σ H Q' := by
  obtain ⟨ρ, σa, A, hs, hh, p⟩ := h
  exact ⟨ρ, σa, A, hs, hh, p.mono k fun _ _ _ z => z⟩
/-- relations of results -/
def relB (_ : List Addr) (_ : Hp) (a b : Bool) : Prop := b = a
abbrev SE (E : En) (X : Cx) (W : WX) (e : Expr) (f : Den AV) : Prop := PE X e (rd E (RV E) f W)
abbrev STt (E : En) (X : Cx) (W : WX) (e : Expr) (f : Den Bool) : Prop := PT X e (rd E relB f W)
abbrev SW (E : En) (X : Cx) (W : WX) (e : Expr) (f : Den Bool) : Prop := PW X e (rd E relB f W)
abbrev SA (E : En) (X : Cx) (W : WX) (es : List Expr) (f : Den (List AV)) : Prop := PA X es (rd E (RVs E) f W)
theorem PE.imp {X : Cx} {e : Expr} {t t' : TE} (h : PE X e t) (k : ∀ σ H Q, t' σ H Q → t σ H Q) : PE X e t' := ⟨fun pins s σ H Q I q => h.run pins s σ H Q I (k σ H Q q)⟩
theorem PT.imp {X : Cx} {e : Expr} {t t' : TT} (h : PT X e t) (k : ∀ σ H Q, t' σ H Q → t σ H Q) : PT X e t' := ⟨fun pins s σ H Q I q => h.run pins s σ H Q I (k σ H Q q)⟩
theorem PW.imp {X : Cx} {e : Expr} {t t' : TT} (h : PW X e t) (k : ∀ σ H Q, t' σ H Q → t σ H Q) : PW X e t' := ⟨fun wh pins s σ H Q I q => h.run wh pins s σ H Q I (k σ H Q q)⟩
theorem PA.imp {X : Cx} {e : List Expr} {t t' : TA} (h : PA X e t) (k : ∀ σ H Q, t' σ H Q → t σ H Q) : PA X e t' := ⟨fun pos pins s σ H Q I q => h.run pos pins s σ H Q I (k σ H Q q)⟩

/-! ### statements -/
def PostS (E : En) (r : SR) (ρ : List Addr) (H : Hp) (D : Ends) (W : WX) : Prop := match r with
  | .nx σa A => ∀ ρ' H' σ', Ext ρ H ρ' H' → RH E ρ' H' A → RS E ρ' H' σa σ' → D.nx σ' H'
  | .rt v A => ∀ ρ' H' v', Ext ρ H ρ' H' → RH E ρ' H' A → RV E ρ' H' v v' → D.rt v' H'
  | .bk σa A => ∀ ρ' H' σ', Ext ρ H ρ' H' → RH E ρ' H' A → RS E ρ' H' σa σ' → D.bk σ' H'
  | .ct σa A => ∀ ρ' H' σ', Ext ρ H ρ' H' → RH E ρ' H' A → RS E ρ' H' σa σ' → D.ct σ' H'
  | .er σa c x A => ∀ ρ' H' σ' d, Ext ρ H ρ' H' → RH E ρ' H' A → RS E ρ' H' σa σ' → RX E H' c x d → W (.ref (E.cad c)) d σ' H'
  | .bad => False
theorem PostS.ext {r : SR} {D : Ends} {W : WX} (p : PostS E r ρ H D W) (x : Ext ρ H ρ' H') : PostS E r ρ' H' D W := by
  cases r with
  | nx σa A => exact fun ρ2 H2 b y => p ρ2 H2 b (x.trans y)
  | rt v A => exact fun ρ2 H2 b y => p ρ2 H2 b (x.trans y)
  | bk σa A => exact fun ρ2 H2 b y => p ρ2 H2 b (x.trans y)
  | ct σa A => exact fun ρ2 H2 b y => p ρ2 H2 b (x.trans y)
  | er σa c i A => exact fun ρ2 H2 b d y => p ρ2 H2 b d (x.trans y)
  | bad => exact p
def rdS (E : En) (f : SDen) (W : WX) : TS := fun D σ H => ∃ ρ σa A, RS E ρ H σa σ ∧ RH E ρ H A ∧ PostS E (f σa A) ρ H D W
abbrev SS (E : En) (X : Cx) (W : WX) (st : Stmt) (f : SDen) : Prop := PS X st (rdS E f W)
abbrev SSs (E : En) (X : Cx) (W : WX) (st : List Stmt) (f : SDen) : Prop := PSs X st (rdS E f W)
theorem PS.imp {X : Cx} {st : Stmt} {t t' : TS} (h : PS X st t) (k : ∀ D σ H, t' D σ H → t D σ H) : PS X st t' := ⟨fun pins s σ H D I q => h.run pins s σ H D I (k D σ H q)⟩
theorem PSs.imp {X : Cx} {st : List Stmt} {t t' : TS} (h : PSs X st t) (k : ∀ D σ H, t' D σ H → t D σ H) : PSs X st t' := ⟨fun pins s σ H D I q => h.run pins s σ H D I (k D σ H q)⟩
/-- an expression's result goes on into a statement -/
def Res.toS {α : Type} (σ : ASt) (r : Res α) (g : α → AHp → SR) : SR := match r with
  | .ok a A => g a A
  | .err c x A => .er σ c x A
  | .bad => .bad
@[simp] theorem Res.toS_ok {α : Type} (σ : ASt) (a : α) (A : AHp) (g : α → AHp → SR) : (Res.ok a A).toS σ g = g a A := (rfl)
@[simp] theorem Res.toS_err {α : Type} (σ : ASt) (c : Nat) (x : Option Int) (A : AHp) (g : α → AHp → SR) : (Res.err c x A : Res α).toS σ g = .er σ c x A := (rfl)
@[simp] theorem Res.toS_bad {α : Type} (σ : ASt) (g : α → AHp → SR) : (Res.bad : Res α).toS σ g = .bad := (rfl)
theorem rdS_bind {α β : Type} {rel : List Addr → Hp → α → β → Prop} {f : Den α} {g : ASt → α → AHp → SR} {W : WX} {σ : St} {D : Ends}
    (h : rdS E (fun σa A => (f σa A).toS σa (g σa)) W D σ H) :
    rd E rel f W σ H (fun b H1 => At E rel σ b H1 fun ρ σa A a => PostS E (g σa a A) ρ H1 D W) := by
  obtain ⟨ρ, σa, A, hs, hh, p⟩ := h
  have p : PostS E ((f σa A).toS σa (g σa)) ρ H D W := p
  refine ⟨ρ, σa, A, hs, hh, ?_⟩
  cases e : f σa A with
  | ok a A1 =>
    rw [e] at p
    intro ρ1 H1 b x rh r
    exact ⟨ρ1, σa, A1, a, hs.ext x, rh, r, PostS.ext p x⟩
  | err c i A1 =>
    rw [e] at p
    exact fun ρ' H' d x rh rx => p ρ' H' σ d x rh (hs.ext x) rx
  | bad => rw [e] at p; exact p
theorem rdS_step {α β : Type} {rel : List Addr → Hp → α → β → Prop} {f : Den α} {g : ASt → α → AHp → SR} {W : WX} {σ : St} {D : Ends} {Q1 : β → Hp → Prop}
    (h : rdS E (fun σa A => (f σa A).toS σa (g σa)) W D σ H)
    (k : ∀ (b : β) (H1 : Hp) (ρ : List Addr) (σa : ASt) (A : AHp) (a : α), RS E ρ H1 σa σ → RH E ρ H1 A → rel ρ H1 a b → PostS E (g σa a A) ρ H1 D W → Q1 b H1) : rd E rel f W σ H Q1 := by
  obtain ⟨ρ, σa, A, hs, hh, p⟩ := h
  have p : PostS E ((f σa A).toS σa (g σa)) ρ H D W := p
  refine ⟨ρ, σa, A, hs, hh, ?_⟩
  cases e : f σa A with
  | ok a A1 =>
    rw [e] at p
    intro ρ1 H1 b x rh r
    exact k b H1 ρ1 σa A1 a (hs.ext x) rh r (PostS.ext p x)
  | err c i A1 =>
    rw [e] at p
    exact fun ρ' H' d x rh rx => p ρ' H' σ d x rh (hs.ext x) rx
  | bad => rw [e] at p; exact p
end
end Ev
end
section
/-! Ev, second part: operators by values. -/
namespace Ev
open PySem PySem.Spec L2
set_option autoImplicit false

abbrev Op1 := AV → AHp → Option (AV × AHp)
abbrev Op2 := AV → AV → AHp → Option (AV × AHp)
def ofO (r : Option (AV × AHp)) : Res AV := match r with
  | some (v, A) => .ok v A
  | none => .bad
@[simp] theorem ofO_some (v : AV) (A : AHp) : ofO (some (v, A)) = .ok v A := (rfl)
@[simp] theorem ofO_none : ofO none = .bad := (rfl)
section
variable {E : En} {X : Cx} {W : WX}
def PostO (E : En) (r : Option (AV × AHp)) (ρ : List Addr) (H : Hp) (Q : VK) : Prop := match r with
  | some (v, A) => ∀ ρ' H' b, Ext ρ H ρ' H' → RH E ρ' H' A → RV E ρ' H' v b → Q b H'
  | none => False
theorem PostO.of_post {r : Option (AV × AHp)} {ρ : List Addr} {H : Hp} {Q : VK} {W : WH} (h : Post E (RV E) (ofO r) ρ H Q W) : PostO E r ρ H Q := by
  cases r with
  | none => exact h
  | some p => obtain ⟨v, A⟩ := p; exact h
/-- a pure answer -/
theorem PostO.pure {v : AV} {b : V} {A : AHp} {ρ : List Addr} {H : Hp} {Q : VK} (h : PostO E (some (v, A)) ρ H Q) (rh : RH E ρ H A) (r : RV E ρ H v b) : Q b H := h ρ H b (Ext.refl _ _) rh r
def r2 (E : En) (p : Op2) : R2 := fun x y H Q => ∃ ρ A a b, RH E ρ H A ∧ RV E ρ H a x ∧ RV E ρ H b y ∧ PostO E (p a b A) ρ H Q
def OpS (E : En) (X : Cx) (f : Value → Value → Sem Value) (p : Op2) : Prop := OpR X f (r2 E p)
def dBin (p : Op2) (fa fb : Den AV) : Den AV := fun σ A => (fa σ A).bind fun x A1 => (fb σ A1).bind fun y A2 => ofO (p x y A2)
theorem bin_rd {p : Op2} {fa fb : Den AV} {σ : St} {H : Hp} {Q : VK} (h : rd E (RV E) (dBin p fa fb) W σ H Q) : tOp (r2 E p) (rd E (RV E) fa W) (rd E (RV E) fb W) σ H Q := by
  refine rd_mono (rd_bind (f := fa) (g := fun σ x A1 => (fb σ A1).bind fun y A2 => ofO (p x y A2)) h) fun x' H1 ⟨ρ, σa, A, x, hs, hh, hx, q⟩ => ?_
  have h2 : rd E (RV E) (fun σ2 A1 => (fb σ2 A1).bind fun y A2 => ofO (p x y A2)) W σ H1 Q := ⟨ρ, σa, A, hs, hh, q⟩
  obtain ⟨ρ, σa, A, hs, hh, q⟩ : ∃ ρ σa A, RS E ρ H1 σa σ ∧ RH E ρ H1 A ∧ (RV E ρ H1 x x' ∧ Post E (RV E) ((fb σa A).bind fun y A2 => ofO (p x y A2)) ρ H1 Q fun c d H' => W c d σ H') := ⟨ρ, σa, A, hs, hh, hx, q⟩
  obtain ⟨hx, q⟩ := q
  refine ⟨ρ, σa, A, hs, hh, ?_⟩
  cases e : fb σa A with
  | ok y A2 =>
    rw [e] at q
    intro ρ2 H2 y' xt rh ry
    exact ⟨ρ2, A2, x, y, rh, hx.ext xt, ry, PostO.of_post (q.ext xt)⟩
  | err c i A2 => rw [e] at q; exact q
  | bad => rw [e] at q; exact q
theorem se_bin {op : Operator} {p : Op2} {a b : Expr} {fa fb : Den AV} {pos : Pos} (ho : OpS E X (binaryOp op) p) (ha : SE E X W a fa) (hb : SE E X W b fb) : SE E X W (.BinOp a op b pos) (dBin p fa fb) :=
  PE.imp (pe_op ho ha hb) fun _ _ _ h => bin_rd h
theorem se_cmp {op : CmpOp} {p : Op2} {a b : Expr} {fa fb : Den AV} {pos : Pos} (ho : OpS E X (compareOp op) p) (ha : SE E X W a fa) (hb : SE E X W b fb) (hm : behindInMarks op b = false) : SE E X W (.Compare a [op] [b] pos) (dBin p fa fb) :=
  PE.imp (pe_cmpR ho ha hb hm) fun _ _ _ h => bin_rd h
/-- an expression's truth where it is a bool -/
def asB (v : AV) (A : AHp) : Res Bool := match v with
  | .bl b => .ok b A
  | _ => .bad
@[simp] theorem asB_bl (b : Bool) (A : AHp) : asB (.bl b) A = .ok b A := (rfl)
def dTB (f : Den AV) : Den Bool := fun σ A => (f σ A).bind asB
theorem tb_rd {f : Den AV} {σ : St} {H : Hp} {Q : Bool → Hp → Prop} (h : rd E relB (dTB f) W σ H Q) : rd E (RV E) f W σ H fun x H' => ∃ k, x = .bl k ∧ Q k H' := by
  refine rd_mono (rd_bind (f := f) (g := fun _ => asB) h) fun x' H1 ⟨ρ, σa, A, x, hs, hh, hx, q⟩ => ?_
  cases x with
  | bl b => exact ⟨b, hx, q ρ H1 b (Ext.refl _ _) hh rfl⟩
  | _ => exact q.elim
theorem st_cmp {op : CmpOp} {p : Op2} {a b : Expr} {fa fb : Den AV} {pos : Pos} (ho : OpS E X (compareOp op) p) (ha : SE E X W a fa) (hb : SE E X W b fb) (hm : behindInMarks op b = false) : STt E X W (.Compare a [op] [b] pos) (dTB (dBin p fa fb)) := by
  refine PT.imp (pt_cmpR ho ha hb hm) fun σ H Q h => ?_
  exact bin_rd_T (tb_rd h)
where
  bin_rd_T {p : Op2} {fa fb : Den AV} {σ : St} {H : Hp} {Q : VK} (h : rd E (RV E) (dBin p fa fb) W σ H Q) : tOp (r2 E p) (rd E (RV E) fa W) (rd E (RV E) fb W) σ H Q := bin_rd h

/-! ### names, constants -/
def dVar (i : Nat) : Den AV := fun σ A => match σ[i]? with
  | some (some v) => .ok v A
  | _ => .bad
theorem se_var {i : Nat} {x : Str} {pos : Pos} (hN : X.N[i]? = some x) (hv : Vis X.env.scope x) (hd : (x == ("__debug__" : Str)) = false) (hcd : (x == ("__classdict__" : Str)) = false) : SE E X W (.Name x pos) (dVar i) := by
  refine PE.imp (pe_var hN hv hd hcd) fun σ H Q ⟨ρ, σa, A, hs, hh, q⟩ => ?_
  unfold dVar at q
  cases e : σa[i]? with
  | none => rw [e] at q; exact q.elim
  | some o =>
    rw [e] at q
    cases o with
    | none => exact q.elim
    | some v =>
      obtain ⟨v', e', r⟩ := hs.at_ i v e
      exact ⟨v', e', q ρ H v' (Ext.refl _ _) hh r⟩
def dC (v : AV) : Den AV := fun _ A => .ok v A
theorem c_rd {v : AV} {v' : V} {σ : St} {H : Hp} {Q : VK} (h : rd E (RV E) (dC v) W σ H Q) (r : ∀ ρ, RV E ρ H v v') : tC v' σ H Q := by
  obtain ⟨ρ, σa, A, hs, hh, q⟩ := h
  exact q ρ H v' (Ext.refl _ _) hh (r ρ)
theorem se_int {i : Int} {j : Nat} {pos : Pos} : SE E X W (.Constant (.int i) j pos) (dC (.int i)) := PE.imp pe_int fun _ _ _ h => c_rd h fun _ => rfl
theorem se_bl {b : Bool} {j : Nat} {pos : Pos} : SE E X W (.Constant (.bool b) j pos) (dC (.bl b)) := PE.imp pe_bl fun _ _ _ h => c_rd h fun _ => rfl
theorem se_non {j : Nat} {pos : Pos} : SE E X W (.Constant .none j pos) (dC .non) := PE.imp pe_non fun _ _ _ h => c_rd h fun _ => rfl
theorem se_str {x : Str} {j : Nat} {pos : Pos} : SE E X W (.Constant (.str x) j pos) (dC (.str x)) := PE.imp pe_str fun _ _ _ h => c_rd h fun _ => rfl
/-- a module's constant -/
theorem se_glob {x : Str} {v : AV} {v' : V} {u : Value} {pos : Pos} (hg : Gl X x) (hm : X.mg x = some u) (r : RelV v' u) (rv : ∀ ρ H, RV E ρ H v v') (hd : (x == ("__debug__" : Str)) = false) : SE E X W (.Name x pos) (dC v) :=
  PE.imp (pe_glob hg hm r hd) fun _ _ _ h => c_rd h fun ρ => rv ρ _

/-! ### operators -/
/-- objects by their number -/
def lstAt (A : AHp) (n : Nat) : Option (List AV) := match A[n]? with
  | some (.lst xs _) => some xs
  | _ => none
def pAdd : Op2 := fun a b A => match a, b with
  | .int i, .int j => some (.int (i + j), A)
  | .str x, .str y => if x.length + y.length ≤ sizeLine then some (.str (x ++ y), A) else none
  | .tup xs, .tup ys => if xs.length + ys.length ≤ sizeLine then some (.tup (xs ++ ys), A) else none
  | .ref n, .ref m => (match A[n]?, A[m]? with
    | some (.lst xs false), some (.lst ys false) => if xs.length + ys.length ≤ sizeLine then some (.ref A.length, A ++ [.lst (xs ++ ys) false]) else none
    | _, _ => none)
  | _, _ => none
theorem RVs.length {ρ : List Addr} {H : Hp} : ∀ {xs : List AV} {ys : List V}, RVs E ρ H xs ys → ys.length = xs.length
  | [], _, h => by cases h; rfl
  | x :: xs, _, h => by
    obtain ⟨y, ys, rfl, _, r⟩ := h
    rw [List.length_cons, List.length_cons, r.length]
theorem RVs.append {ρ : List Addr} {H : Hp} : ∀ {xs xs' : List AV} {ys ys' : List V}, RVs E ρ H xs ys → RVs E ρ H xs' ys' → RVs E ρ H (xs ++ xs') (ys ++ ys')
  | [], _, _, _, h, h' => by cases h; exact h'
  | x :: xs, _, _, _, h, h' => by
    obtain ⟨y, ys, rfl, a, r⟩ := h
    exact ⟨y, ys ++ _, rfl, a, r.append h'⟩
theorem RVs.get {ρ : List Addr} {H : Hp} : ∀ {xs : List AV} {ys : List V} {i : Nat} {x : AV}, RVs E ρ H xs ys → xs[i]? = some x → ∃ y, ys[i]? = some y ∧ RV E ρ H x y
  | [], _, _, _, _, e => by simp at e
  | a :: xs, _, 0, x, h, e => by
    obtain ⟨y, ys, rfl, r, _⟩ := h
    simp at e
    subst e
    exact ⟨y, rfl, r⟩
  | a :: xs, _, i + 1, x, h, e => by
    obtain ⟨y, ys, rfl, _, r⟩ := h
    obtain ⟨z, e2, q⟩ := r.get (i := i) (x := x) (by simpa using e)
    exact ⟨z, by simpa using e2, q⟩
theorem RVs.take {ρ : List Addr} {H : Hp} : ∀ {xs : List AV} {ys : List V} (n : Nat), RVs E ρ H xs ys → RVs E ρ H (xs.take n) (ys.take n)
  | _, _, 0, _ => by simp [RVs]
  | [], _, n + 1, h => by cases h; simp [RVs]
  | x :: xs, _, n + 1, h => by
    obtain ⟨y, ys, rfl, a, r⟩ := h
    exact ⟨y, ys.take n, rfl, a, r.take n⟩
theorem RVs.drop {ρ : List Addr} {H : Hp} : ∀ {xs : List AV} {ys : List V} (n : Nat), RVs E ρ H xs ys → RVs E ρ H (xs.drop n) (ys.drop n)
  | _, _, 0, h => by simpa using h
  | [], _, n + 1, h => by cases h; simp [RVs]
  | x :: xs, _, n + 1, h => by
    obtain ⟨y, ys, rfl, a, r⟩ := h
    simpa using r.drop n
theorem RVs.set {ρ : List Addr} {H : Hp} {x : AV} {y : V} (r : RV E ρ H x y) : ∀ {xs : List AV} {ys : List V} (n : Nat), RVs E ρ H xs ys → RVs E ρ H (xs.set n x) (ys.set n y)
  | [], _, n, h => by cases h; simp [RVs]
  | _ :: xs, _, 0, h => by
    obtain ⟨y, ys, rfl, a, q⟩ := h
    exact ⟨_, ys, rfl, r, q⟩
  | _ :: xs, _, n + 1, h => by
    obtain ⟨y, ys, rfl, a, q⟩ := h
    exact ⟨y, ys.set n _, rfl, a, RVs.set r n q⟩
theorem RVs.nil_iff {ρ : List Addr} {H : Hp} {xs : List AV} {ys : List V} (h : RVs E ρ H xs ys) : ys = [] ↔ xs = [] := by
  rw [← List.length_eq_zero_iff, ← List.length_eq_zero_iff, h.length]
theorem RH.lst {ρ : List Addr} {H : Hp} {A : AHp} (h : RH E ρ H A) {n : Nat} {xs : List AV} {ro : Bool} (e : A[n]? = some (.lst xs ro)) : ∃ a ys, ρ[n]? = some a ∧ RVs E ρ H xs ys ∧ Rd H a (.lst ys) ∧ (ro = false → H a = some (.lst ys)) := by
  obtain ⟨a, ea, ys, r, q⟩ := h.get e
  exact ⟨a, ys, ea, r, .inl q, fun _ => q⟩
theorem RVref {ρ : List Addr} {H : Hp} {n : Nat} {v : V} {a : Addr} (h : RV E ρ H (.ref n) v) (e : ρ[n]? = some a) : v = .ref a := by
  obtain ⟨b, e', q⟩ := h
  rw [e] at e'
  cases e'
  exact q
/-- a new list -/
theorem newLst {ρ : List Addr} {H : Hp} {A : AHp} (h : RH E ρ H A) {p : Addr} (hp : H p = none) {xs : List AV} {ys : List V} (r : RVs E ρ H xs ys) :
    RH E (ρ ++ [p]) (upd H p (.lst ys)) (A ++ [.lst xs false]) ∧ Ext ρ H (ρ ++ [p]) (upd H p (.lst ys)) ∧ RV E (ρ ++ [p]) (upd H p (.lst ys)) (.ref A.length) (.ref p) := by
  obtain ⟨a, b, c⟩ := h.alloc (H' := upd H p (.lst ys)) (o := .lst xs false) (fun a u e => by rw [upd_ne (ne_of_none e hp)]; exact e) hp fun x => ⟨ys, r.ext x, upd_same⟩
  exact ⟨a, b, p, c, rfl⟩
/-- a new tuple -/
theorem newTup {ρ : List Addr} {H : Hp} {A : AHp} (h : RH E ρ H A) {p : Addr} (hp : H p = none) {xs : List AV} {ys : List V} (r : RVs E ρ H xs ys) :
    RH E ρ (upd H p (.tup ys)) A ∧ Ext ρ H ρ (upd H p (.tup ys)) ∧ RV E ρ (upd H p (.tup ys)) (.tup xs) (.ref p) := by
  obtain ⟨a, b⟩ := h.keep (H' := upd H p (.tup ys)) (fun a u e => by rw [upd_ne (ne_of_none e hp)]; exact e)
  exact ⟨a, b, p, ys, rfl, upd_same, r.ext b⟩
theorem os_add (hK : X.K = E.K) : OpS E X (binaryOp .Add) pAdd := by
  intro pins s σ H x y v u Q I rx ry h
  obtain ⟨ρ, A, a, b, hh, ha, hb, q⟩ := h
  unfold pAdd at q
  cases a with
  | int i => cases b with
    | int j =>
      cases ha; cases hb
      exact op_add pins s σ H _ _ v u Q I rx ry ⟨i, j, rfl, rfl, q.pure hh rfl⟩
    | _ => exact q.elim
  | str x1 => cases b with
    | str y1 =>
      cases ha; cases hb
      dsimp only at q
      split at q
      · rename_i hz
        exact op_add_str pins s σ H _ _ v u Q I rx ry ⟨x1, y1, rfl, rfl, hz, q.pure hh rfl⟩
      · exact q.elim
    | _ => exact q.elim
  | tup xs => cases b with
    | tup ys =>
      dsimp only at q
      split at q
      · rename_i hz
        obtain ⟨a1, us, rfl, s1, r1⟩ := ha
        obtain ⟨a2, ws, rfl, s2, r2'⟩ := hb
        refine op_catA pins s σ H _ _ v u Q I rx ry ⟨a1, a2, us, ws, rfl, rfl, (.inl (.inl s1)), (.inl (.inl s2)), by rw [r1.length, r2'.length]; exact hz, fun e => ?_, fun e0 e => ?_, fun e0 e p hp => ?_⟩
        · have e' := r1.nil_iff.mp e
          subst e'
          exact q.pure hh ⟨a2, ws, rfl, s2, r2'⟩
        · have e' := r2'.nil_iff.mp e
          subst e'
          rw [List.append_nil] at q
          exact q.pure hh ⟨a1, us, rfl, s1, r1⟩
        · obtain ⟨z1, z2, z3⟩ := newTup hh hp (r1.append r2')
          exact q ρ _ _ z2 z1 z3
      · exact q.elim
    | _ => exact q.elim
  | ref n => cases b with
    | ref m =>
      dsimp only at q
      cases e1 : A[n]? with
      | none => rw [e1] at q; exact q.elim
      | some o1 => cases o1 with
        | lst xs ro => cases ro with
          | false =>
            cases e2 : A[m]? with
            | none => rw [e1, e2] at q; exact q.elim
            | some o2 => cases o2 with
              | lst ys ro2 => cases ro2 with
                | false =>
                  rw [e1, e2] at q
                  dsimp only at q
                  split at q
                  · rename_i hz
                    obtain ⟨a1, us, p1, r1, _, w1⟩ := hh.lst e1
                    obtain ⟨a2, ws, p2, r2', _, w2⟩ := hh.lst e2
                    have ex := RVref ha p1
                    have ey := RVref hb p2
                    subst ex ey
                    refine op_cat pins s σ H _ _ v u Q I rx ry ⟨a1, a2, us, ws, rfl, rfl, w1 rfl, w2 rfl, by rw [r1.length, r2'.length]; exact hz, fun p hp => ?_⟩
                    obtain ⟨z1, z2, z3⟩ := newLst hh hp (r1.append r2')
                    exact q _ _ _ z2 z1 z3
                  · exact q.elim
                | true => rw [e1, e2] at q; exact q.elim
              | _ => rw [e1, e2] at q; exact q.elim
          | true => rw [e1] at q; exact q.elim
        | _ => rw [e1] at q; exact q.elim
    | _ => exact q.elim
  | _ => exact q.elim
end
end Ev
end
section
/-! Ev, third part: more operators. -/
namespace Ev
open PySem PySem.Spec L2
set_option autoImplicit false
section
variable {E : En} {X : Cx} {W : WX}
/-- an operator of two ints -/
theorem os_int {f : Value → Value → Sem Value} {p : Op2} (g : Int → Int → Option AV) (hp : ∀ a b A, p a b A = (match a, b with
    | .int i, .int j => (g i j).map fun v => (v, A)
    | _, _ => none))
    (h : ∀ i j v, g i j = some v → ∃ v', (∀ ρ H, RV E ρ H v v') ∧ ∀ (pins : List (Addr × Obj)) (s : Shared) (σ : St) (H : Hp) (a b : Value) (Q : VK), Inv X pins σ H s → RelV (.int i) a → RelV (.int j) b → Q v' H → wpAny (model X.prog X.w) X.A (f a b) (EP X pins σ Q) X.xe s) : OpS E X f p := by
  intro pins s σ H x y v u Q I rx ry hh
  obtain ⟨ρ, A, a, b, hh, ha, hb, q⟩ := hh
  rw [hp] at q
  cases a with
  | int i => cases b with
    | int j =>
      cases ha; cases hb
      dsimp only at q
      cases e : g i j with
      | none => rw [e] at q; exact q.elim
      | some w =>
        rw [e] at q
        obtain ⟨v', r, k⟩ := h i j w e
        exact k pins s σ H v u Q I rx ry (q.pure hh (r ρ H))
    | _ => exact q.elim
  | _ => exact q.elim
def pSub : Op2 := fun a b A => match a, b with
  | .int i, .int j => some (.int (i - j), A)
  | _, _ => none
theorem os_sub : OpS E X (binaryOp .Sub) pSub := os_int (g := fun i j => some (.int (i - j))) (fun a b A => by cases a <;> first | rfl | (cases b <;> rfl)) fun i j v e => by
  cases e
  exact ⟨.int (i - j), fun _ _ => rfl, fun pins s σ H a b Q I ra rb q => op_sub pins s σ H _ _ a b Q I ra rb ⟨i, j, rfl, rfl, q⟩⟩
def small64 (i : Int) : Bool := decide (-(2 ^ 64) < i) && decide (i < 2 ^ 64)
theorem small64_iff {i : Int} : small64 i = true ↔ -(2 ^ 64) < i ∧ i < 2 ^ 64 := by
  unfold small64
  rw [Bool.and_eq_true, decide_eq_true_eq, decide_eq_true_eq]
/-- *: ints (one of them below 2^64), a text or a list some times -/
def pMul : Op2 := fun a b A => match a, b with
  | .int i, .int j => if small64 i || small64 j then some (.int (i * j), A) else none
  | .str x, .int n => if x.length = 1 ∧ n ≤ 1000000 ∧ -1000000 ≤ n then some (.str ⟨(List.replicate n.toNat x.cps.toList).flatten.toArray⟩, A) else none
  | .ref l, .int n => (match A[l]? with
    | some (.lst xs false) => if -(2 ^ 63) ≤ n ∧ n < 2 ^ 63 ∧ xs.length * n.toNat ≤ sizeLine then some (.ref A.length, A ++ [.lst (List.replicate n.toNat xs).flatten false]) else none
    | _ => none)
  | _, _ => none
theorem RVs.rep {ρ : List Addr} {H : Hp} {xs : List AV} {ys : List V} (h : RVs E ρ H xs ys) : ∀ n : Nat, RVs E ρ H (List.replicate n xs).flatten (List.replicate n ys).flatten
  | 0 => by simp [RVs]
  | n + 1 => by
    rw [List.replicate_succ, List.replicate_succ, List.flatten_cons, List.flatten_cons]
    exact h.append (h.rep n)
theorem os_mul : OpS E X (binaryOp .Mult) pMul := by
  intro pins s σ H x y v u Q I rx ry h
  obtain ⟨ρ, A, a, b, hh, ha, hb, q⟩ := h
  unfold pMul at q
  cases a with
  | int i => cases b with
    | int j =>
      cases ha; cases hb
      dsimp only at q
      split at q
      · rename_i hz
        refine op_mul pins s σ H _ _ v u Q I rx ry ⟨i, j, rfl, rfl, ?_, q.pure hh rfl⟩
        rcases Bool.or_eq_true_iff.mp hz with z | z
        · exact .inl (small64_iff.mp z)
        · exact .inr (small64_iff.mp z)
      · exact q.elim
    | _ => exact q.elim
  | str z => cases b with
    | int n =>
      cases ha; cases hb
      dsimp only at q
      split at q
      · rename_i hz
        obtain ⟨t, rfl⟩ := rx
        obtain ⟨t', rfl⟩ := ry
        have q' := q.pure (b := .str ⟨(List.replicate n.toNat z.cps.toList).flatten.toArray⟩) hh rfl
        exact mul_str1 I hz.1 hz.2.1 hz.2.2 q'
      · exact q.elim
    | _ => exact q.elim
  | ref l => cases b with
    | int n =>
      cases hb
      dsimp only at q
      cases e1 : A[l]? with
      | none => rw [e1] at q; exact q.elim
      | some o1 => cases o1 with
        | lst xs ro => cases ro with
          | false =>
            rw [e1] at q
            dsimp only at q
            split at q
            · rename_i hz
              obtain ⟨a1, us, p1, r1, _, w1⟩ := hh.lst e1
              have ex := RVref ha p1
              subst ex
              refine op_rep pins s σ H _ _ v u Q I rx ry ⟨a1, n, us, rfl, rfl, w1 rfl, hz.1, hz.2.1, by rw [r1.length]; exact hz.2.2, fun p hp => ?_⟩
              obtain ⟨z1, z2, z3⟩ := newLst hh hp (r1.rep n.toNat)
              exact q _ _ _ z2 z1 z3
            · exact q.elim
          | true => rw [e1] at q; exact q.elim
        | _ => rw [e1] at q; exact q.elim
    | _ => exact q.elim
  | _ => exact q.elim
where
  mul_str1 {pins : List (Addr × Obj)} {σ : St} {H : Hp} {s : Shared} {Q : VK} {z : Str} {n : Int} {t t' : Tok} (I : Inv X pins σ H s) (h1 : z.length = 1) (h2 : n ≤ 1000000) (h3 : -1000000 ≤ n) (q : Q (.str ⟨(List.replicate n.toNat z.cps.toList).flatten.toArray⟩) H) :
      wpAny (model X.prog X.w) X.A (binaryOp .Mult (.str z t) (.int n t')) (EP X pins σ Q) X.xe s := by
    have e0 : (decide (n < -(2 ^ 63 : Int)) || decide (n ≥ 2 ^ 63)) = false := by
      rw [Bool.or_eq_false_iff, decide_eq_false_iff_not, decide_eq_false_iff_not]
      omega
    refine PySem.SB.mul (x := z) (n := n) ⟨e0, fun hn _ => ?_, fun hn _ => ?_⟩ fun t2 k => ⟨.str (Txt.mul z n), H, I.tok _, ⟨_, rfl⟩, ?_⟩
    · rw [h1]
      have : (1 : Int) ≤ (2 ^ 63 - 1) / n := by
        rw [Int.le_ediv_iff_mul_le (by omega)]
        omega
      omega
    · rw [h1, Nat.one_mul]
      have : n.toNat ≤ 1000000 := by omega
      show decide (n.toNat > sizeLine) = false
      rw [decide_eq_false_iff_not, sizeLine_eq]
      omega
    · have e : Txt.mul z n = ⟨(List.replicate n.toNat z.cps.toList).flatten.toArray⟩ := by
        unfold Txt.mul
        split
        · rename_i hn
          have : n.toNat = 0 := by omega
          rw [this]
          rfl
        · split
          · rename_i hn h4
            have h5 : n = 1 := by
              rw [h1] at h4
              simpa using h4
            subst h5
            simp
          · congr 1
            have key : ∀ (m : Nat) (acc : Array Nat), (List.replicate m z.cps).foldl (· ++ ·) acc = acc ++ (List.replicate m z.cps.toList).flatten.toArray := by
              intro m
              induction m with
              | zero => intro acc; simp
              | succ m ih =>
                intro acc
                rw [List.replicate_succ, List.foldl_cons, ih, List.replicate_succ, List.flatten_cons]
                apply Array.ext'
                simp
            rw [key]
            simp
      rw [e]
      exact q
def pMod : Op2 := fun a b A => match a, b with
  | .int i, .int j => if j = 0 then none else some (.int (i.fmod j), A)
  | _, _ => none
theorem os_mod : OpS E X (binaryOp .Mod) pMod := os_int (g := fun i j => if j = 0 then none else some (.int (i.fmod j))) (fun a b A => by cases a <;> first | rfl | (cases b <;> first | rfl | (unfold pMod; dsimp only; split <;> rfl))) fun i j v e => by
  try dsimp only at e
  split at e
  · cases e
  · rename_i hj
    cases e
    exact ⟨.int (i.fmod j), fun _ _ => rfl, fun pins s σ H a b Q I ra rb q => op_modN pins s σ H _ _ a b Q I ra rb ⟨i, j, rfl, rfl, hj, q⟩⟩
def pFdiv : Op2 := fun a b A => match a, b with
  | .int i, .int j => if j ≠ 0 ∧ j.natAbs < 1073741824 then some (.int (i.fdiv j), A) else none
  | _, _ => none
theorem os_fdiv : OpS E X (binaryOp .FloorDiv) pFdiv := os_int (g := fun i j => if j ≠ 0 ∧ j.natAbs < 1073741824 then some (.int (i.fdiv j)) else none) (fun a b A => by cases a <;> first | rfl | (cases b <;> first | rfl | (unfold pFdiv; dsimp only; split <;> rfl))) fun i j v e => by
  try dsimp only at e
  split at e
  · rename_i hj
    cases e
    exact ⟨.int (i.fdiv j), fun _ _ => rfl, fun pins s σ H a b Q I ra rb q => op_fdivN pins s σ H _ _ a b Q I ra rb ⟨i, j, rfl, rfl, hj, q⟩⟩
  · cases e
def pPow : Op2 := fun a b A => match a, b with
  | .int i, .int j => if 0 ≤ j ∧ j ≤ 1000000 ∧ i.natAbs < 2 ^ 64 then some (.int (i ^ j.toNat), A) else none
  | _, _ => none
theorem os_pow : OpS E X (binaryOp .Pow) pPow := os_int (g := fun i j => if 0 ≤ j ∧ j ≤ 1000000 ∧ i.natAbs < 2 ^ 64 then some (.int (i ^ j.toNat)) else none) (fun a b A => by cases a <;> first | rfl | (cases b <;> first | rfl | (unfold pPow; dsimp only; split <;> rfl))) fun i j v e => by
  try dsimp only at e
  split at e
  · rename_i hj
    cases e
    exact ⟨.int (i ^ j.toNat), fun _ _ => rfl, fun pins s σ H a b Q I ra rb q => op_pow pins s σ H _ _ a b Q I ra rb ⟨i, j, rfl, rfl, hj, q⟩⟩
  · cases e

/-! ### order -/
def ltS (x y : Str) : Bool := decide (x.cps.toList < y.cps.toList)
def ordB (fi : Int → Int → Bool) (fs : Str → Str → Bool) : Op2 := fun a b A => match a, b with
  | .int i, .int j => some (.bl (fi i j), A)
  | .str x, .str y => some (.bl (fs x y), A)
  | _, _ => none
theorem os_ord {f : Value → Value → Sem Value} {fi : Int → Int → Bool} {fs : Str → Str → Bool} (h1 : OpR X f (rI0 fun i j => .bl (fi i j))) (h2 : OpR X f (fun x y H Q => ∃ i j, x = .str i ∧ y = .str j ∧ Q (.bl (fs i j)) H)) : OpS E X f (ordB fi fs) := by
  intro pins s σ H x y v u Q I rx ry h
  obtain ⟨ρ, A, a, b, hh, ha, hb, q⟩ := h
  unfold ordB at q
  cases a with
  | int i => cases b with
    | int j =>
      cases ha; cases hb
      exact h1 pins s σ H _ _ v u Q I rx ry ⟨i, j, rfl, rfl, q.pure hh rfl⟩
    | _ => exact q.elim
  | str i => cases b with
    | str j =>
      cases ha; cases hb
      exact h2 pins s σ H _ _ v u Q I rx ry ⟨i, j, rfl, rfl, q.pure hh rfl⟩
    | _ => exact q.elim
  | _ => exact q.elim
def pLt : Op2 := ordB (fun i j => decide (i < j)) ltS
def pLe : Op2 := ordB (fun i j => decide (i ≤ j)) fun x y => !ltS y x
def pGt : Op2 := ordB (fun i j => decide (j < i)) fun x y => ltS y x
def pGe : Op2 := ordB (fun i j => decide (j ≤ i)) fun x y => !ltS x y
theorem os_lt : OpS E X (compareOp .Lt) pLt := os_ord op_lt op_lt_str
theorem os_le : OpS E X (compareOp .LtE) pLe := os_ord op_le op_le_str
theorem os_gt : OpS E X (compareOp .Gt) pGt := os_ord op_gt op_gt_str
theorem os_ge : OpS E X (compareOp .GtE) pGe := os_ord op_ge op_ge_str

/-! ### equality -/
def scalA : AV → AV → Bool
  | .non, .non => true
  | .non, .int _ => true
  | .int _, .non => true
  | .non, .bl _ => true
  | .bl _, .non => true
  | .non, .str _ => true
  | .str _, .non => true
  | .int _, .int _ => true
  | .bl _, .bl _ => true
  | .str _, .str _ => true
  | .int _, .str _ => true
  | .str _, .int _ => true
  | .bl _, .str _ => true
  | .str _, .bl _ => true
  | _, _ => false
def flatEq : AV → AV → Bool
  | .non, .non => true
  | .bl a, .bl b => decide (a = b)
  | .int i, .int j => decide (i = j)
  | .str x, .str y => decide (x = y)
  | _, _ => false
def mapO {α β : Type} (f : α → Option β) : List α → Option (List β)
  | [] => some []
  | x :: xs => match f x, mapO f xs with
    | some d, some ds => some (d :: ds)
    | _, _ => none
def toD : Nat → AHp → AV → Option PyData
  | 0, _, _ => none
  | k + 1, A, v => match v with
    | .non => some .none
    | .bl b => some (.bool b)
    | .int i => some (.int i)
    | .str x => some (.str x)
    | .tup xs => (mapO (toD k A) xs).map .tuple
    | .ref n => (match A[n]? with
      | some (.lst xs _) => (mapO (toD k A) xs).map .list
      | _ => none)
    | _ => none
abbrev toDs (k : Nat) (A : AHp) : List AV → Option (List PyData) := mapO (toD k A)
theorem toDs_ok (hK : X.K = E.K) {ρ : List Addr} {H : Hp} {A : AHp} {k : Nat} (ih : ∀ (v : AV) (v' : V) (d : PyData), toD k A v = some d → RV E ρ H v v' → Dp X.K H v' d) :
    ∀ (vs : List AV) (vs' : List V) (ds : List PyData), toDs k A vs = some ds → RVs E ρ H vs vs' → DpAll X.K H vs' ds
  | [], _, ds, e, r => by cases r; cases e; exact .nil
  | x :: xs, _, ds, e, r => by
    obtain ⟨y, ys, rfl, r1, r2⟩ := r
    unfold toDs mapO at e
    cases e1 : toD k A x with
    | none => rw [e1] at e; cases e
    | some d =>
      cases e2 : mapO (toD k A) xs with
      | none => rw [e1, e2] at e; cases e
      | some ds' =>
        rw [e1, e2] at e
        cases e
        exact .cons (ih x y d e1 r1) (toDs_ok hK ih xs ys ds' e2 r2)
theorem toD_ok1 (hK : X.K = E.K) {ρ : List Addr} {H : Hp} {A : AHp} (hh : RH E ρ H A) : ∀ (k : Nat) (v : AV) (v' : V) (d : PyData), toD k A v = some d → RV E ρ H v v' → Dp X.K H v' d
  | 0, v, v', d, e, r => by cases e
  | k + 1, v, v', d, e, r => by
    have ih2 := toDs_ok hK (toD_ok1 hK hh k)
    unfold toD at e
    cases v with
    | non => cases r; cases e; exact .non
    | bl b => cases r; cases e; exact .bl b
    | int i => cases r; cases e; exact .int i
    | str x => cases r; cases e; exact .str x
    | tup xs =>
      obtain ⟨a, ys, rfl, s, r⟩ := r
      obtain ⟨ds, e1, rfl⟩ := Option.map_eq_some_iff.mp e
      exact .tup (.inl (.inl s)) (ih2 xs ys ds e1 r)
    | ref n =>
      obtain ⟨a, ea, rfl⟩ := r
      dsimp only at e
      cases e1 : A[n]? with
      | none => rw [e1] at e; cases e
      | some o => cases o with
        | lst xs ro =>
          rw [e1] at e
          obtain ⟨ds, e2, rfl⟩ := Option.map_eq_some_iff.mp e
          obtain ⟨a', ys, ea', r, rd', _⟩ := hh.lst e1
          rw [ea] at ea'; cases ea'
          exact .lst (.inl rd') (ih2 xs ys ds e2 r)
        | _ => rw [e1] at e; cases e
    | _ => cases e
theorem toD_ok (hK : X.K = E.K) {ρ : List Addr} {H : Hp} {A : AHp} (hh : RH E ρ H A) (k : Nat) :
    (∀ (v : AV) (v' : V) (d : PyData), toD k A v = some d → RV E ρ H v v' → Dp X.K H v' d) ∧ ∀ (vs : List AV) (vs' : List V) (ds : List PyData), toDs k A vs = some ds → RVs E ρ H vs vs' → DpAll X.K H vs' ds :=
  ⟨toD_ok1 hK hh k, toDs_ok hK (toD_ok1 hK hh k)⟩
/-- == of two values, where it is told -/
def eqB (a b : AV) (A : AHp) : Option Bool := if scalA a b then some (flatEq a b) else match toD 40 A a, toD 40 A b with
  | some d, some e => if SeqAt.shaped d && SeqAt.shaped e then some (PyData.eqv d e) else none
  | _, _ => none
def pEq : Op2 := fun a b A => (eqB a b A).map fun r => (.bl r, A)
def pNe : Op2 := fun a b A => (eqB a b A).map fun r => (.bl (!r), A)
theorem scal_ok {ρ : List Addr} {H : Hp} {a b : AV} {x y : V} (h : scalA a b = true) (ha : RV E ρ H a x) (hb : RV E ρ H b y) : scal x y = true ∧ decide (x = y) = flatEq a b := by
  cases a <;> cases b <;> first | (simp [scalA] at h; done) | (cases ha; cases hb; refine ⟨rfl, ?_⟩; first | rfl | simp [flatEq])
theorem os_eqG (hK : X.K = E.K) (hu : X.A.units + 64 < cLine) {f : Value → Value → Sem Value} {p : Op2} (neg : Bool) (hp : ∀ a b A, p a b A = (eqB a b A).map fun r => (.bl (neg ^^ r), A))
    (h1 : OpR X f (fun x y H Q => scal x y = true ∧ Q (.bl (neg ^^ decide (x = y))) H)) (h2 : OpR X f (fun x y H Q => ∃ d e, Dp X.K H x d ∧ Dp X.K H y e ∧ SeqAt.shaped d = true ∧ SeqAt.shaped e = true ∧ Q (.bl (neg ^^ PyData.eqv d e)) H)) : OpS E X f p := by
  intro pins s σ H x y v u Q I rx ry h
  obtain ⟨ρ, A, a, b, hh, ha, hb, q⟩ := h
  rw [hp] at q
  unfold eqB at q
  cases hs : scalA a b with
  | true =>
    rw [hs, if_pos rfl] at q
    obtain ⟨z1, z2⟩ := scal_ok hs ha hb
    refine h1 pins s σ H _ _ v u Q I rx ry ⟨z1, ?_⟩
    rw [z2]
    exact q.pure hh rfl
  | false =>
    rw [hs, if_neg Bool.false_ne_true] at q
    cases e1 : toD 40 A a with
    | none => rw [e1] at q; exact q.elim
    | some d => cases e2 : toD 40 A b with
      | none => rw [e1, e2] at q; exact q.elim
      | some e =>
        rw [e1, e2] at q
        dsimp only at q
        cases hz : SeqAt.shaped d && SeqAt.shaped e with
        | false => rw [hz] at q; exact q.elim
        | true =>
          rw [hz] at q
          obtain ⟨z1, z2⟩ := Bool.and_eq_true_iff.mp hz
          exact h2 pins s σ H _ _ v u Q I rx ry ⟨d, e, (toD_ok hK hh 40).1 a x d e1 ha, (toD_ok hK hh 40).1 b y e e2 hb, z1, z2, q.pure hh rfl⟩
theorem os_eq (hK : X.K = E.K) (hu : X.A.units + 64 < cLine) : OpS E X (compareOp .Eq) pEq :=
  os_eqG hK hu false (fun a b A => by unfold pEq; simp) (fun pins s σ H x y v u Q I rx ry h => op_eq pins s σ H x y v u Q I rx ry (by simpa [rEq] using h)) fun pins s σ H x y v u Q I rx ry h => op_eqD hu pins s σ H x y v u Q I rx ry (by simpa [rEqD] using h)
theorem os_ne (hK : X.K = E.K) (hu : X.A.units + 64 < cLine) : OpS E X (compareOp .NotEq) pNe :=
  os_eqG hK hu true (fun a b A => by unfold pNe; simp) (fun pins s σ H x y v u Q I rx ry h => op_ne pins s σ H x y v u Q I rx ry (by simpa [rNe] using h)) fun pins s σ H x y v u Q I rx ry h => op_neD hu pins s σ H x y v u Q I rx ry (by simpa [rNeD] using h)
def isNon : AV → Bool
  | .non => true
  | _ => false
def pIs : Op2 := fun a b A => match b with
  | .non => some (.bl (isNon a), A)
  | _ => none
def pIsNot : Op2 := fun a b A => match b with
  | .non => some (.bl (!isNon a), A)
  | _ => none
theorem isNon_ok {ρ : List Addr} {H : Hp} {a : AV} {x : V} (ha : RV E ρ H a x) : decide (x = .non) = isNon a := by
  cases a with
  | non => cases ha; rfl
  | bl b => cases ha; rfl
  | int i => cases ha; rfl
  | str x => cases ha; rfl
  | tup xs => obtain ⟨a, ys, rfl, _⟩ := ha; rfl
  | ktup xs => obtain ⟨a, ys, rfl, _⟩ := ha; rfl
  | kl xs => obtain ⟨a, ys, rfl, _⟩ := ha; rfl
  | ref n => obtain ⟨a, _, rfl⟩ := ha; rfl
  | exc c r => obtain ⟨a, d, rfl, _⟩ := ha; rfl
  | ty n => cases ha; rfl
  | cls c => cases ha; rfl
theorem os_is : OpS E X (compareOp .Is) pIs := by
  intro pins s σ H x y v u Q I rx ry h
  obtain ⟨ρ, A, a, b, hh, ha, hb, q⟩ := h
  cases b with
  | non =>
    cases hb
    refine op_isN pins s σ H _ _ v u Q I rx ry ⟨rfl, ?_⟩
    rw [isNon_ok ha]
    exact q.pure hh rfl
  | _ => exact q.elim
theorem os_isnot : OpS E X (compareOp .IsNot) pIsNot := by
  intro pins s σ H x y v u Q I rx ry h
  obtain ⟨ρ, A, a, b, hh, ha, hb, q⟩ := h
  cases b with
  | non =>
    cases hb
    refine op_notN pins s σ H _ _ v u Q I rx ry ⟨rfl, ?_⟩
    rw [isNon_ok ha]
    exact q.pure hh rfl
  | _ => exact q.elim
end
end Ev
end
section
/-! Ev, fourth part: expressions. -/
namespace Ev
open PySem PySem.Spec L2
set_option autoImplicit false
/-- where one stands: room for calls k deep -/
structure Ctx (E : En) (k : Nat) (X : Cx) (W : WX) : Prop where
  hK : X.K = E.K
  calm : X.calm = true
  room : Room k X.A
  tk : Takes X W
  po : PassesOwn (model X.prog X.w) X.A X.env X.xe
section
variable {E : En} {X : Cx} {W : WX} {k : Nat}
theorem Ctx.hu (c : Ctx E k X W) : X.A.units + 64 < cLine := c.room.units
theorem Ctx.hu1 (c : Ctx E k X W) : X.A.units + 1 < cLine := by have := c.room.units; omega

/-! ### truth -/
def truA (v : AV) (A : AHp) : Option Bool := match v with
  | .non => some false
  | .bl b => some b
  | .int i => some (i != 0)
  | .str x => if x.length ≤ sizeLine then some ((x.length : Int) != 0) else none
  | .tup xs => some (!xs.isEmpty)
  | .ref n => (match A[n]? with
    | some (.lst xs _) => some (!xs.isEmpty)
    | _ => none)
  | _ => none
theorem isEmpty_rvs {ρ : List Addr} {H : Hp} {xs : List AV} {ys : List V} (h : RVs E ρ H xs ys) : (!xs.isEmpty) = !ys.isEmpty := by
  cases xs with
  | nil => cases h; rfl
  | cons x xs => obtain ⟨y, ys, rfl, _⟩ := h; rfl
theorem tru_okA (hK : X.K = E.K) {ρ : List Addr} {H : Hp} {A : AHp} (hh : RH E ρ H A) {v : AV} {x : V} (r : RV E ρ H v x) {b : Bool} (e : truA v A = some b) : TruV X.K x H b := by
  cases v with
  | non => cases r; simp only [truA, Option.some.injEq] at e; exact e.symm
  | bl c => cases r; simp [truA] at e; exact e.symm
  | int i => cases r; simp [truA] at e; show b = (i != 0); rw [← e]
  | str z =>
    cases r
    unfold truA at e
    dsimp only at e
    split at e
    · cases e
      exact ⟨by assumption, rfl⟩
    · cases e
  | tup xs =>
    obtain ⟨a, ys, rfl, s, q⟩ := r
    simp only [truA, Option.some.injEq] at e
    refine .inr (.inl ⟨ys, .inl (.inl s), ?_⟩)
    rw [← isEmpty_rvs q, ← e]
  | ref n =>
    unfold truA at e
    dsimp only at e
    cases e1 : A[n]? with
    | none => rw [e1] at e; cases e
    | some o => cases o with
      | lst xs ro =>
        rw [e1] at e
        cases e
        obtain ⟨a, ys, p1, q, w, _⟩ := hh.lst e1
        have ex := RVref r p1
        subst ex
        exact .inl ⟨ys, .inl w, isEmpty_rvs q⟩
      | dict kvs lk => rw [e1] at e; cases e
      | ins c fs => rw [e1] at e; cases e
  | exc c i => simp [truA] at e
  | ktup xs => simp [truA] at e
  | kl xs => simp [truA] at e
  | ty n => simp [truA] at e
  | cls c => simp [truA] at e

/-- the truth of a denotation's value -/
def asT (v : AV) (A : AHp) : Res Bool := match truA v A with
  | some b => .ok b A
  | none => .bad
def dTru (f : Den AV) : Den Bool := fun σ A => (f σ A).bind asT
theorem st_tru {e : Expr} {f : Den AV} (c : Ctx E k X W) (h : SE E X W e f) (he : ∀ whole, isTrue e X.env whole = (do let v ← whole; standAt e.pos; holding [v] (truthy v))) : STt E X W e (dTru f) := by
  refine PT.imp (pt_truth h he) fun σ H Q h => ?_
  refine rd_step h fun x' H1 ρ σa A x hs hh hx q => ?_
  unfold asT at q
  cases e : truA x A with
  | none => rw [e] at q; exact q.elim
  | some b =>
    rw [e] at q
    exact ⟨b, tru_okA c.hK hh hx e, q ρ H1 b (Ext.refl _ _) hh rfl⟩
def dNotT (f : Den Bool) : Den Bool := fun σ A => (f σ A).bind fun b A1 => .ok (!b) A1
theorem st_not {e : Expr} {f : Den Bool} {pos : Pos} (h : STt E X W e f) : STt E X W (.UnaryOp .Not e pos) (dNotT f) := by
  refine PT.imp (pt_not h) fun σ H Q h => ?_
  refine rd_step h fun x' H1 ρ σa A x hs hh hx q => ?_
  cases hx
  exact q ρ H1 _ (Ext.refl _ _) hh rfl
def dAndT (fa fb : Den Bool) : Den Bool := fun σ A => (fa σ A).bind fun b A1 => if b = true then fb σ A1 else .ok false A1
def dOrT (fa fb : Den Bool) : Den Bool := fun σ A => (fa σ A).bind fun b A1 => if b = true then .ok true A1 else fb σ A1
theorem sw_and1 {a : Expr} {f : Den Bool} {pos : Pos} (h : STt E X W a f) : SW E X W (.BoolOp .And [a] pos) f := pw_and1 h
theorem sw_or1 {a : Expr} {f : Den Bool} {pos : Pos} (h : STt E X W a f) : SW E X W (.BoolOp .Or [a] pos) f := pw_or1 h
theorem sw_and {a b : Expr} {rest : List Expr} {fa fb : Den Bool} {pos : Pos} (ha : STt E X W a fa) (hb : SW E X W (.BoolOp .And (b :: rest) pos) fb) : SW E X W (.BoolOp .And (a :: b :: rest) pos) (dAndT fa fb) := by
  refine PW.imp (pw_and ha hb) fun σ H Q h => ?_
  refine rd_step h fun x' H1 ρ σa A x hs hh hx q => ?_
  cases hx
  cases x' with
  | true => exact ⟨ρ, σa, A, hs, hh, q⟩
  | false => exact q ρ H1 _ (Ext.refl _ _) hh rfl
theorem sw_or {a b : Expr} {rest : List Expr} {fa fb : Den Bool} {pos : Pos} (ha : STt E X W a fa) (hb : SW E X W (.BoolOp .Or (b :: rest) pos) fb) : SW E X W (.BoolOp .Or (a :: b :: rest) pos) (dOrT fa fb) := by
  refine PW.imp (pw_or ha hb) fun σ H Q h => ?_
  refine rd_step h fun x' H1 ρ σa A x hs hh hx q => ?_
  cases hx
  cases x' with
  | false => exact ⟨ρ, σa, A, hs, hh, q⟩
  | true => exact q ρ H1 _ (Ext.refl _ _) hh rfl
theorem st_w {e : Expr} {f : Den Bool} (h : SW E X W e f) : STt E X W e f := h.pt
/-- and, or, not as values, by truth -/
def dAndV (fa fb : Den AV) : Den AV := fun σ A => (fa σ A).bind fun x A1 => match truA x A1 with
  | some true => fb σ A1
  | some false => .ok x A1
  | none => .bad
def dOrV (fa fb : Den AV) : Den AV := fun σ A => (fa σ A).bind fun x A1 => match truA x A1 with
  | some true => .ok x A1
  | some false => fb σ A1
  | none => .bad
def dNotV (fa : Den AV) : Den AV := fun σ A => (fa σ A).bind fun x A1 => match truA x A1 with
  | some b => .ok (.bl (!b)) A1
  | none => .bad
theorem se_one {op : BoolOp} {a : Expr} {fa : Den AV} {pos : Pos} (ha : SE E X W a fa) : SE E X W (.BoolOp op [a] pos) fa := pe_one ha
theorem se_and {a b : Expr} {rest : List Expr} {fa fb : Den AV} {pos : Pos} (c : Ctx E k X W) (ha : SE E X W a fa) (hb : SE E X W (.BoolOp .And (b :: rest) pos) fb) : SE E X W (.BoolOp .And (a :: b :: rest) pos) (dAndV fa fb) := by
  refine PE.imp (pe_andT ha hb) fun σ H Q h => ?_
  refine rd_step h fun x' H1 ρ σa A x hs hh hx q => ?_
  cases e : truA x A with
  | none => rw [e] at q; exact q.elim
  | some b =>
    rw [e] at q
    refine ⟨b, tru_okA c.hK hh hx e, ?_⟩
    cases b with
    | true => exact ⟨ρ, σa, A, hs, hh, q⟩
    | false => exact q ρ H1 _ (Ext.refl _ _) hh hx
theorem se_or {a b : Expr} {rest : List Expr} {fa fb : Den AV} {pos : Pos} (c : Ctx E k X W) (ha : SE E X W a fa) (hb : SE E X W (.BoolOp .Or (b :: rest) pos) fb) : SE E X W (.BoolOp .Or (a :: b :: rest) pos) (dOrV fa fb) := by
  refine PE.imp (pe_orT ha hb) fun σ H Q h => ?_
  refine rd_step h fun x' H1 ρ σa A x hs hh hx q => ?_
  cases e : truA x A with
  | none => rw [e] at q; exact q.elim
  | some b =>
    rw [e] at q
    refine ⟨b, tru_okA c.hK hh hx e, ?_⟩
    cases b with
    | false => exact ⟨ρ, σa, A, hs, hh, q⟩
    | true => exact q ρ H1 _ (Ext.refl _ _) hh hx
theorem se_not {a : Expr} {fa : Den AV} {pos : Pos} (c : Ctx E k X W) (ha : SE E X W a fa) : SE E X W (.UnaryOp .Not a pos) (dNotV fa) := by
  refine PE.imp (pe_notT ha) fun σ H Q h => ?_
  refine rd_step h fun x' H1 ρ σa A x hs hh hx q => ?_
  cases e : truA x A with
  | none => rw [e] at q; exact q.elim
  | some b =>
    rw [e] at q
    exact ⟨b, tru_okA c.hK hh hx e, q ρ H1 _ (Ext.refl _ _) hh rfl⟩
def dIf (ft : Den Bool) (fa fb : Den AV) : Den AV := fun σ A => (ft σ A).bind fun b A1 => if b = true then fa σ A1 else fb σ A1
theorem se_if {t a b : Expr} {ft : Den Bool} {fa fb : Den AV} {pos : Pos} (ht : STt E X W t ft) (ha : SE E X W a fa) (hb : SE E X W b fb) : SE E X W (.IfExp t a b pos) (dIf ft fa fb) := by
  refine PE.imp (pe_ifExp ht ha hb) fun σ H Q h => ?_
  refine rd_step h fun x' H1 ρ σa A x hs hh hx q => ?_
  cases hx
  cases x' with
  | false => exact ⟨ρ, σa, A, hs, hh, q⟩
  | true => exact ⟨ρ, σa, A, hs, hh, q⟩
/-- a < b < c -/
def dChain (p p' : Op2) (fa fb fc : Den AV) : Den AV := fun σ A => (fa σ A).bind fun x A1 => (fb σ A1).bind fun y A2 => (ofO (p x y A2)).bind fun z A3 => match z with
  | .bl true => (fc σ A3).bind fun w A4 => ofO (p' y w A4)
  | .bl false => .ok (.bl false) A3
  | _ => .bad
theorem chain_rd {p p' : Op2} {fa fb fc : Den AV} {σ : St} {H : Hp} {Q : VK} (h : rd E (RV E) (dChain p p' fa fb fc) W σ H Q) :
    tChain (r2 E p) (r2 E p') (rd E (RV E) fa W) (rd E (RV E) fb W) (rd E (RV E) fc W) σ H Q := by
  refine rd_step h fun x' H1 ρ σa A x hs hh hx q => ?_
  refine ⟨ρ, σa, A, hs, hh, ?_⟩
  cases e : fb σa A with
  | err c i A2 => rw [e] at q; exact q
  | bad => rw [e] at q; exact q
  | ok y A2 =>
    rw [e] at q
    intro ρ2 H2 y' xt rh ry
    have q : Post E (RV E) ((ofO (p x y A2)).bind fun z A3 => match z with
      | .bl true => (fc σa A3).bind fun w A4 => ofO (p' y w A4)
      | .bl false => .ok (.bl false) A3
      | _ => .bad) ρ H1 Q fun c d H' => W c d σ H' := q
    refine ⟨ρ2, A2, x, y, rh, hx.ext xt, ry, ?_⟩
    cases e2 : p x y A2 with
    | none => rw [e2] at q; exact q
    | some zz =>
      obtain ⟨z, A3⟩ := zz
      rw [e2] at q
      have q := q.ext xt
      intro ρ3 H3 z' xt3 rh3 rz
      cases z with
      | bl b =>
        cases rz
        refine ⟨b, rfl, ?_⟩
        cases b with
        | false => exact q _ _ _ xt3 rh3 rfl
        | true =>
          refine ⟨ρ3, σa, A3, (hs.ext xt).ext xt3, rh3, ?_⟩
          have q : Post E (RV E) ((fc σa A3).bind fun w A4 => ofO (p' y w A4)) ρ2 H2 Q fun c d H' => W c d σ H' := q
          cases e3 : fc σa A3 with
          | err c i A4 => rw [e3] at q; exact q.ext xt3
          | bad => rw [e3] at q; exact q
          | ok w A4 =>
            rw [e3] at q
            intro ρ4 H4 w' xt4 rh4 rw'
            exact ⟨ρ4, A4, y, w, rh4, (ry.ext xt3).ext xt4, rw', PostO.of_post (q.ext (xt3.trans xt4))⟩
      | _ => exact q.elim
theorem se_chain {op op' : CmpOp} {p p' : Op2} {a b c : Expr} {fa fb fc : Den AV} {pos : Pos} (ho : OpS E X (compareOp op) p) (ho' : OpS E X (compareOp op') p') (ha : SE E X W a fa) (hb : SE E X W b fb) (hc : SE E X W c fc)
    (hm : lastMarks [op, op'] [b, c] = false) : SE E X W (.Compare a [op, op'] [b, c] pos) (dChain p p' fa fb fc) :=
  PE.imp (pe_chain ho ho' ha hb hc hm) fun _ _ _ h => chain_rd h
theorem st_chain {op op' : CmpOp} {p p' : Op2} {a b c : Expr} {fa fb fc : Den AV} {pos : Pos} (ho : OpS E X (compareOp op) p) (ho' : OpS E X (compareOp op') p') (ha : SE E X W a fa) (hb : SE E X W b fb) (hc : SE E X W c fc)
    (hm : lastMarks [op, op'] [b, c] = false) : STt E X W (.Compare a [op, op'] [b, c] pos) (dTB (dChain p p' fa fb fc)) :=
  PT.imp (pt_chain ho ho' ha hb hc hm) fun _ _ _ h => chain_rd (tb_rd h)
/-! ### argument lists, displays -/
def dNil : Den (List AV) := fun _ A => .ok [] A
def dCons (f : Den AV) (g : Den (List AV)) : Den (List AV) := fun σ A => (f σ A).bind fun x A1 => (g σ A1).bind fun xs A2 => .ok (x :: xs) A2
theorem sa_nil : SA E X W [] dNil := PA.imp pa_nil fun σ H Q ⟨ρ, σa, A, hs, hh, q⟩ => q ρ H [] (Ext.refl _ _) hh rfl
theorem sa_cons {e : Expr} {es : List Expr} {f : Den AV} {g : Den (List AV)} (he : SE E X W e f) (hr : SA E X W es g) (hs : starEach (e :: es) X.env = (false, eval e X.env) :: starEach es X.env) : SA E X W (e :: es) (dCons f g) := by
  refine PA.imp (pa_cons he hr hs) fun σ H Q h => ?_
  refine rd_step h fun x' H1 ρ σa A x hs hh hx q => ?_
  refine ⟨ρ, σa, A, hs, hh, ?_⟩
  cases e : g σa A with
  | err c i A2 => rw [e] at q; exact q
  | bad => rw [e] at q; exact q
  | ok xs A2 =>
    rw [e] at q
    intro ρ2 H2 xs' xt rh r
    exact q ρ2 H2 (x' :: xs') xt rh ⟨x', xs', rfl, hx.ext xt, r⟩
def dTup (g : Den (List AV)) : Den AV := fun σ A => (g σ A).bind fun xs A1 => if xs.length ≤ sizeLine then .ok (.tup xs) A1 else .bad
def dLst (g : Den (List AV)) : Den AV := fun σ A => (g σ A).bind fun xs A1 => if xs.length ≤ sizeLine then .ok (.ref A1.length) (A1 ++ [.lst xs false]) else .bad
theorem se_tup {es : List Expr} {x1 : Nat} {g : Den (List AV)} {pos : Pos} (h : SA E X W es g) : SE E X W (.Tuple es x1 pos) (dTup g) := by
  refine PE.imp (pe_tup h) fun σ H Q h => ?_
  refine rd_step h fun x' H1 ρ σa A x hs hh hx q => ?_
  split at q
  · rename_i hz
    refine ⟨by rw [RVs.length hx]; exact hz, fun p hp => ?_⟩
    obtain ⟨z1, z2, z3⟩ := newTup hh hp hx
    exact q _ _ _ z2 z1 z3
  · exact q.elim
theorem se_lst {es : List Expr} {g : Den (List AV)} {pos : Pos} (h : SA E X W es g) : SE E X W (.List es pos) (dLst g) := by
  refine PE.imp (pe_lst h) fun σ H Q h => ?_
  refine rd_step h fun x' H1 ρ σa A x hs hh hx q => ?_
  split at q
  · rename_i hz
    refine ⟨by rw [RVs.length hx]; exact hz, fun p hp => ?_⟩
    obtain ⟨z1, z2, z3⟩ := newLst hh hp hx
    exact q _ _ _ z2 z1 z3
  · exact q.elim
/-! ### calls -/
abbrev OpN := List AV → AHp → Option (AV × AHp)
def rN (E : En) (p : OpN) : List V → Hp → VK → Prop := fun xs H Q => ∃ ρ A as, RH E ρ H A ∧ RVs E ρ H as xs ∧ PostO E (p as A) ρ H Q
def CallS (E : En) (X : Cx) (f : Value) (p : OpN) : Prop := CallR X f (rN E p)
def dCB (p : OpN) (g : Den (List AV)) : Den AV := fun σ A => (g σ A).bind fun xs A1 => ofO (p xs A1)
theorem cb_rd {p : OpN} {g : Den (List AV)} {σ : St} {H : Hp} {Q : VK} (h : rd E (RV E) (dCB p g) W σ H Q) : rd E (RVs E) g W σ H fun vs H1 => rN E p vs H1 Q :=
  rd_step h fun x' H1 ρ σa A x hs hh hx q => ⟨ρ, A, x, hh, hx, PostO.of_post q⟩
theorem se_callB {id : String} {p : OpN} {x : Str} {pp pos : Pos} {e : Expr} {es : List Expr} {g : Den (List AV)} (hc : CallS E X (.builtin id) p) (hg : Gl X x) (hm : X.mg x = none) (hv : bootBuiltins x = some (.builtin id)) (ha : SA E X W (e :: es) g)
    (hn : x ≠ "__name__") (hdb : (x == ("__debug__" : Str)) = false) (he : starEach (e :: es) X.env = (false, eval e X.env) :: starEach es X.env) (hpl : (backTo pos (starEach es X.env)).any (·.1) = false) : SE E X W (.Call (.Name x pp) (e :: es) [] pos) (dCB p g) :=
  PE.imp (pe_callB hc hg hm hv ha hn hdb he hpl) fun _ _ _ h => cb_rd h
theorem se_callT {T : String} {p : OpN} {x : Str} {pp pos : Pos} {e : Expr} {es : List Expr} {g : Den (List AV)} (hc : CallS E X (.type T) p) (hg : Gl X x) (hm : X.mg x = none) (hv : bootBuiltins x = some (.type T)) (ha : SA E X W (e :: es) g)
    (hn : x ≠ "__name__") (hdb : (x == ("__debug__" : Str)) = false) (he : starEach (e :: es) X.env = (false, eval e X.env) :: starEach es X.env) (hpl : (backTo pos (starEach es X.env)).any (·.1) = false) : SE E X W (.Call (.Name x pp) (e :: es) [] pos) (dCB p g) :=
  PE.imp (pe_callTy hc hg hm hv ha hn hdb he hpl) fun _ _ _ h => cb_rd h
/-- a def's promise -/
def spOf (E : En) (n : Nat) (g : List AV → M AV) : Sp := fun vs H Q Ex => ∃ ρ A as, RH E ρ H A ∧ RVs E ρ H as vs ∧ as.length = n ∧ Post E (RV E) (g as A) ρ H Q Ex
/-- a def that keeps it -/
structure Cal (E : En) (P : Program) (w : World) (K : PySem.W.Frag) (mg : Str → Option Value) (base : Heap) (k : Nat) (f : Addr) (n : Nat) (g : List AV → M AV) : Prop where
  kp : PySem.W.keepIn K (.ref f) = true
  ok : ∃ fd ps, FnOk P w K mg base (L2.CX P w) k f fd ps (spOf E n g) ∧ Binds K fd ps []
def dCall (n : Nat) (g : List AV → M AV) (fa : Den (List AV)) : Den AV := fun σ A => (fa σ A).bind fun vs A1 => if vs.length = n then g vs A1 else .bad
theorem se_call {n : Nat} {g : List AV → M AV} {f : Addr} {x : Str} {p pos : Pos} {e : Expr} {es : List Expr} {fa : Den (List AV)} (c : Ctx E k X W) (F : Cal E X.prog X.w X.K X.mg X.base k f n g) (hg : Gl X x) (hm : X.mg x = some (.ref f)) (ha : SA E X W (e :: es) fa)
    (hdb : (x == ("__debug__" : Str)) = false) (he : starEach (e :: es) X.env = (false, eval e X.env) :: starEach es X.env) (hpl : (backTo pos (starEach es X.env)).any (·.1) = false) : SE E X W (.Call (.Name x p) (e :: es) [] pos) (dCall n g fa) := by
  obtain ⟨fd, ps, F1, b⟩ := F.ok
  refine PE.imp (pe_callS F1 c.room hg hm F.kp b (E := WE W) (fun σ => passAt c.tk σ) ha hdb he hpl) fun σ H Q h => ?_
  refine rd_step h fun x' H1 ρ σa A x hs hh hx q => ?_
  split at q
  · exact ⟨ρ, A, x, hh, hx, by assumption, q⟩
  · exact q.elim
theorem se_call0 {g : List AV → M AV} {f : Addr} {x : Str} {p pos : Pos} (c : Ctx E k X W) (F : Cal E X.prog X.w X.K X.mg X.base k f 0 g) (hg : Gl X x) (hm : X.mg x = some (.ref f))
    (hdb : (x == ("__debug__" : Str)) = false) : SE E X W (.Call (.Name x p) [] [] pos) (dCall 0 g dNil) := by
  obtain ⟨fd, ps, F1, b⟩ := F.ok
  refine ⟨fun pins s σ H Q I h => ?_⟩
  refine wpAny_Call_Name_kw (ld_glob I hg hm ?_ hdb)
  refine PySem.W.callWith_K0 I.kIn F.kp (run_fnS (us := []) (vs := []) (E := WE W) F1 c.room b (passAt c.tk σ) I .nil ?_)
  obtain ⟨ρ, σa, A, hs, hh, q⟩ := h
  exact ⟨ρ, A, [], hh, rfl, rfl, q⟩
theorem se_gint {x : Str} {i : Int} {pos : Pos} (hg : Gl X x) (hm : ∃ t, X.mg x = some (.int i t)) (hd : (x == ("__debug__" : Str)) = false) : SE E X W (.Name x pos) (dC (.int i)) := by
  obtain ⟨t, hm⟩ := hm
  exact se_glob (v' := V.int i) hg hm ⟨t, rfl⟩ (fun _ _ => rfl) hd
theorem se_gstr {x z : Str} {pos : Pos} (hg : Gl X x) (hm : ∃ t, X.mg x = some (.str z t)) (hd : (x == ("__debug__" : Str)) = false) : SE E X W (.Name x pos) (dC (.str z)) := by
  obtain ⟨t, hm⟩ := hm
  exact se_glob (v' := V.str z) hg hm ⟨t, rfl⟩ (fun _ _ => rfl) hd
/-! ### - -/
def dNeg (f : Den AV) : Den AV := fun σ A => (f σ A).bind fun v A1 => match v with
  | .int i => .ok (.int (-i)) A1
  | _ => .bad
theorem se_neg {a : Expr} {f : Den AV} {pos : Pos} (ha : SE E X W a f) : SE E X W (.UnaryOp .USub a pos) (dNeg f) := by
  refine PE.imp (pe_un un_neg ha) fun σ H Q h => ?_
  refine rd_step h fun x' H1 ρ σa A x hs hh hx q => ?_
  cases x with
  | int i =>
    cases hx
    exact ⟨i, rfl, q ρ H1 _ (Ext.refl _ _) hh rfl⟩
  | _ => exact q.elim
/-- names by a computed look -/
def visB (sc : Scope) (x : Str) : Bool := match sc.names.lookup x with
  | some .local => true
  | some .cell => true
  | some .free => true
  | _ => false
theorem vis_of {sc : Scope} {x : Str} (h : visB sc x = true) : Vis sc x := by
  unfold visB at h
  split at h
  · exact .inl (by assumption)
  · exact .inr (.inl (by assumption))
  · exact .inr (.inr (by assumption))
  · cases h
def locB (sc : Scope) (x : Str) : Bool := match sc.names.lookup x with
  | some .local => true
  | some .cell => true
  | _ => false
theorem loc_of {sc : Scope} {x : Str} (h : locB sc x = true) : Loc sc x := by
  unfold locB at h
  split at h
  · exact .inl (by assumption)
  · exact .inr (by assumption)
  · cases h
end
end Ev
end
section
/-! Ev, fifth part: subscripts, slices, dicts by values. -/
namespace Ev
open PySem PySem.Spec L2
set_option autoImplicit false
/-! ### keys -/
def keyOf1 : AV → Option Key
  | .int i => some (.inl i)
  | .str x => some (.inr x)
  | _ => none
def keysOf : List AV → Option (List Key)
  | [] => some []
  | v :: vs => match keyOf1 v, keysOf vs with
    | some k, some ks => some (k :: ks)
    | _, _ => none
def keyOf : AV → Option AK
  | .tup xs => (keysOf xs).map .t
  | .int i => some (.k (.inl i))
  | .str x => some (.k (.inr x))
  | _ => none
def key1V : Key → AV
  | .inl i => .int i
  | .inr x => .str x
def keyV : AK → AV
  | .k x => key1V x
  | .t xs => .tup (xs.map key1V)
def getK (kvs : List (AK × AV)) (k : AK) : Option AV := (kvs.find? fun p => decide (p.1 = k)).map (·.2)
def putA (kvs : List (AK × AV)) (k : AK) (v : AV) : List (AK × AV) := if (kvs.any fun p => decide (p.1 = k)) = true then kvs.map (fun p => if p.1 = k then (p.1, v) else p) else kvs ++ [(k, v)]
def dropA (kvs : List (AK × AV)) (k : AK) : List (AK × AV) := kvs.filter fun p => decide (p.1 ≠ k)
section
variable {E : En} {X : Cx} {W : WX} {k : Nat} {ρ : List Addr} {H : Hp}
theorem key1_ok {v : AV} {x : V} {k : Key} (e : keyOf1 v = some k) (r : RV E ρ H v x) : x = kV k := by
  cases v with
  | int i => cases r; cases e; rfl
  | str z => cases r; cases e; rfl
  | _ => cases e
theorem keys_ok : ∀ {vs : List AV} {xs : List V} {ks : List Key}, keysOf vs = some ks → RVs E ρ H vs xs → xs = ks.map kV
  | [], _, _, e, r => by cases r; cases e; rfl
  | v :: vs, _, _, e, r => by
    obtain ⟨y, ys, rfl, a, b⟩ := r
    unfold keysOf at e
    cases e1 : keyOf1 v with
    | none => rw [e1] at e; cases e
    | some k1 => cases e2 : keysOf vs with
      | none => rw [e1, e2] at e; cases e
      | some ks =>
        rw [e1, e2] at e
        cases e
        rw [key1_ok e1 a, keys_ok e2 b, List.map_cons]
theorem key1V_rv (k : Key) : RV E ρ H (key1V k) (kV k) := by cases k <;> rfl
theorem keyOf_k {v : AV} {x : V} {y : Key} (e : keyOf v = some (.k y)) (r : RV E ρ H v x) : x = kV y := by
  cases v with
  | int i => cases r; cases e; rfl
  | str z => cases r; cases e; rfl
  | tup xs => unfold keyOf at e; obtain ⟨_, _, e⟩ := Option.map_eq_some_iff.mp e; cases e
  | _ => cases e
theorem keyOf_t {v : AV} {x : V} {ks : List Key} (e : keyOf v = some (.t ks)) (r : RV E ρ H v x) : ∃ b, x = .ref b ∧ H b = some (.tup (ks.map kV)) := by
  cases v with
  | tup xs =>
    unfold keyOf at e
    obtain ⟨l, e1, e2⟩ := Option.map_eq_some_iff.mp e
    cases e2
    obtain ⟨a, ys, rfl, s, q⟩ := r
    rw [keys_ok e1 q] at s
    exact ⟨a, rfl, s⟩
  | _ => cases e
theorem rk_get : ∀ {l : List (AK × AV)} {m : List (Key × V)}, RK E ρ H l m → ∀ k : Key, (getK l (.k k) = none → valV m k = none) ∧ ∀ v, getK l (.k k) = some v → ∃ x, valV m k = some x ∧ RV E ρ H v x
  | [], _, r, k => by cases r; exact ⟨fun _ => rfl, fun v e => by cases e⟩
  | (a, v) :: l, _, r, k => by
    obtain ⟨k', v', r', rfl, rfl, h1, h2⟩ := r
    by_cases e : k' = k
    · subst e
      rw [valV_pos rfl]
      have e0 : getK ((AK.k k', v) :: l) (.k k') = some v := by simp [getK, List.find?_cons]
      rw [e0]
      exact ⟨fun z => (by cases z), fun w z => (by cases z; exact ⟨v', rfl, h1⟩)⟩
    · rw [valV_neg e]
      have e0 : getK ((AK.k k', v) :: l) (.k k) = getK l (.k k) := by simp [getK, List.find?_cons, e]
      rw [e0]
      exact rk_get h2 k
theorem rt_get : ∀ {l : List (AK × AV)} {m : List (List Key × V)}, RT E ρ H l m → ∀ k : List Key, (getK l (.t k) = none → valV m k = none) ∧ ∀ v, getK l (.t k) = some v → ∃ x, valV m k = some x ∧ RV E ρ H v x
  | [], _, r, k => by cases r; exact ⟨fun _ => rfl, fun v e => by cases e⟩
  | (a, v) :: l, _, r, k => by
    obtain ⟨k', v', r', rfl, rfl, h1, h2⟩ := r
    by_cases e : k' = k
    · subst e
      rw [valV_pos rfl]
      have e0 : getK ((AK.t k', v) :: l) (.t k') = some v := by simp [getK, List.find?_cons]
      rw [e0]
      exact ⟨fun z => (by cases z), fun w z => (by cases z; exact ⟨v', rfl, h1⟩)⟩
    · rw [valV_neg e]
      have e0 : getK ((AK.t k', v) :: l) (.t k) = getK l (.t k) := by simp [getK, List.find?_cons, e]
      rw [e0]
      exact rt_get h2 k
theorem rk_none : ∀ {l : List (AK × AV)} {m : List (Key × V)}, RK E ρ H l m → ∀ k : List Key, getK l (.t k) = none
  | [], _, r, k => rfl
  | (a, v) :: l, _, r, k => by
    obtain ⟨k', v', r', rfl, rfl, h1, h2⟩ := r
    have e0 : getK ((AK.k k', v) :: l) (.t k) = getK l (.t k) := by simp [getK, List.find?_cons]
    rw [e0]
    exact rk_none h2 k
theorem rt_none : ∀ {l : List (AK × AV)} {m : List (List Key × V)}, RT E ρ H l m → ∀ k : Key, getK l (.k k) = none
  | [], _, r, k => rfl
  | (a, v) :: l, _, r, k => by
    obtain ⟨k', v', r', rfl, rfl, h1, h2⟩ := r
    have e0 : getK ((AK.t k', v) :: l) (.k k) = getK l (.k k) := by simp [getK, List.find?_cons]
    rw [e0]
    exact rt_none h2 k
/-- a dict of either kind -/
def kindA (kvs : List (AK × AV)) (k : AK) : Bool := kvs.all fun p => match p.1, k with
  | .k _, .k _ => true
  | .t _, .t _ => true
  | _, _ => false
theorem AtD.rd {a : Addr} {lk : Bool} {u : HO} (h : AtD H a lk u) : Rd H a u := by
  cases lk with
  | true => exact .inr h
  | false => exact .inl h
/-- an empty dict is a dict of the other kind as well -/
theorem Inv.dk_dt {pins : List (Addr × Obj)} {σ : St} {s : Shared} {a : Addr} (I : Inv X pins σ H s) (e : H a = some (.dK [])) : Inv X pins σ (upd H a (.dT [])) s := by
  obtain ⟨z, hd, vs, rel, ob, es, ep, h1, h2, h3, h4, h5⟩ := I.hok a _ e
  have hv : vs = [] := by cases rel; rfl
  subst hv
  refine I.write (x := a) (e := a) (t' := s.toks) (h' := s.heap) (by rw [e]; exact True.intro) (.inl rfl) (fun b u _ q => q) ⟨_, h1⟩ ?_
  have hz : es.toList = [] := by
    obtain ⟨hp, _⟩ := h5
    cases q : es.toList with
    | nil => rfl
    | cons u us => rw [q] at hp; exact False.elim (by first | exact hp | cases hp)
  exact ⟨Nat.zero_le _, hd, [], .nil, ob, es, ep, h1, h2, h3, hz, List.nodup_nil⟩
theorem Inv.dt_dk {pins : List (Addr × Obj)} {σ : St} {s : Shared} {a : Addr} (I : Inv X pins σ H s) (e : H a = some (.dT [])) : Inv X pins σ (upd H a (.dK [])) s := by
  obtain ⟨z, hd, xs, rel, ob, es, ep, h1, h2, h3, h4, h5⟩ := I.hok a _ e
  have hv : xs = [] := by cases rel; rfl
  subst hv
  refine I.write (x := a) (e := a) (t' := s.toks) (h' := s.heap) (by rw [e]; exact True.intro) (.inl rfl) (fun b u _ q => q) ⟨_, h1⟩ ?_
  have hz : es = #[] := by
    apply Array.ext'
    simpa using h4
  subst hz
  refine ⟨Nat.zero_le _, hd, [], .nil, ob, #[], ep, h1, h2, h3, ?_, ?_, List.nodup_nil⟩
  · intro e he
    simp at he
  · first | exact True.intro | exact .nil | simp [Pairs]

/-! ### subscripts -/
def IxS (E : En) (X : Cx) (p : Op2) : Prop := IxR X (r2 E p)
theorem se_ix {p : Op2} {a b : Expr} {fa fb : Den AV} {pos : Pos} (hp : IxS E X p) (ha : SE E X W a fa) (hb : SE E X W b fb) (hs : PlainIx b) : SE E X W (.Subscript a b pos) (dBin p fa fb) :=
  PE.imp (pe_ix hp ha hb hs) fun _ _ _ h => bin_rd h
/-- a list, a tuple, a text by a number; a dict by a key -/
def pIx : Op2 := fun a b A => match a with
  | .tup xs => (match b with
    | .int i => (atI xs i).map fun v => (v, A)
    | _ => none)
  | .ktup xs => (match b with
    | .int i => (atI xs i).map fun v => (v, A)
    | _ => none)
  | .kl xs => (match b with
    | .int i => (atI xs i).map fun v => (v, A)
    | _ => none)
  | .str z => (match b with
    | .int i => if z.length ≤ sizeLine then (atI z.cps.toList i).map fun c => (.str ⟨#[c]⟩, A) else none
    | _ => none)
  | .ref n => (match A[n]? with
    | some (.lst xs _) => (match b with
      | .int i => (atI xs i).map fun v => (v, A)
      | _ => none)
    | some (.dict kvs _) => (match keyOf b with
      | some y => (getK kvs y).map fun v => (v, A)
      | none => none)
    | _ => none)
  | _ => none
theorem atI_rv {xs : List AV} {ys : List V} {i : Int} {v : AV} (r : RVs E ρ H xs ys) (e : atI xs i = some v) : ∃ y, atI ys i = some y ∧ RV E ρ H v y := by
  unfold atI at e ⊢
  rw [r.length]
  obtain ⟨j, e1, e2⟩ := Option.bind_eq_some_iff.mp e
  obtain ⟨y, e3, q⟩ := r.get e2
  exact ⟨y, by rw [e1]; exact e3, q⟩
/-- what a dict holds at a key -/
theorem dget {A : AHp} (hh : RH E ρ H A) {n : Nat} {kvs : List (AK × AV)} {lk : Bool} (e : A[n]? = some (.dict kvs lk)) {b : AV} {y : V} {ky : AK} (ek : keyOf b = some ky) (r : RV E ρ H b y) {v : AV} (ev : getK kvs ky = some v) :
    ∃ a v', ρ[n]? = some a ∧ DGet H a y (some v') ∧ RV E ρ H v v' := by
  obtain ⟨a, ea, q⟩ := hh.get e
  cases ky with
  | k k1 =>
    rcases q with ⟨kv', r1, w⟩ | ⟨kv', r1, w⟩
    · obtain ⟨v', e1, q1⟩ := (rk_get r1 k1).2 v ev
      exact ⟨a, v', ea, .inl ⟨kv', k1, AtD.rd w, keyOf_k ek r, e1.symm⟩, q1⟩
    · rw [rt_none r1 k1] at ev
      cases ev
  | t ks =>
    rcases q with ⟨kv', r1, w⟩ | ⟨kv', r1, w⟩
    · rw [rk_none r1 ks] at ev
      cases ev
    · obtain ⟨v', e1, q1⟩ := (rt_get r1 ks).2 v ev
      obtain ⟨b', ey, eb⟩ := keyOf_t ek r
      exact ⟨a, v', ea, .inr ⟨kv', ks, b', AtD.rd w, ey, eb, e1.symm⟩, q1⟩
theorem ix_all (c : Ctx E k X W) : IxS E X pIx := by
  intro value slice pins s σ H x y v u Q I rx ry h hs
  obtain ⟨ρ, A, a, b, hh, ha, hb, q⟩ := h
  unfold pIx at q
  cases a with
  | tup xs => cases b with
    | int i =>
      cases hb
      dsimp only at q
      cases e : atI xs i with
      | none => rw [e] at q; exact q.elim
      | some z =>
        rw [e] at q
        obtain ⟨p, ys, rfl, st, r⟩ := ha
        obtain ⟨w, ew, rw'⟩ := atI_rv r e
        exact ix_tup value slice pins s σ H _ _ v u Q I rx ry ⟨p, ys, i, w, rfl, rfl, .inl (.inl st), ew, q.pure hh rw'⟩ hs
    | _ => exact q.elim
  | ktup xs => cases b with
    | int i =>
      cases hb
      dsimp only at q
      cases e : atI xs i with
      | none => rw [e] at q; exact q.elim
      | some z =>
        rw [e] at q
        obtain ⟨p, ys, rfl, st, r⟩ := ha
        obtain ⟨w, ew, rw'⟩ := atI_rv r e
        exact ix_tup value slice pins s σ H _ _ v u Q I rx ry ⟨p, ys, i, w, rfl, rfl, c.hK ▸ st, ew, q.pure hh rw'⟩ hs
    | _ => exact q.elim
  | kl xs => cases b with
    | int i =>
      cases hb
      dsimp only at q
      cases e : atI xs i with
      | none => rw [e] at q; exact q.elim
      | some z =>
        rw [e] at q
        obtain ⟨p, ys, rfl, st, r⟩ := ha
        obtain ⟨w, ew, rw'⟩ := atI_rv r e
        exact ix_list value slice pins s σ H _ _ v u Q I rx ry ⟨p, ys, i, w, rfl, rfl, c.hK ▸ st.sq, ew, q.pure hh rw'⟩ hs
    | _ => exact q.elim
  | str z => cases b with
    | int i =>
      cases hb
      cases ha
      dsimp only at q
      split at q
      · cases e : atI z.cps.toList i with
        | none => rw [e] at q; exact q.elim
        | some ch =>
          rw [e] at q
          exact ix_str value slice pins s σ H _ _ v u Q I rx ry ⟨z, i, ch, rfl, rfl, by assumption, e, q.pure hh rfl⟩ hs
      · exact q.elim
    | _ => exact q.elim
  | ref n =>
    dsimp only at q
    cases e1 : A[n]? with
    | none => rw [e1] at q; exact q.elim
    | some o => cases o with
      | lst xs ro =>
        rw [e1] at q
        cases b with
        | int i =>
          cases hb
          dsimp only at q
          cases e : atI xs i with
          | none => rw [e] at q; exact q.elim
          | some z =>
            rw [e] at q
            obtain ⟨p, ys, p1, r, w0, _⟩ := hh.lst e1
            have ex := RVref ha p1
            subst ex
            obtain ⟨w, ew, rw'⟩ := atI_rv r e
            exact ix_list value slice pins s σ H _ _ v u Q I rx ry ⟨p, ys, i, w, rfl, rfl, .inl w0, ew, q.pure hh rw'⟩ hs
        | _ => exact q.elim
      | dict kvs lk =>
        rw [e1] at q
        dsimp only at q
        cases ek : keyOf b with
        | none => rw [ek] at q; exact q.elim
        | some ky =>
          rw [ek] at q
          dsimp only at q
          cases ev : getK kvs ky with
          | none => rw [ev] at q; exact q.elim
          | some z =>
            rw [ev] at q
            obtain ⟨p, z', p1, g, rz⟩ := dget hh e1 ek hb ev
            have ex := RVref ha p1
            subst ex
            obtain rfl : v = Value.ref p := rx
            exact PyProof.Rows.tail_any (dict_typeIs I g) PySem.F.slot_dict_getitem.lookup (d_getItem c.hu1 I g ry fun w' s' I' rw' => ⟨z', H, I', rw', q.pure hh rz⟩) hs
      | ins cc fs => rw [e1] at q; exact q.elim
  | _ => exact q.elim
/-! ### slices -/
abbrev OpSl := AV → Option Int → Option Int → AHp → Option (AV × AHp)
def cutA {α : Type} (xs : List α) (lo hi : Option Int) : List α := (xs.drop (HT.sIx xs.length 0 lo)).take (HT.sIx xs.length xs.length hi - HT.sIx xs.length 0 lo)
def pSl : OpSl := fun a lo hi A => match a with
  | .tup xs => some (.tup (cutA xs lo hi), A)
  | .str z => if z.length ≤ sizeLine then some (.str (cutS z lo hi), A) else none
  | .kl xs => some (.ref A.length, A ++ [.lst (cutA xs lo hi) false])
  | .ref n => (match A[n]? with
    | some (.lst xs _) => some (.ref A.length, A ++ [.lst (cutA xs lo hi) false])
    | _ => none)
  | _ => none
theorem cutA_rv {xs : List AV} {ys : List V} (r : RVs E ρ H xs ys) (lo hi : Option Int) : RVs E ρ H (cutA xs lo hi) (cutV ys lo hi) := by
  unfold cutA cutV
  rw [r.length]
  exact (r.drop _).take _
theorem cutA_all {α : Type} {xs : List α} {lo hi : Option Int} (h : HT.sIx xs.length 0 lo = 0 ∧ HT.sIx xs.length xs.length hi = xs.length) : cutA xs lo hi = xs := by
  unfold cutA
  rw [h.1, h.2]
  simp
theorem slr_all (hK : X.K = E.K) : SlR X (fun x lo hi H Q => ∃ ρ A a, RH E ρ H A ∧ RV E ρ H a x ∧ PostO E (pSl a lo hi A) ρ H Q) := by
  intro pins s σ H x v vl vu lo hi sl Q I rx hs pl pu h
  obtain ⟨ρ, A, a, hh, ha, q⟩ := h
  unfold pSl at q
  cases a with
  | tup xs =>
    obtain ⟨p, ys, rfl, st, r⟩ := ha
    refine sl_tupA pins s σ H _ v vl vu lo hi sl Q I rx hs pl pu ⟨p, ys, rfl, .inl (.inl st), fun e => ?_, fun _ t ht => ?_⟩
    · rw [r.length] at e
      have q : PostO E (some (.tup (cutA xs lo hi), A)) ρ H Q := q
      rw [cutA_all e] at q
      exact q.pure hh ⟨p, ys, rfl, st, r⟩
    · obtain ⟨z1, z2, z3⟩ := newTup hh ht (cutA_rv r lo hi)
      exact q _ _ _ z2 z1 z3
  | str z =>
    cases ha
    dsimp only at q
    split at q
    · exact sl_str pins s σ H _ v vl vu lo hi sl Q I rx hs pl pu ⟨z, rfl, by assumption, q.pure hh rfl⟩
    · exact q.elim
  | kl xs =>
    obtain ⟨p, ys, rfl, st, r⟩ := ha
    refine sl_list pins s σ H _ v vl vu lo hi sl Q I rx hs pl pu ⟨p, ys, rfl, hK ▸ st.sq, fun t ht => ?_⟩
    obtain ⟨z1, z2, z3⟩ := newLst hh ht (cutA_rv r lo hi)
    exact q _ _ _ z2 z1 z3
  | ref n =>
    dsimp only at q
    cases e1 : A[n]? with
    | none => rw [e1] at q; exact q.elim
    | some o => cases o with
      | lst xs ro =>
        rw [e1] at q
        obtain ⟨p, ys, p1, r, w0, _⟩ := hh.lst e1
        have ex := RVref ha p1
        subst ex
        refine sl_list pins s σ H _ v vl vu lo hi sl Q I rx hs pl pu ⟨p, ys, rfl, .inl w0, fun t ht => ?_⟩
        obtain ⟨z1, z2, z3⟩ := newLst hh ht (cutA_rv r lo hi)
        exact q _ _ _ z2 z1 z3
      | _ => rw [e1] at q; exact q.elim
  | _ => exact q.elim
/-- a part of a slice -/
abbrev DenO := Den (Option Int)
def relO (_ : List Addr) (_ : Hp) (a b : Option Int) : Prop := b = a
def dNoPart : DenO := fun _ A => .ok none A
def dPart (f : Den AV) : DenO := fun σ A => (f σ A).bind fun v A1 => match v with
  | .int i => .ok (some i) A1
  | _ => .bad
abbrev SO (E : En) (X : Cx) (W : WX) (e : Option Expr) (f : DenO) : Prop := PO X e (rd E relO f W)
theorem PO.imp {X : Cx} {e : Option Expr} {t t' : TO} (h : PO X e t) (k : ∀ σ H Q, t' σ H Q → t σ H Q) : PO X e t' := ⟨fun pins s σ H Q I q => h.run pins s σ H Q I (k σ H Q q)⟩
theorem so_none : SO E X W none dNoPart := PO.imp po_none fun σ H Q ⟨ρ, σa, A, hs, hh, q⟩ => q ρ H none (Ext.refl _ _) hh rfl
theorem so_some {e : Expr} {f : Den AV} (h : SE E X W e f) : SO E X W (some e) (dPart f) := by
  refine PO.imp (po_some h) fun σ H Q h => ?_
  refine rd_step h fun x' H1 ρ σa A x hs hh hx q => ?_
  cases x with
  | int i =>
    cases hx
    exact ⟨i, rfl, q ρ H1 _ (Ext.refl _ _) hh rfl⟩
  | _ => exact q.elim
def dSl (f : Den AV) (fl fh : DenO) : Den AV := fun σ A => (f σ A).bind fun v A1 => (fl σ A1).bind fun lo A2 => (fh σ A2).bind fun hi A3 => ofO (pSl v lo hi A3)
theorem se_sl {e : Expr} {lo hi : Option Expr} {f : Den AV} {fl fh : DenO} {p2 pos : Pos} (hK : X.K = E.K) (he : SE E X W e f) (hl : SO E X W lo fl) (hu : SO E X W hi fh) : SE E X W (.Subscript e (.Slice lo hi none p2) pos) (dSl f fl fh) := by
  refine PE.imp (pe_slice (slr_all (E := E) hK) he hl hu) fun σ H Q h => ?_
  refine rd_step h fun x' H1 ρ σa A x hs hh hx q => ?_
  refine ⟨ρ, σa, A, hs, hh, ?_⟩
  cases e1 : fl σa A with
  | err c i A2 => rw [e1] at q; exact q
  | bad => rw [e1] at q; exact q
  | ok lo A2 =>
    rw [e1] at q
    intro ρ2 H2 lo' xt rh rl
    cases rl
    refine ⟨ρ2, σa, A2, hs.ext xt, rh, ?_⟩
    have q : Post E (RV E) ((fh σa A2).bind fun hi A3 => ofO (pSl x lo hi A3)) ρ H1 Q fun c d H' => W c d σ H' := q
    cases e2 : fh σa A2 with
    | err c i A3 => rw [e2] at q; exact q.ext xt
    | bad => rw [e2] at q; exact q
    | ok hi A3 =>
      rw [e2] at q
      intro ρ3 H3 hi' xt3 rh3 rl3
      cases rl3
      exact ⟨ρ3, A3, x, rh3, (hx.ext xt).ext xt3, PostO.of_post (q.ext (xt.trans xt3))⟩
/-! ### in -/
def inB (a b : AV) (A : AHp) : Option Bool := match b with
  | .str z => (match a with
    | .str w => if w.cps.size = 1 then some (decide (w.cps.toList.headD 0 ∈ z.cps.toList)) else some (!(Builtin.Str.occurrences z w 0 z.length 1).isEmpty)
    | _ => none)
  | .tup ys => if flatA a && ys.all flatA then some (ys.any fun y => eqFlat y a) else none
  | .ktup ys => if flatA a && ys.all flatA then some (ys.any fun y => eqFlat y a) else none
  | .ref n => (match A[n]? with
    | some (.dict kvs lk) => (match keyOf a with
      | some y => if kindA kvs y && !(lk && kvs.isEmpty) then some (getK kvs y).isSome else none
      | none => none)
    | some (.lst ys _) => if flatA a && ys.all flatA then some (ys.any fun y => eqFlat y a) else (match toD 40 A a, toDs 40 A ys with
      | some d, some ds => if SeqAt.shaped d && SeqAt.shaped (.list ds) then some (ds.any fun z => PyData.eqv z d) else none
      | _, _ => none)
    | _ => none)
  | _ => none
where
  flatA : AV → Bool
    | .non => true
    | .bl _ => true
    | .int _ => true
    | .str _ => true
    | _ => false
  eqFlat : AV → AV → Bool
    | .non, .non => true
    | .bl a, .bl b => a == b
    | .bl a, .int b => (if a then 1 else 0) == b
    | .int a, .bl b => a == (if b then 1 else 0)
    | .int a, .int b => a == b
    | .str a, .str b => a == b
    | _, _ => false
def pIn : Op2 := fun a b A => (inB a b A).map fun r => (.bl r, A)
def pNotIn : Op2 := fun a b A => (inB a b A).map fun r => (.bl (!r), A)
theorem flat_rv {a : AV} {x : V} (h : inB.flatA a = true) (r : RV E ρ H a x) : flatV x = true := by
  cases a <;> first | (cases h; done) | (cases r; rfl)
theorem flats_rv : ∀ {as : List AV} {xs : List V}, as.all inB.flatA = true → RVs E ρ H as xs → xs.all flatV = true
  | [], _, _, r => by cases r; rfl
  | a :: as, _, h, r => by
    obtain ⟨y, ys, rfl, r1, r2⟩ := r
    rw [List.all_cons, Bool.and_eq_true] at h
    rw [List.all_cons, flat_rv h.1 r1, flats_rv h.2 r2]
    rfl
theorem eqFlat_rv {a b : AV} {x y : V} (ha : inB.flatA a = true) (hb : inB.flatA b = true) (r1 : RV E ρ H a x) (r2 : RV E ρ H b y) : eqV x y = inB.eqFlat a b := by
  cases a <;> first | (cases ha; done) | (cases b <;> first | (cases hb; done) | (cases r1; cases r2; rfl))
theorem inV_rv {a : AV} {x : V} (ha : inB.flatA a = true) (r1 : RV E ρ H a x) : ∀ {bs : List AV} {ys : List V}, bs.all inB.flatA = true → RVs E ρ H bs ys → inV x ys = bs.any fun y => inB.eqFlat y a
  | [], _, _, r => by cases r; rfl
  | b :: bs, _, h, r => by
    obtain ⟨y, ys, rfl, r2, r3⟩ := r
    rw [List.all_cons, Bool.and_eq_true] at h
    have ih := inV_rv ha r1 h.2 r3
    unfold inV at ih ⊢
    rw [List.any_cons, List.any_cons, ih, eqFlat_rv h.1 ha r2 r1]
theorem kind_none {kvs : List (AK × AV)} {kv' : List (Key × V)} (r : RK E ρ H kvs kv') {ks : List Key} (h : kindA kvs (.t ks) = true) : kvs = [] := by
  cases kvs with
  | nil => rfl
  | cons p l =>
    obtain ⟨k', v', r', rfl, e2, _⟩ := r
    unfold kindA at h
    rw [List.all_cons] at h
    obtain ⟨p1, p2⟩ := p
    cases e2
    cases h
theorem kind_noneT {kvs : List (AK × AV)} {kv' : List (List Key × V)} (r : RT E ρ H kvs kv') {k1 : Key} (h : kindA kvs (.k k1) = true) : kvs = [] := by
  cases kvs with
  | nil => rfl
  | cons p l =>
    obtain ⟨k', v', r', rfl, e2, _⟩ := r
    unfold kindA at h
    rw [List.all_cons] at h
    obtain ⟨p1, p2⟩ := p
    cases e2
    cases h
/-- a dict seen as of the key's kind (an empty one may be turned) -/
def AsK (E : En) (ρ : List Addr) (H : Hp) (kvs : List (AK × AV)) (ky : AK) (a : Addr) (lk : Bool) : Prop := match ky with
  | .k _ => ∃ kv', RK E ρ H kvs kv' ∧ AtD H a lk (.dK kv')
  | .t _ => ∃ kv', RT E ρ H kvs kv' ∧ AtD H a lk (.dT kv')
theorem RO_nil_k {a : Addr} (h : H a = some (.dK [])) : RO E ρ H (.dict [] false) a := .inl ⟨[], rfl, h⟩
theorem RO_nil_t {a : Addr} (h : H a = some (.dT [])) : RO E ρ H (.dict [] false) a := .inr ⟨[], rfl, h⟩
theorem set_same {α : Type} {A : List α} {n : Nat} {o : α} (e : A[n]? = some o) : A.set n o = A := by
  apply List.ext_getElem?
  intro i
  by_cases h : i = n
  · subst h
    rw [List.getElem?_set_self (List.getElem?_eq_some_iff.mp e).1, e]
  · rw [List.getElem?_set_ne (Ne.symm h)]
theorem toKind {A : AHp} {pins : List (Addr × Obj)} {σ : St} {s : Shared} (I : Inv X pins σ H s) (hh : RH E ρ H A) {n : Nat} {kvs : List (AK × AV)} {lk : Bool} (e : A[n]? = some (.dict kvs lk)) (ky : AK) (hk : kindA kvs ky = true) (hl : lk = true → kvs ≠ []) :
    ∃ H' a, ρ[n]? = some a ∧ Inv X pins σ H' s ∧ RH E ρ H' A ∧ Ext ρ H ρ H' ∧ AsK E ρ H' kvs ky a lk := by
  obtain ⟨a, ea, q⟩ := hh.get e
  cases ky with
  | k k1 =>
    rcases q with ⟨kv', r1, w⟩ | ⟨kv', r1, w⟩
    · exact ⟨H, a, ea, I, hh, Ext.refl _ _, kv', r1, w⟩
    · have e0 := kind_noneT r1 hk
      subst e0
      cases r1
      cases lk with
      | true => exact absurd rfl (hl rfl)
      | false =>
        have w : H a = some (.dT []) := w
        obtain ⟨z1, z2⟩ := hh.write (H' := upd H a (.dK [])) (o' := .dict [] false) e ea (fun b hb => upd_ne hb) (fun _ => RO_nil_k upd_same)
        have ez : A.set n (.dict [] false) = A := by
          exact set_same e
        rw [ez] at z1
        exact ⟨_, a, ea, Inv.dt_dk I w, z1, z2, [], rfl, upd_same⟩
  | t ks =>
    rcases q with ⟨kv', r1, w⟩ | ⟨kv', r1, w⟩
    · have e0 := kind_none r1 hk
      subst e0
      cases r1
      cases lk with
      | true => exact absurd rfl (hl rfl)
      | false =>
        have w : H a = some (.dK []) := w
        obtain ⟨z1, z2⟩ := hh.write (H' := upd H a (.dT [])) (o' := .dict [] false) e ea (fun b hb => upd_ne hb) (fun _ => RO_nil_t upd_same)
        have ez : A.set n (.dict [] false) = A := by
          exact set_same e
        rw [ez] at z1
        exact ⟨_, a, ea, Inv.dk_dt I w, z1, z2, [], rfl, upd_same⟩
    · exact ⟨H, a, ea, I, hh, Ext.refl _ _, kv', r1, w⟩
/-- what it holds at a key, there or not -/
theorem AsK.get {kvs : List (AK × AV)} {ky : AK} {a : Addr} {lk : Bool} (h : AsK E ρ H kvs ky a lk) {b : AV} {y : V} (ek : keyOf b = some ky) (r : RV E ρ H b y) :
    ∃ o, DGet H a y o ∧ (getK kvs ky = none → o = none) ∧ ∀ v, getK kvs ky = some v → ∃ x, o = some x ∧ RV E ρ H v x := by
  cases ky with
  | k k1 =>
    obtain ⟨kv', r1, w⟩ := h
    exact ⟨_, .inl ⟨kv', k1, AtD.rd w, keyOf_k ek r, rfl⟩, (rk_get r1 k1).1, (rk_get r1 k1).2⟩
  | t ks =>
    obtain ⟨kv', r1, w⟩ := h
    obtain ⟨b', ey, eb⟩ := keyOf_t ek r
    exact ⟨_, .inr ⟨kv', ks, b', AtD.rd w, ey, eb, rfl⟩, (rt_get r1 ks).1, (rt_get r1 ks).2⟩
theorem some_of_get {o : Option V} {r : Option AV} (h1 : r = none → o = none) (h2 : ∀ v, r = some v → ∃ x, o = some x ∧ RV E ρ H v x) : o.isSome = r.isSome := by
  cases r with
  | none => rw [h1 rfl]; rfl
  | some v =>
    obtain ⟨x, e, _⟩ := h2 v rfl
    rw [e]; rfl
theorem os_inG (hK : X.K = E.K) (hu1 : X.A.units + 1 < cLine) (hu : X.A.units + 65 < cLine) {f : Value → Value → Sem Value} {p : Op2} (neg : Bool) (hp : ∀ a b A, p a b A = (inB a b A).map fun r => (.bl (neg ^^ r), A))
    (h1 : OpR X f (fun x y H Q => ∃ (c : Nat) (z : Str), x = .str ⟨#[c]⟩ ∧ y = .str z ∧ Q (.bl (neg ^^ decide (c ∈ z.cps.toList))) H))
    (h2 : OpR X f (fun x y H Q => ∃ i j, x = .str i ∧ y = .str j ∧ Q (.bl (neg ^^ !(Builtin.Str.occurrences j i 0 j.length 1).isEmpty)) H))
    (h3 : OpR X f (fun x y H Q => ∃ p xs, y = .ref p ∧ (SqL X.K H p xs ∨ SqT X.K H p xs) ∧ flatV x = true ∧ xs.all flatV = true ∧ Q (.bl (neg ^^ inV x xs)) H))
    (h4 : OpR X f (fun x y H Q => ∃ d ds, Dp X.K H x d ∧ Dp X.K H y (.list ds) ∧ SeqAt.shaped d = true ∧ SeqAt.shaped (.list ds) = true ∧ Q (.bl (neg ^^ ds.any fun z => PyData.eqv z d)) H))
    (h5 : ∀ (pins : List (Addr × Obj)) (s : Shared) (σ : St) (H : Hp) (a : Addr) (y : V) (u : Value) (o : Option V) (Q : VK), Inv X pins σ H s → RelV y u → DGet H a y o → Q (.bl (neg ^^ o.isSome)) H → wpAny (model X.prog X.w) X.A (f u (.ref a)) (EP X pins σ Q) X.xe s) : OpS E X f p := by
  intro pins s σ H x y v u Q I rx ry h
  obtain ⟨ρ, A, a, b, hh, ha, hb, q⟩ := h
  rw [hp] at q
  unfold inB at q
  cases b with
  | str z => cases a with
    | str w =>
      cases ha; cases hb
      dsimp only at q
      split at q
      · rename_i hw
        obtain ⟨c, ec⟩ : ∃ c, w = ⟨#[c]⟩ := by
          obtain ⟨arr⟩ := w
          obtain ⟨l⟩ := arr
          match l, hw with
          | [c], _ => exact ⟨c, rfl⟩
        subst ec
        exact h1 pins s σ H _ _ v u Q I rx ry ⟨c, z, rfl, rfl, q.pure hh rfl⟩
      · exact h2 pins s σ H _ _ v u Q I rx ry ⟨w, z, rfl, rfl, q.pure hh rfl⟩
    | _ => exact q.elim
  | tup ys =>
    dsimp only at q
    split at q
    · rename_i hf
      rw [Bool.and_eq_true] at hf
      obtain ⟨p1, zs, rfl, st, r⟩ := hb
      refine h3 pins s σ H _ _ v u Q I rx ry ⟨p1, zs, rfl, .inr (.inl (.inl st)), flat_rv hf.1 ha, flats_rv hf.2 r, ?_⟩
      rw [inV_rv hf.1 ha hf.2 r]
      exact q.pure hh rfl
    · exact q.elim
  | ktup ys =>
    dsimp only at q
    split at q
    · rename_i hf
      rw [Bool.and_eq_true] at hf
      obtain ⟨p1, zs, rfl, st, r⟩ := hb
      refine h3 pins s σ H _ _ v u Q I rx ry ⟨p1, zs, rfl, .inr (hK ▸ st), flat_rv hf.1 ha, flats_rv hf.2 r, ?_⟩
      rw [inV_rv hf.1 ha hf.2 r]
      exact q.pure hh rfl
    · exact q.elim
  | ref n =>
    dsimp only at q
    cases e1 : A[n]? with
    | none => rw [e1] at q; exact q.elim
    | some o => cases o with
      | lst ys ro =>
        rw [e1] at q
        dsimp only at q
        obtain ⟨p1, zs, ep, r, w0, _⟩ := hh.lst e1
        have ex := RVref hb ep
        split at q
        · rename_i hf
          rw [Bool.and_eq_true] at hf
          subst ex
          refine h3 pins s σ H _ _ v u Q I rx ry ⟨p1, zs, rfl, .inl (.inl w0), flat_rv hf.1 ha, flats_rv hf.2 r, ?_⟩
          rw [inV_rv hf.1 ha hf.2 r]
          exact q.pure hh rfl
        · cases e2 : toD 40 A a with
          | none => rw [e2] at q; exact q.elim
          | some d => cases e3 : toDs 40 A ys with
            | none => rw [e2, e3] at q; exact q.elim
            | some ds =>
              rw [e2, e3] at q
              dsimp only at q
              split at q
              · rename_i hz
                rw [Bool.and_eq_true] at hz
                subst ex
                exact h4 pins s σ H _ _ v u Q I rx ry ⟨d, ds, (toD_ok hK hh 40).1 a x d e2 ha, .lst (.inl w0) ((toD_ok hK hh 40).2 ys zs ds e3 r), hz.1, hz.2, q.pure hh rfl⟩
              · exact q.elim
      | dict kvs lk =>
        rw [e1] at q
        dsimp only at q
        cases ek : keyOf a with
        | none => rw [ek] at q; exact q.elim
        | some ky =>
          rw [ek] at q
          dsimp only at q
          split at q
          · rename_i hk
            rw [Bool.and_eq_true] at hk
            obtain ⟨H1, a1, ea, I1, hh1, xt, as⟩ := toKind I hh e1 ky hk.1 (fun hl => by
              have z := hk.2
              rw [hl] at z
              intro e0
              subst e0
              cases z)
            have ex := RVref hb ea
            subst ex
            obtain rfl : u = Value.ref a1 := ry
            obtain ⟨o, g, g1, g2⟩ := as.get ek (ha.ext xt)
            refine h5 pins s σ H1 a1 x v o Q I1 rx g ?_
            rw [some_of_get g1 g2]
            have q2 : PostO E (some (.bl (neg ^^ (getK kvs ky).isSome), A)) ρ H Q := q
            exact q2 ρ H1 _ xt hh1 rfl
          · exact q.elim
      | ins cc fs => rw [e1] at q; exact q.elim
  | _ => exact q.elim
theorem os_in (c : Ctx E k X W) : OpS E X (compareOp .In) pIn := by
  have hu : X.A.units + 65 < cLine := by have := c.room.un; omega
  refine os_inG c.hK c.hu1 hu false (fun a b A => by unfold pIn; simp) ?_ ?_ ?_ ?_ ?_
  · exact fun pins s σ H x y v u Q I rx ry h => op_in_sign pins s σ H x y v u Q I rx ry (by simpa using h)
  · exact fun pins s σ H x y v u Q I rx ry h => op_in_str pins s σ H x y v u Q I rx ry (by simpa using h)
  · exact fun pins s σ H x y v u Q I rx ry h => op_in_seq pins s σ H x y v u Q I rx ry (by simpa [rIn] using h)
  · exact fun pins s σ H x y v u Q I rx ry h => op_inD hu pins s σ H x y v u Q I rx ry (by simpa [rInD] using h)
  · intro pins s σ H a y u o Q I ry g q
    exact d_in c.hu1 I g ry fun s' I' => ⟨.bl o.isSome, H, I', rfl, by simpa using q⟩
theorem os_notin (c : Ctx E k X W) : OpS E X (compareOp .NotIn) pNotIn := by
  have hu : X.A.units + 65 < cLine := by have := c.room.un; omega
  refine os_inG c.hK c.hu1 hu true (fun a b A => by unfold pNotIn; simp) ?_ ?_ ?_ ?_ ?_
  · exact fun pins s σ H x y v u Q I rx ry h => op_notIn_sign pins s σ H x y v u Q I rx ry (by simpa using h)
  · exact fun pins s σ H x y v u Q I rx ry h => op_notIn_str pins s σ H x y v u Q I rx ry (by simpa using h)
  · exact fun pins s σ H x y v u Q I rx ry h => op_notIn_seq pins s σ H x y v u Q I rx ry (by simpa [rIn] using h)
  · exact fun pins s σ H x y v u Q I rx ry h => op_notInD hu pins s σ H x y v u Q I rx ry (by simpa [rNotInD] using h)
  · intro pins s σ H a y u o Q I ry g q
    exact d_notIn c.hu1 I g ry fun s' I' => ⟨.bl (!o.isSome), H, I', rfl, by simpa using q⟩
end
end Ev
end
section
/-! Ev, sixth part: built-in functions, methods of built-in types, dicts made and stored. -/
namespace Ev
open PySem PySem.Spec L2
set_option autoImplicit false
section
variable {E : En} {X : Cx} {W : WX} {k : Nat} {ρ : List Addr} {H : Hp}
theorem rvs1 {a : AV} {xs : List V} (r : RVs E ρ H [a] xs) : ∃ x, xs = [x] ∧ RV E ρ H a x := by
  obtain ⟨y, ys, rfl, r1, r2⟩ := r
  cases r2
  exact ⟨y, rfl, r1⟩
theorem rvs2 {a b : AV} {xs : List V} (r : RVs E ρ H [a, b] xs) : ∃ x y, xs = [x, y] ∧ RV E ρ H a x ∧ RV E ρ H b y := by
  obtain ⟨y, ys, rfl, r1, r2⟩ := r
  obtain ⟨x, rfl, r3⟩ := rvs1 r2
  exact ⟨y, x, rfl, r1, r3⟩
theorem rvs3 {a b c : AV} {xs : List V} (r : RVs E ρ H [a, b, c] xs) : ∃ x y z, xs = [x, y, z] ∧ RV E ρ H a x ∧ RV E ρ H b y ∧ RV E ρ H c z := by
  obtain ⟨y, ys, rfl, r1, r2⟩ := r
  obtain ⟨x, z, rfl, r3, r4⟩ := rvs2 r2
  exact ⟨y, x, z, rfl, r1, r3, r4⟩
/-! ### len -/
def fLen : OpN := fun as A => match as with
  | [.str z] => if z.length ≤ sizeLine then some (.int z.length, A) else none
  | [.tup xs] => some (.int xs.length, A)
  | [.kl xs] => some (.int xs.length, A)
  | [.ref n] => (match A[n]? with
    | some (.lst xs _) => some (.int xs.length, A)
    | some (.dict kvs false) => some (.int kvs.length, A)
    | _ => none)
  | _ => none
theorem rk_len : ∀ {l : List (AK × AV)} {m : List (Key × V)}, RK E ρ H l m → m.length = l.length
  | [], _, r => by cases r; rfl
  | (a, v) :: l, _, r => by
    obtain ⟨k', v', r', rfl, _, _, h2⟩ := r
    rw [List.length_cons, List.length_cons, rk_len h2]
theorem rt_len : ∀ {l : List (AK × AV)} {m : List (List Key × V)}, RT E ρ H l m → m.length = l.length
  | [], _, r => by cases r; rfl
  | (a, v) :: l, _, r => by
    obtain ⟨k', v', r', rfl, _, _, h2⟩ := r
    rw [List.length_cons, List.length_cons, rt_len h2]
theorem cs_len (c : Ctx E k X W) : CallS E X (.builtin "len") fLen := by
  intro pins s σ H xs us Q I rv h
  obtain ⟨ρ, A, as, hh, r, q⟩ := h
  unfold fLen at q
  split at q
  · obtain ⟨x, rfl, r1⟩ := rvs1 r
    cases r1
    split at q
    · exact call_len_str pins s σ H _ us Q I rv ⟨_, rfl, by assumption, q.pure hh rfl⟩
    · exact q.elim
  · obtain ⟨x, rfl, a, ys, rfl, st, r1⟩ := rvs1 r
    refine call_len_seq pins s σ H _ us Q I rv ⟨a, ys, rfl, .inr (.inl (.inl st)), ?_⟩
    rw [r1.length]
    exact q.pure hh rfl
  · obtain ⟨x, rfl, a, ys, rfl, st, r1⟩ := rvs1 r
    refine call_len_seq pins s σ H _ us Q I rv ⟨a, ys, rfl, .inl (c.hK ▸ st.sq), ?_⟩
    rw [r1.length]
    exact q.pure hh rfl
  · obtain ⟨x, rfl, r1⟩ := rvs1 r
    rename_i n
    cases e1 : A[n]? with
    | none => rw [e1] at q; exact q.elim
    | some o => cases o with
      | lst xs ro =>
        rw [e1] at q
        obtain ⟨p, ys, p1, r2, w0, _⟩ := hh.lst e1
        have ex := RVref r1 p1
        subst ex
        refine call_len_seq pins s σ H _ us Q I rv ⟨p, ys, rfl, .inl (.inl w0), ?_⟩
        rw [r2.length]
        exact q.pure hh rfl
      | dict kvs lk =>
        cases lk with
        | true => rw [e1] at q; exact q.elim
        | false =>
          rw [e1] at q
          obtain ⟨a, ea, w⟩ := hh.get e1
          have ex := RVref r1 ea
          subst ex
          rcases w with ⟨kv', r2, w⟩ | ⟨kv', r2, w⟩
          · refine call_lenD pins s σ H _ us Q I rv ⟨a, kv', rfl, w, ?_⟩
            rw [rk_len r2]
            exact q.pure hh rfl
          · refine call_len_dT pins s σ H _ us Q I rv ⟨a, kv', rfl, w, ?_⟩
            rw [rt_len r2]
            exact q.pure hh rfl
      | ins cc fs => rw [e1] at q; exact q.elim
  · exact q.elim
/-! ### int, abs, max, min, str -/
def fInt : OpN := fun as A => match as with
  | [.int i] => some (.int i, A)
  | [.bl b] => some (.int (if b = true then 1 else 0), A)
  | _ => none
theorem cs_int : CallS E X (.type "int") fInt := by
  intro pins s σ H xs us Q I rv h
  obtain ⟨ρ, A, as, hh, r, q⟩ := h
  unfold fInt at q
  split at q
  · obtain ⟨x, rfl, r1⟩ := rvs1 r
    cases r1
    exact call_int1 pins s σ H _ us Q I rv (.inl ⟨_, rfl, q.pure hh rfl⟩)
  · obtain ⟨x, rfl, r1⟩ := rvs1 r
    cases r1
    exact call_int1 pins s σ H _ us Q I rv (.inr ⟨_, rfl, q.pure hh rfl⟩)
  · exact q.elim
def fAbs : OpN := fun as A => match as with
  | [.int i] => some (.int (if i < 0 then -i else i), A)
  | _ => none
theorem cs_abs : CallS E X (.builtin "abs") fAbs := by
  intro pins s σ H xs us Q I rv h
  obtain ⟨ρ, A, as, hh, r, q⟩ := h
  unfold fAbs at q
  split at q
  · obtain ⟨x, rfl, r1⟩ := rvs1 r
    cases r1
    exact call_abs pins s σ H _ us Q I rv ⟨_, rfl, q.pure hh rfl⟩
  · exact q.elim
def fMax2 : OpN := fun as A => match as with
  | [.int i, .int j] => some (.int (if j > i then j else i), A)
  | _ => none
def fMin2 : OpN := fun as A => match as with
  | [.int i, .int j] => some (.int (if j < i then j else i), A)
  | _ => none
theorem cs_max2 (c : Ctx E k X W) : CallS E X (.builtin "max") fMax2 := by
  intro pins s σ H xs us Q I rv h
  obtain ⟨ρ, A, as, hh, r, q⟩ := h
  unfold fMax2 at q
  split at q
  · obtain ⟨x, y, rfl, r1, r2⟩ := rvs2 r
    cases r1; cases r2
    exact call_max2 c.calm pins s σ H _ us Q I rv ⟨_, _, rfl, q.pure hh rfl⟩
  · exact q.elim
theorem cs_min2 (c : Ctx E k X W) : CallS E X (.builtin "min") fMin2 := by
  intro pins s σ H xs us Q I rv h
  obtain ⟨ρ, A, as, hh, r, q⟩ := h
  unfold fMin2 at q
  split at q
  · obtain ⟨x, y, rfl, r1, r2⟩ := rvs2 r
    cases r1; cases r2
    exact call_min2 c.calm pins s σ H _ us Q I rv ⟨_, _, rfl, q.pure hh rfl⟩
  · exact q.elim
def fStr : OpN := fun as A => match as with
  | [.int i] => if i.natAbs.log2 < 1920 then some (.str (toString i : String), A) else none
  | _ => none
theorem cs_str : CallS E X (.type "str") fStr := by
  intro pins s σ H xs us Q I rv h
  obtain ⟨ρ, A, as, hh, r, q⟩ := h
  unfold fStr at q
  split at q
  · obtain ⟨x, rfl, r1⟩ := rvs1 r
    cases r1
    split at q
    · exact call_str_int pins s σ H _ us Q I rv ⟨_, rfl, by assumption, q.pure hh rfl⟩
    · exact q.elim
  · exact q.elim
/-! ### list(..), tuple(..) of lists and tuples -/
def fList : OpN := fun as A => match as with
  | [.tup xs] => some (.ref A.length, A ++ [.lst xs false])
  | [.kl xs] => some (.ref A.length, A ++ [.lst xs false])
  | [.ref n] => (match A[n]? with
    | some (.lst xs _) => some (.ref A.length, A ++ [.lst xs false])
    | some (.dict kvs lk) => if kvs.all (fun p => match p.1 with
        | .k _ => true
        | .t _ => false) then some (.ref A.length, A ++ [.lst (kvs.map fun p => keyV p.1) false]) else none
    | _ => none)
  | _ => none
theorem rk_keys : ∀ {l : List (AK × AV)} {m : List (Key × V)}, RK E ρ H l m → RVs E ρ H (l.map fun p => keyV p.1) (m.map fun p => kV p.1)
  | [], _, r => by cases r; rfl
  | (a, v) :: l, _, r => by
    obtain ⟨k', v', r', rfl, e, _, h2⟩ := r
    cases e
    exact ⟨_, _, rfl, key1V_rv k', rk_keys h2⟩
theorem cs_list (c : Ctx E k X W) : CallS E X (.type "list") fList := by
  intro pins s σ H xs us Q I rv h
  obtain ⟨ρ, A, as, hh, r, q⟩ := h
  unfold fList at q
  split at q
  · obtain ⟨x, rfl, a, ys, rfl, st, r1⟩ := rvs1 r
    refine call_list_of pins s σ H _ us Q I rv ⟨a, ys, rfl, .inr (.inl (.inl st)), fun p hp => ?_⟩
    obtain ⟨z1, z2, z3⟩ := newLst hh hp r1
    exact q _ _ _ z2 z1 z3
  · obtain ⟨x, rfl, a, ys, rfl, st, r1⟩ := rvs1 r
    refine call_list_of pins s σ H _ us Q I rv ⟨a, ys, rfl, .inl (c.hK ▸ st.sq), fun p hp => ?_⟩
    obtain ⟨z1, z2, z3⟩ := newLst hh hp r1
    exact q _ _ _ z2 z1 z3
  · obtain ⟨x, rfl, r1⟩ := rvs1 r
    rename_i n
    cases e1 : A[n]? with
    | none => rw [e1] at q; exact q.elim
    | some o => cases o with
      | lst xs ro =>
        rw [e1] at q
        obtain ⟨p0, ys, p1, r2, w0, _⟩ := hh.lst e1
        have ex := RVref r1 p1
        subst ex
        refine call_list_of pins s σ H _ us Q I rv ⟨p0, ys, rfl, .inl (.inl w0), fun p hp => ?_⟩
        obtain ⟨z1, z2, z3⟩ := newLst hh hp r2
        exact q _ _ _ z2 z1 z3
      | dict kvs lk =>
        rw [e1] at q
        dsimp only at q
        split at q
        · rename_i hk
          obtain ⟨a, ea, w⟩ := hh.get e1
          have ex := RVref r1 ea
          subst ex
          rcases w with ⟨kv', r2, w⟩ | ⟨kv', r2, w⟩
          · refine call_listD c.calm pins s σ H _ us Q I rv ⟨a, kv', rfl, AtD.rd w, fun p hp => ?_⟩
            obtain ⟨z1, z2, z3⟩ := newLst hh hp (rk_keys r2)
            exact q _ _ _ z2 z1 z3
          · have e0 : kvs = [] := by
              cases kvs with
              | nil => rfl
              | cons p l =>
                obtain ⟨k', v', r', _, e, _⟩ := r2
                obtain ⟨p1, p2⟩ := p
                cases e
                rw [List.all_cons] at hk
                cases hk
            subst e0
            cases r2
            refine call_list_dT c.calm pins s σ H _ us Q I rv ⟨a, [], rfl, AtD.rd w, fun p bs hp hb => ?_⟩
            obtain rfl : bs = [] := by cases hb; rfl
            obtain ⟨z1, z2, z3⟩ := newLst hh hp (show RVs E ρ H [] [] from rfl)
            exact q _ _ _ z2 z1 z3
        · exact q.elim
      | ins cc fs => rw [e1] at q; exact q.elim
  · exact q.elim
def fTuple : OpN := fun as A => match as with
  | [.tup xs] => some (.tup xs, A)
  | [.ref n] => (match A[n]? with
    | some (.lst xs _) => some (.tup xs, A)
    | _ => none)
  | _ => none
theorem cs_tuple : CallS E X (.type "tuple") fTuple := by
  intro pins s σ H xs us Q I rv h
  obtain ⟨ρ, A, as, hh, r, q⟩ := h
  unfold fTuple at q
  split at q
  · obtain ⟨x, rfl, a, ys, rfl, st, r1⟩ := rvs1 r
    exact call_tuple_of pins s σ H _ us Q I rv ⟨a, ys, rfl, .inr ⟨.inl (.inl st), q.pure hh ⟨a, ys, rfl, st, r1⟩⟩⟩
  · obtain ⟨x, rfl, r1⟩ := rvs1 r
    rename_i n
    cases e1 : A[n]? with
    | none => rw [e1] at q; exact q.elim
    | some o => cases o with
      | lst xs ro =>
        rw [e1] at q
        obtain ⟨p0, ys, p1, r2, w0, _⟩ := hh.lst e1
        have ex := RVref r1 p1
        subst ex
        refine call_tuple_of pins s σ H _ us Q I rv ⟨p0, ys, rfl, .inl ⟨.inl w0, fun p hp => ?_⟩⟩
        obtain ⟨z1, z2, z3⟩ := newTup hh hp r2
        exact q _ _ _ z2 z1 z3
      | _ => rw [e1] at q; exact q.elim
  · exact q.elim
/-! ### all, any, sum of a list -/
def blsOf : List AV → Option (List Bool)
  | [] => some []
  | v :: vs => match v, blsOf vs with
    | .bl b, some bs => some (b :: bs)
    | _, _ => none
theorem bls_ok : ∀ {as : List AV} {xs : List V} {bs : List Bool}, blsOf as = some bs → RVs E ρ H as xs → xs = bs.map V.bl
  | [], _, _, e, r => by cases r; cases e; rfl
  | v :: vs, _, _, e, r => by
    obtain ⟨y, ys, rfl, r1, r2⟩ := r
    unfold blsOf at e
    cases v with
    | bl b =>
      cases e2 : blsOf vs with
      | none => rw [e2] at e; cases e
      | some l =>
        rw [e2] at e
        cases e
        cases r1
        rw [bls_ok e2 r2, List.map_cons]
    | _ => cases e
def fAll : OpN := fun as A => match as with
  | [.ref n] => (match lstAt A n with
    | some xs => (blsOf xs).map fun bs => (.bl (bs.all id), A)
    | none => none)
  | _ => none
def fAny : OpN := fun as A => match as with
  | [.ref n] => (match lstAt A n with
    | some xs => (blsOf xs).map fun bs => (.bl (bs.any id), A)
    | none => none)
  | _ => none
theorem lstAt_ok {A : AHp} (hh : RH E ρ H A) {n : Nat} {xs : List AV} (e : lstAt A n = some xs) {x : V} (r : RV E ρ H (.ref n) x) : ∃ a ys, x = .ref a ∧ RVs E ρ H xs ys ∧ Rd H a (.lst ys) := by
  unfold lstAt at e
  split at e
  · rename_i e1
    cases e
    obtain ⟨p0, ys, p1, r2, w0, _⟩ := hh.lst e1
    exact ⟨p0, ys, RVref r p1, r2, w0⟩
  · cases e
theorem cs_all (c : Ctx E k X W) : CallS E X (.builtin "all") fAll := by
  intro pins s σ H xs us Q I rv h
  obtain ⟨ρ, A, as, hh, r, q⟩ := h
  unfold fAll at q
  split at q
  · obtain ⟨x, rfl, r1⟩ := rvs1 r
    split at q
    · rename_i e1
      obtain ⟨a, ys, rfl, r2, w⟩ := lstAt_ok hh e1 r1
      cases e2 : blsOf _ with
      | none => rw [e2] at q; exact q.elim
      | some bs =>
        rw [e2] at q
        have e3 := bls_ok e2 r2
        subst e3
        exact cr_all c.calm pins s σ H _ us Q I rv ⟨a, bs, rfl, .inl w, q.pure hh rfl⟩
    · exact q.elim
  · exact q.elim
theorem cs_any (c : Ctx E k X W) : CallS E X (.builtin "any") fAny := by
  intro pins s σ H xs us Q I rv h
  obtain ⟨ρ, A, as, hh, r, q⟩ := h
  unfold fAny at q
  split at q
  · obtain ⟨x, rfl, r1⟩ := rvs1 r
    split at q
    · rename_i e1
      obtain ⟨a, ys, rfl, r2, w⟩ := lstAt_ok hh e1 r1
      cases e2 : blsOf _ with
      | none => rw [e2] at q; exact q.elim
      | some bs =>
        rw [e2] at q
        have e3 := bls_ok e2 r2
        subst e3
        exact cr_any c.calm pins s σ H _ us Q I rv ⟨a, bs, rfl, .inl w, q.pure hh rfl⟩
    · exact q.elim
  · exact q.elim
/-! ### isinstance -/
def tyA (v : AV) (A : AHp) : Option (Nat ⊕ String) := match v with
  | .non => some (.inr "NoneType")
  | .bl _ => some (.inr "bool")
  | .int _ => some (.inr "int")
  | .str _ => some (.inr "str")
  | .tup _ => some (.inr "tuple")
  | .ref n => (match A[n]? with
    | some (.lst _ _) => some (.inr "list")
    | some (.dict _ false) => some (.inr "dict")
    | some (.ins c _) => some (.inl c)
    | _ => none)
  | _ => none
def tyT (E : En) : Nat ⊕ String → Value
  | .inl c => .ref (E.cad c)
  | .inr n => .type n
theorem tyA_ok (hK : X.K = E.K) {A : AHp} (hh : RH E ρ H A) {v : AV} {x : V} (r : RV E ρ H v x) {t : Nat ⊕ String} (e : tyA v A = some t) : TyX X.K H x (tyT E t) ∧ ∀ c, t = .inl c → E.isC c = true := by
  cases v with
  | non => cases r; cases e; exact ⟨.base .non, fun _ z => nomatch z⟩
  | bl b => cases r; cases e; exact ⟨.base (.bl b), fun _ z => nomatch z⟩
  | int b => cases r; cases e; exact ⟨.base (.int b), fun _ z => nomatch z⟩
  | str b => cases r; cases e; exact ⟨.base (.str b), fun _ z => nomatch z⟩
  | tup xs =>
    obtain ⟨a, ys, rfl, st, _⟩ := r
    cases e
    exact ⟨.base (.tup st), fun _ z => nomatch z⟩
  | ref n =>
    unfold tyA at e
    dsimp only at e
    cases e1 : A[n]? with
    | none => rw [e1] at e; cases e
    | some o => cases o with
      | lst xs ro =>
        rw [e1] at e
        cases e
        obtain ⟨p0, ys, p1, r2, w0, _⟩ := hh.lst e1
        have ex := RVref r p1
        subst ex
        rcases w0 with w | ⟨ob, w⟩
        · exact ⟨.base (.lst w), fun _ z => nomatch z⟩
        · exact ⟨.base (.frz w), fun _ z => nomatch z⟩
      | dict kvs lk => cases lk with
        | true => rw [e1] at e; cases e
        | false =>
          rw [e1] at e
          cases e
          obtain ⟨a, ea, w⟩ := hh.get e1
          have ex := RVref r ea
          subst ex
          rcases w with ⟨kv', r2, w⟩ | ⟨kv', r2, w⟩
          · exact ⟨.base (.dK w), fun _ z => nomatch z⟩
          · exact ⟨.base (.dT w), fun _ z => nomatch z⟩
      | ins c fs =>
        rw [e1] at e
        cases e
        obtain ⟨a, ea, dx, fs', w, rf, hc, _⟩ := hh.get e1
        have ex := RVref r ea
        subst ex
        obtain ⟨i1, i2, i3, i4⟩ := E.insF c hc
        refine ⟨?_, fun c' z => by cases z; exact hc⟩
        rw [hK]
        exact .base (.ins w (E.clsOk c hc) i1 i2 i3 i4)
  | _ => cases e
/-- built-in types: the answer that the library computes -/
def bTys : List String := ["NoneType", "bool", "int", "str", "tuple", "list", "dict"]
def kitBi (t n : String) : Option Bool := if bTys.contains t && bTys.contains n then some (t == n || (t == "bool" && n == "int")) else none
theorem kitBi_all : bTys.all (fun t => bTys.all fun n => decide (L2.kitB t n = some (t == n || (t == "bool" && n == "int")))) = true := by decide +kernel
theorem kitBi_ok {t n : String} {b : Bool} (K : PySem.W.Frag) (e : kitBi t n = some b) : PySem.W.kitOne K (.type t) (.type n) = some b := by
  unfold kitBi at e
  split at e
  · rename_i h
    rw [Bool.and_eq_true, List.contains_iff_mem, List.contains_iff_mem] at h
    cases e
    have z := List.all_eq_true.mp kitBi_all t h.1
    have z2 := of_decide_eq_true (List.all_eq_true.mp z n h.2)
    exact kit_ty z2
  · cases e
def kitA (sub : Nat → Nat → Option Bool) (subB : Nat → String → Option Bool) (bsub : String → Nat → Option Bool) (t : Nat ⊕ String) (c : AV) : Option Bool := match t, c with
  | .inl a, .cls b => sub a b
  | .inl a, .ty n => subB a n
  | .inr m, .ty n => kitBi m n
  | .inr m, .cls b => bsub m b
  | _, _ => none
def kitAs (sub : Nat → Nat → Option Bool) (subB : Nat → String → Option Bool) (bsub : String → Nat → Option Bool) (t : Nat ⊕ String) : List AV → Option Bool
  | [] => some false
  | c :: r => match kitA sub subB bsub t c with
    | some true => some true
    | some false => kitAs sub subB bsub t r
    | none => none
theorem clsv_of {c : AV} {y : V} (hc : (∃ n, c = .ty n) ∨ ∃ n, c = .cls n) (r : RV E ρ H c y) : ∃ u, ClsV y u ∧ ((∃ n, c = .ty n ∧ u = .type n) ∨ ∃ n, c = .cls n ∧ u = .ref (E.cad n)) := by
  rcases hc with ⟨n, rfl⟩ | ⟨n, rfl⟩
  · cases r
    exact ⟨_, .ty n, .inl ⟨n, rfl, rfl⟩⟩
  · cases r
    exact ⟨_, .own _, .inr ⟨n, rfl, rfl⟩⟩
theorem kitA_ok {t : Nat ⊕ String} {c : AV} {b : Bool} {y : V} (ht : ∀ c, t = .inl c → E.isC c = true) (e : kitA E.sub E.subB E.bsub t c = some b) (r : RV E ρ H c y) : ∃ u, ClsV y u ∧ PySem.W.kitOne E.K (tyT E t) u = some b := by
  cases t with
  | inl a => cases c with
    | cls n => cases r; exact ⟨_, .own _, E.subOk a n b (ht a rfl) e⟩
    | ty n => cases r; exact ⟨_, .ty n, E.subBOk a n b (ht a rfl) e⟩
    | _ => cases e
  | inr m => cases c with
    | cls n => cases r; exact ⟨_, .own _, E.bsubOk m n b e⟩
    | ty n => cases r; exact ⟨_, .ty n, kitBi_ok _ e⟩
    | _ => cases e
theorem kitAs_ok {t : Nat ⊕ String} (ht : ∀ c, t = .inl c → E.isC c = true) : ∀ {cs : List AV} {b : Bool} {ys : List V}, kitAs E.sub E.subB E.bsub t cs = some b → RVs E ρ H cs ys → ∀ {us0 : List AV}, cs = us0 → (∀ c ∈ cs, (∃ n, c = .ty n) ∨ ∃ n, c = .cls n) → ∃ us, Paired ClsV ys us ∧ PySem.W.kitAny E.K (tyT E t) us = some b
  | [], _, _, e, r, _, _, _ => by cases r; cases e; exact ⟨[], .nil, rfl⟩
  | c :: cs, b, _, e, r, _, _, hc => by
    obtain ⟨y, ys, rfl, r1, r2⟩ := r
    unfold kitAs at e
    cases e1 : kitA E.sub E.subB E.bsub t c with
    | none => rw [e1] at e; cases e
    | some b1 =>
      rw [e1] at e
      obtain ⟨u, k1, k2⟩ := kitA_ok ht e1 r1
      cases b1 with
      | true =>
        cases e
        -- the rest need only be classes
        have rest : ∀ {l : List AV} {zs : List V}, RVs E ρ H l zs → (∀ c ∈ l, (∃ n, c = .ty n) ∨ ∃ n, c = .cls n) → ∃ us, Paired ClsV zs us := by
          intro l
          induction l with
          | nil => intro zs r _; cases r; exact ⟨[], .nil⟩
          | cons d l ih =>
            intro zs r hd
            obtain ⟨z, zs', rfl, s1, s2⟩ := r
            obtain ⟨u', k', _⟩ := clsv_of (hd d List.mem_cons_self) s1
            obtain ⟨us', p'⟩ := ih s2 fun c hc => hd c (List.mem_cons_of_mem _ hc)
            exact ⟨u' :: us', .cons k' p'⟩
        obtain ⟨us, p⟩ := rest r2 fun c hc' => hc c (List.mem_cons_of_mem _ hc')
        refine ⟨u :: us, .cons k1 p, ?_⟩
        unfold PySem.W.kitAny
        rw [k2]
      | false =>
        obtain ⟨us, p, z⟩ := kitAs_ok ht e r2 rfl fun c hc' => hc c (List.mem_cons_of_mem _ hc')
        refine ⟨u :: us, .cons k1 p, ?_⟩
        unfold PySem.W.kitAny
        rw [k2]
        exact z
def isTyA : AV → Bool
  | .ty _ => true
  | .cls _ => true
  | _ => false
theorem isTyA_ok {c : AV} (h : isTyA c = true) : (∃ n, c = .ty n) ∨ ∃ n, c = .cls n := by
  cases c with
  | ty n => exact .inl ⟨n, rfl⟩
  | cls n => exact .inr ⟨n, rfl⟩
  | _ => cases h
/-- isinstance(v, c), isinstance(v, (c, ..)) -/
def fIsi (sub : Nat → Nat → Option Bool) (subB : Nat → String → Option Bool) (bsub : String → Nat → Option Bool) : OpN := fun as A => match as with
  | [v, c] => (match tyA v A with
    | some t => (match c with
      | .tup cs => if cs.all isTyA then (kitAs sub subB bsub t cs).map fun b => (.bl b, A) else none
      | c => (kitA sub subB bsub t c).map fun b => (.bl b, A))
    | none => none)
  | _ => none
theorem cs_isi (hK : X.K = E.K) : CallS E X (.builtin "isinstance") (fIsi E.sub E.subB E.bsub) := by
  intro pins s σ H xs us Q I rv h
  obtain ⟨ρ, A, as, hh, r, q⟩ := h
  unfold fIsi at q
  split at q
  · obtain ⟨x, y, rfl, r1, r2⟩ := rvs2 r
    split at q
    · rename_i t e1
      obtain ⟨ty, hc⟩ := tyA_ok hK hh r1 e1
      split at q
      · obtain ⟨a, ys, rfl, st, r3⟩ := r2
        split at q
        · rename_i hall
          cases e2 : kitAs E.sub E.subB E.bsub t _ with
          | none => rw [e2] at q; exact q.elim
          | some b =>
            rw [e2] at q
            obtain ⟨us2, p, z⟩ := kitAs_ok hc e2 r3 rfl fun c hc' => isTyA_ok (List.all_eq_true.mp hall c hc')
            exact call_isiT pins s σ H _ us Q I rv ⟨x, a, ys, _, us2, b, rfl, st, p, ty, hK ▸ z, q.pure hh rfl⟩
        · exact q.elim
      · cases e2 : kitA E.sub E.subB E.bsub t _ with
        | none => rw [e2] at q; exact q.elim
        | some b =>
          rw [e2] at q
          obtain ⟨u, k1, z⟩ := kitA_ok hc e2 r2
          exact call_isi pins s σ H _ us Q I rv ⟨x, y, _, u, b, rfl, k1, ty, hK ▸ z, q.pure hh rfl⟩
    · exact q.elim
  · exact q.elim
/-- a class as a value -/
theorem se_ty {x : Str} {n : String} {pos : Pos} (hg : Gl X x) (hm : X.mg x = none) (hv : bootBuiltins x = some (.type n)) (hn : x ≠ "__name__") (hd : (x == ("__debug__" : Str)) = false) : SE E X W (.Name x pos) (dC (.ty n)) :=
  PE.imp (pe_bltn (v := V.ty n) hg hm hv rfl hn hd) fun _ _ _ h => c_rd h fun _ => rfl
theorem se_cls {x : Str} {c : Nat} {pos : Pos} (hg : Gl X x) (hm : X.mg x = some (.ref (E.cad c))) (hd : (x == ("__debug__" : Str)) = false) : SE E X W (.Name x pos) (dC (.cls c)) :=
  PE.imp (pe_glob (v := V.ref (E.cad c)) hg hm rfl hd) fun _ _ _ h => c_rd h fun _ => rfl
end
end Ev
end
section
/-! Ev, seventh part: methods of built-in types, dicts made and stored, fields, own methods, instances. -/
namespace Ev
open PySem PySem.Spec L2
set_option autoImplicit false
section
variable {E : En} {X : Cx} {W : WX} {k : Nat} {ρ : List Addr} {H : Hp}
abbrev OpM := AV → List AV → AHp → Option (AV × AHp)
def MtS (E : En) (X : Cx) (id : String) (p : OpM) : Prop := MtR X id (fun x xs H Q => ∃ ρ A a as, RH E ρ H A ∧ RV E ρ H a x ∧ RVs E ρ H as xs ∧ PostO E (p a as A) ρ H Q)
def tagA (T : String) (v : AV) (A : AHp) : Bool := match v with
  | .str _ => decide (T = "str")
  | .ref n => (match A[n]? with
    | some (.lst _ _) => decide (T = "list")
    | some (.dict _ _) => decide (T = "dict")
    | _ => false)
  | _ => false
theorem tagA_is {pins : List (Addr × Obj)} {σ : St} {s : Shared} {T : String} {x : V} {v : Value} {A : AHp} {a : AV} (I : Inv X pins σ H s) (hh : RH E ρ H A) (ra : RV E ρ H a x) (r : RelV x v) (ty : tagA T a A = true) :
    s.TypeIs v T ∧ ∀ a, v = .ref a → ∃ ob, s.heap.get? a = some ob ∧ ob.dict = none := by
  cases a with
  | str z =>
    cases ra
    have et : T = "str" := by unfold tagA at ty; exact of_decide_eq_true ty
    exact tyV_is I r et
  | ref n =>
    unfold tagA at ty
    dsimp only at ty
    cases e1 : A[n]? with
    | none => rw [e1] at ty; cases ty
    | some o => cases o with
      | lst xs ro =>
        rw [e1] at ty
        obtain ⟨p0, ys, p1, r2, w0, _⟩ := hh.lst e1
        have ex := RVref ra p1
        subst ex
        exact tyV_is I r (.inl ⟨of_decide_eq_true ty, ys, .inl w0⟩)
      | dict kvs lk =>
        rw [e1] at ty
        obtain ⟨p0, ea, w⟩ := hh.get e1
        have ex := RVref ra ea
        subst ex
        have et := of_decide_eq_true ty
        subst et
        obtain rfl : v = Value.ref p0 := r
        rcases w with ⟨kv', _, w⟩ | ⟨kv', _, w⟩
        · obtain ⟨t1, t2, _⟩ := isD_at I (.inl ⟨kv', AtD.rd w⟩)
          exact ⟨t1, t2⟩
        · obtain ⟨t1, t2, _⟩ := isD_at I (.inr ⟨kv', AtD.rd w⟩)
          exact ⟨t1, t2⟩
      | ins c fs => rw [e1] at ty; cases ty
  | _ => cases ty
def dBM (T : String) (p : OpM) (fo : Den AV) (fa : Den (List AV)) : Den AV := fun σ A => (fo σ A).bind fun o A1 => if tagA T o A1 = true then (fa σ A1).bind fun as A2 => ofO (p o as A2) else .bad
theorem se_bm {T id : String} {p : OpM} {o e : Expr} {es : List Expr} {name : Str} {apos cpos : Pos} {fo : Den AV} {fa : Den (List AV)} (pa : PlainAttrs T) (slot : Slot T name id) (hty : typeOf (.builtin id) = pure (.type "method_descriptor")) (hm : MtS E X id p) (ho : SE E X W o fo) (ha : SA E X W (e :: es) fa)
    (hbase : attributeBase o name X.env (eval o X.env) = eval o X.env)
    (hfew : ((backTo cpos (starEach (e :: es) X.env)).all (fun x => !x.1) && (backToKw cpos (keywordEach [] X.env)).all (fun x => x.1.isSome)
      && decide ((e :: es).length + ([] : List Keyword).length + (if ([] : List Keyword).isEmpty then 0 else 1) < 30)) = true)
    (hline : (apos.endLine == cpos.line) = true) (hs : starEach (e :: es) X.env = (false, eval e X.env) :: starEach es X.env) (hplain : (backTo cpos (starEach es X.env)).any (·.1) = false) :
    SE E X W (.Call (.Attribute o name apos) (e :: es) [] cpos) (dBM T p fo fa) := by
  refine ⟨fun pins s σ H Q I h => ?_⟩
  have h2 := rd_step (E := E) (W := W) (rel := RV E) (f := fo) (Q1 := fun x H1 => ∃ ρ σa A o, RS E ρ H1 σa σ ∧ RH E ρ H1 A ∧ RV E ρ H1 o x ∧ Post E (RV E) (if tagA T o A = true then (fa σa A).bind fun as A2 => ofO (p o as A2) else .bad) ρ H1 Q fun c d H' => W c d σ H') h
    fun x H1 ρ σa A o hs hh hx q => ⟨ρ, σa, A, o, hs, hh, hx, q⟩
  refine wpAny_Call_method_late hbase hfew hline rfl (thn (ho.run pins s σ H _ I h2) fun v s1 ⟨x, H1, I1, r1, ρ, σa, A, o', hs', hh, hx, q⟩ => ?_)
  split at q
  · rename_i ty
    obtain ⟨h1, h2⟩ := tagA_is I1 hh hx r1 ty
    refine ⟨T, id, pa, slot, hty, h1, h2, ?_⟩
    have q2 : rd E (RVs E) fa W σ H1 fun vs H2 => ∃ ρ A a as, RH E ρ H2 A ∧ RV E ρ H2 a x ∧ RVs E ρ H2 as vs ∧ PostO E (p a as A) ρ H2 Q := by
      refine ⟨ρ, σa, A, hs', hh, ?_⟩
      cases e1 : fa σa A with
      | err c i A2 => rw [e1] at q; exact q
      | bad => rw [e1] at q; exact q
      | ok as A2 =>
        rw [e1] at q
        intro ρ2 H2 vs xt rh r
        exact ⟨ρ2, A2, o', as, rh, hx.ext xt, r, PostO.of_post (q.ext xt)⟩
    have hA := ha.run cpos pins s1 σ H1 _ I1 q2
    rw [hs] at hA ⊢
    refine Calls.callWith_builtin (by show (false || (backTo cpos (starEach es X.env)).any (·.1)) = false; rw [hplain] <;> rfl) (Calls.evalArgs_plain ?_)
    exact thn hA fun us s2 ⟨vs, H2, I2, r2, q2⟩ => hm pins s2 σ H2 x vs v us Q I2 r1 r2 q2
  · exact q.elim
theorem se_bm0 {T id : String} {p : OpM} {o : Expr} {name : Str} {apos cpos : Pos} {fo : Den AV} (pa : PlainAttrs T) (slot : Slot T name id) (hty : typeOf (.builtin id) = pure (.type "method_descriptor")) (hm : MtS E X id p) (ho : SE E X W o fo)
    (hbase : attributeBase o name X.env (eval o X.env) = eval o X.env) (hline : (apos.endLine == cpos.line) = true) : SE E X W (.Call (.Attribute o name apos) [] [] cpos) (dBM T p fo dNil) := by
  refine ⟨fun pins s σ H Q I h => ?_⟩
  have h2 := rd_step (E := E) (W := W) (rel := RV E) (f := fo) (Q1 := fun x H1 => ∃ ρ σa A o, RS E ρ H1 σa σ ∧ RH E ρ H1 A ∧ RV E ρ H1 o x ∧ Post E (RV E) (if tagA T o A = true then (dNil σa A).bind fun as A2 => ofO (p o as A2) else .bad) ρ H1 Q fun c d H' => W c d σ H') h
    fun x H1 ρ σa A o hs hh hx q => ⟨ρ, σa, A, o, hs, hh, hx, q⟩
  refine wpAny_Call_method0_late hbase hline (thn (ho.run pins s σ H _ I h2) fun v s1 ⟨x, H1, I1, r1, ρ, σa, A, o', hs', hh, hx, q⟩ => ?_)
  split at q
  · rename_i ty
    obtain ⟨h1, h2⟩ := tagA_is I1 hh hx r1 ty
    exact ⟨T, id, pa, slot, hty, h1, h2, Calls.callWith_builtin rfl (PySem.evalArgs_none (hm pins s1 σ H1 x [] v [] Q I1 r1 .nil ⟨ρ, A, o', [], hh, hx, rfl, PostO.of_post q⟩))⟩
  · exact q.elim
/-! ### methods of texts -/
def mStr1 (g : Str → Str → AV) : OpM := fun o as A => match o, as with
  | .str a, [.str b] => some (g a b, A)
  | _, _ => none
theorem ms_str1 {id : String} {g : Str → Str → AV} {gv : Str → Str → V} (h : MtR X id (fun x xs H Q => ∃ a b, x = .str a ∧ xs = [.str b] ∧ Q (gv a b) H)) (hg : ∀ a b ρ H, RV E ρ H (g a b) (gv a b)) : MtS E X id (mStr1 g) := by
  intro pins s σ H x xs v us Q I rx rs hq
  obtain ⟨ρ, A, a, as, hh, ra, r, q⟩ := hq
  unfold mStr1 at q
  split at q
  · cases ra
    obtain ⟨y, rfl, r1⟩ := rvs1 r
    cases r1
    exact h pins s σ H _ _ v us Q I rx rs ⟨_, _, rfl, rfl, q.pure hh (hg _ _ _ _)⟩
  · exact q.elim
theorem ms_startswith : MtS E X "str.startswith" (mStr1 fun a b => .bl (Txt.startswith a b)) := ms_str1 (gv := fun a b => .bl (Txt.startswith a b)) mt_startswith fun _ _ _ _ => rfl
theorem ms_endswith : MtS E X "str.endswith" (mStr1 fun a b => .bl (Txt.endswith a b)) := ms_str1 (gv := fun a b => .bl (Txt.endswith a b)) mt_endswith fun _ _ _ _ => rfl
theorem ms_find : MtS E X "str.find" (mStr1 fun a b => .int (Txt.find a b)) := ms_str1 (gv := fun a b => .int (Txt.find a b)) mt_find fun _ _ _ _ => rfl
def strsOf : List AV → Option (List Str)
  | [] => some []
  | v :: vs => match v, strsOf vs with
    | .str b, some bs => some (b :: bs)
    | _, _ => none
theorem strs_ok : ∀ {as : List AV} {xs : List V} {bs : List Str}, strsOf as = some bs → RVs E ρ H as xs → xs = bs.map V.str
  | [], _, _, e, r => by cases r; cases e; rfl
  | v :: vs, _, _, e, r => by
    obtain ⟨y, ys, rfl, r1, r2⟩ := r
    unfold strsOf at e
    cases v with
    | str b =>
      cases e2 : strsOf vs with
      | none => rw [e2] at e; cases e
      | some l =>
        rw [e2] at e
        cases e
        cases r1
        rw [strs_ok e2 r2, List.map_cons]
    | _ => cases e
theorem strs_rv : ∀ (bs : List Str), RVs E ρ H (bs.map AV.str) (bs.map V.str)
  | [] => rfl
  | b :: bs => ⟨_, _, rfl, rfl, strs_rv bs⟩
def seqAt (v : AV) (A : AHp) : Option (List AV) := match v with
  | .tup xs => some xs
  | .ref n => lstAt A n
  | _ => none
def mJoin : OpM := fun o as A => match o, as with
  | .str a, [v] => (match seqAt v A with
    | some xs => (match strsOf xs with
      | some ys => if (ys.map (·.length)).sum + ys.length * a.length ≤ 16777216 then some (.str (Txt.join a ys), A) else none
      | none => none)
    | none => none)
  | _, _ => none
theorem ms_join (hK : X.K = E.K) : MtS E X "str.join" mJoin := by
  intro pins s σ H x xs v us Q I rx rs hq
  obtain ⟨ρ, A, a, as, hh, ra, r, q⟩ := hq
  unfold mJoin at q
  split at q
  · cases ra
    obtain ⟨y, rfl, r1⟩ := rvs1 r
    rename_i a0 v0
    cases e1 : seqAt v0 A with
    | none => rw [e1] at q; exact q.elim
    | some xs =>
      rw [e1] at q
      dsimp only at q
      cases e2 : strsOf xs with
      | none => rw [e2] at q; exact q.elim
      | some ys =>
        rw [e2] at q
        dsimp only at q
        split at q
        · rename_i hz
          cases v0 with
          | tup zs =>
            cases e1
            obtain ⟨p, us', rfl, st, r2⟩ := r1
            have e3 := strs_ok e2 r2
            subst e3
            exact mt_join pins s σ H _ _ v us Q I rx rs ⟨_, p, ys, rfl, rfl, .inr (.inl (.inl st)), hz, q.pure hh rfl⟩
          | ref n =>
            obtain ⟨p, us', rfl, r2, w⟩ := lstAt_ok hh e1 r1
            have e3 := strs_ok e2 r2
            subst e3
            exact mt_join pins s σ H _ _ v us Q I rx rs ⟨_, p, ys, rfl, rfl, .inl (.inl w), hz, q.pure hh rfl⟩
          | _ => cases e1
        · exact q.elim
  · exact q.elim
def mSplit : OpM := fun o as A => match o, as with
  | .str a, [.str b] => if (b.length == 0) = false ∧ a.length + 2 ≤ sizeLine then some (.ref A.length, A ++ [.lst ((Txt.split a b).map .str) false]) else none
  | _, _ => none
theorem ms_split : MtS E X "str.split" mSplit := by
  intro pins s σ H x xs v us Q I rx rs hq
  obtain ⟨ρ, A, a, as, hh, ra, r, q⟩ := hq
  unfold mSplit at q
  split at q
  · cases ra
    obtain ⟨y, rfl, r1⟩ := rvs1 r
    cases r1
    split at q
    · rename_i hz
      refine mt_split pins s σ H _ _ v us Q I rx rs ⟨_, _, rfl, rfl, hz.1, hz.2, fun p hp => ?_⟩
      obtain ⟨z1, z2, z3⟩ := newLst hh hp (strs_rv _)
      exact q _ _ _ z2 z1 z3
    · exact q.elim
  · exact q.elim
/-! ### methods of lists -/
theorem setLst {A : AHp} (hh : RH E ρ H A) {n : Nat} {xs ys : List AV} {a : Addr} (e : A[n]? = some (.lst xs false)) (ea : ρ[n]? = some a) {us : List V} (r : RVs E ρ H ys us) : RH E ρ (upd H a (.lst us)) (A.set n (.lst ys false)) ∧ Ext ρ H ρ (upd H a (.lst us)) :=
  hh.write e ea (fun b hb => upd_ne hb) fun x => ⟨us, r.ext x, upd_same⟩
def mAppend : OpM := fun o as A => match o, as with
  | .ref n, [v] => (match A[n]? with
    | some (.lst xs false) => if xs.length < sizeLine then some (.non, A.set n (.lst (xs ++ [v]) false)) else none
    | _ => none)
  | _, _ => none
theorem ms_append : MtS E X "list.append" mAppend := by
  intro pins s σ H x xs v us Q I rx rs hq
  obtain ⟨ρ, A, a, as, hh, ra, r, q⟩ := hq
  unfold mAppend at q
  split at q
  · obtain ⟨y, rfl, r1⟩ := rvs1 r
    rename_i n v0
    cases e1 : A[n]? with
    | none => rw [e1] at q; exact q.elim
    | some o => cases o with
      | lst xs ro => cases ro with
        | true => rw [e1] at q; exact q.elim
        | false =>
          rw [e1] at q
          dsimp only at q
          split at q
          · rename_i hz
            obtain ⟨p0, ys, p1, r2, _, w0⟩ := hh.lst e1
            have ex := RVref ra p1
            subst ex
            refine mt_append pins s σ H _ _ v us Q I rx rs ⟨p0, ys, y, rfl, rfl, w0 rfl, by rw [r2.length]; exact hz, ?_⟩
            obtain ⟨z1, z2⟩ := setLst hh e1 p1 (r2.append (show RVs E ρ H [v0] [y] from ⟨y, [], rfl, r1, rfl⟩))
            exact q _ _ _ z2 z1 rfl
          · exact q.elim
      | _ => rw [e1] at q; exact q.elim
  · exact q.elim
def mExtend : OpM := fun o as A => match o, as with
  | .ref n, [.ref m] => (match A[n]?, A[m]? with
    | some (.lst xs false), some (.lst ys false) => if xs.length + ys.length ≤ sizeLine then some (.non, A.set n (.lst (xs ++ ys) false)) else none
    | _, _ => none)
  | _, _ => none
theorem ms_extend : MtS E X "list.extend" mExtend := by
  intro pins s σ H x xs v us Q I rx rs hq
  obtain ⟨ρ, A, a, as, hh, ra, r, q⟩ := hq
  unfold mExtend at q
  split at q
  · obtain ⟨y, rfl, r1⟩ := rvs1 r
    split at q
    · rename_i e1 e2
      split at q
      · rename_i hz
        obtain ⟨p0, ys, p1, r2, _, w0⟩ := hh.lst e1
        obtain ⟨p0', ys', p1', r2', _, w0'⟩ := hh.lst e2
        have ex := RVref ra p1
        have ey := RVref r1 p1'
        subst ex ey
        refine mt_extend pins s σ H _ _ v us Q I rx rs ⟨p0, p0', ys, ys', rfl, rfl, w0 rfl, w0' rfl, by rw [r2.length, r2'.length]; exact hz, ?_⟩
        obtain ⟨z1, z2⟩ := setLst hh e1 p1 (r2.append r2')
        exact q _ _ _ z2 z1 rfl
      · exact q.elim
    · exact q.elim
  · exact q.elim
theorem RVs.dropLast {xs : List AV} {ys : List V} (h : RVs E ρ H xs ys) : RVs E ρ H xs.dropLast ys.dropLast := by
  rw [List.dropLast_eq_take, List.dropLast_eq_take, h.length]
  exact h.take _
def mPop0 : OpM := fun o as A => match o, as with
  | .ref n, [] => (match A[n]? with
    | some (.lst xs false) => (match xs[xs.length - 1]? with
      | some v => some (v, A.set n (.lst xs.dropLast false))
      | none => none)
    | _ => none)
  | _, _ => none
theorem ms_pop0 : MtS E X "list.pop" mPop0 := by
  intro pins s σ H x xs v us Q I rx rs hq
  obtain ⟨ρ, A, a, as, hh, ra, r, q⟩ := hq
  unfold mPop0 at q
  split at q
  · cases r
    split at q
    · rename_i e1
      split at q
      · rename_i e2
        obtain ⟨p0, ys, p1, r2, _, w0⟩ := hh.lst e1
        have ex := RVref ra p1
        subst ex
        obtain ⟨y, ey, ry⟩ := r2.get e2
        refine mt_pop pins s σ H _ _ v us Q I rx rs ⟨p0, ys, y, rfl, rfl, w0 rfl, by rw [r2.length]; exact ey, ?_⟩
        obtain ⟨z1, z2⟩ := setLst hh e1 p1 r2.dropLast
        exact q _ _ _ z2 z1 (ry.ext z2)
      · exact q.elim
    · exact q.elim
  · exact q.elim
/-! ### dicts stored -/
theorem rk_put : ∀ {l : List (AK × AV)} {m : List (Key × V)} (_ : RK E ρ H l m) (k : Key) {v : AV} {x : V} (_ : RV E ρ H v x),
    ((l.any fun p => decide (p.1 = AK.k k)) = m.any fun p => decide (p.1 = k)) ∧ RK E ρ H (l.map fun p => if p.1 = AK.k k then (p.1, v) else p) (m.map fun p => if p.1 = k then (p.1, x) else p) ∧ RK E ρ H (l ++ [(AK.k k, v)]) (m ++ [(k, x)])
  | [], _, r, k, v, x, rv => by
    cases r
    exact ⟨rfl, rfl, k, x, [], rfl, rfl, rv, rfl⟩
  | (a, w) :: l, _, r, k, v, x, rv => by
    obtain ⟨k', v', r', rfl, rfl, h1, h2⟩ := r
    obtain ⟨i1, i2, i3⟩ := rk_put h2 k rv
    refine ⟨?_, ?_, k', v', r' ++ [(k, x)], rfl, rfl, h1, i3⟩
    · rw [List.any_cons, List.any_cons, i1]
      congr 1
      exact decide_eq_decide.mpr ⟨fun z => AK.k.inj z, fun z => congrArg AK.k z⟩
    · rw [List.map_cons, List.map_cons]
      by_cases e : k' = k
      · subst e
        rw [if_pos rfl, if_pos rfl]
        exact ⟨k', x, _, rfl, rfl, rv, i2⟩
      · rw [if_neg e, if_neg (fun z => e (AK.k.inj z))]
        exact ⟨k', v', _, rfl, rfl, h1, i2⟩
theorem rt_put : ∀ {l : List (AK × AV)} {m : List (List Key × V)} (_ : RT E ρ H l m) (k : List Key) {v : AV} {x : V} (_ : RV E ρ H v x),
    ((l.any fun p => decide (p.1 = AK.t k)) = m.any fun p => decide (p.1 = k)) ∧ RT E ρ H (l.map fun p => if p.1 = AK.t k then (p.1, v) else p) (m.map fun p => if p.1 = k then (p.1, x) else p) ∧ RT E ρ H (l ++ [(AK.t k, v)]) (m ++ [(k, x)])
  | [], _, r, k, v, x, rv => by
    cases r
    exact ⟨rfl, rfl, k, x, [], rfl, rfl, rv, rfl⟩
  | (a, w) :: l, _, r, k, v, x, rv => by
    obtain ⟨k', v', r', rfl, rfl, h1, h2⟩ := r
    obtain ⟨i1, i2, i3⟩ := rt_put h2 k rv
    refine ⟨?_, ?_, k', v', r' ++ [(k, x)], rfl, rfl, h1, i3⟩
    · rw [List.any_cons, List.any_cons, i1]
      congr 1
      exact decide_eq_decide.mpr ⟨fun z => AK.t.inj z, fun z => congrArg AK.t z⟩
    · rw [List.map_cons, List.map_cons]
      by_cases e : k' = k
      · subst e
        rw [if_pos rfl, if_pos rfl]
        exact ⟨k', x, _, rfl, rfl, rv, i2⟩
      · rw [if_neg e, if_neg (fun z => e (AK.t.inj z))]
        exact ⟨k', v', _, rfl, rfl, h1, i2⟩
theorem rk_putA {l : List (AK × AV)} {m : List (Key × V)} (r : RK E ρ H l m) (k : Key) {v : AV} {x : V} (rv : RV E ρ H v x) : RK E ρ H (putA l (.k k) v) (putK m k x) := by
  obtain ⟨i1, i2, i3⟩ := rk_put r k rv
  unfold putA putK
  rw [i1]
  split
  · exact i2
  · exact i3
theorem rt_putA {l : List (AK × AV)} {m : List (List Key × V)} (r : RT E ρ H l m) (k : List Key) {v : AV} {x : V} (rv : RV E ρ H v x) : RT E ρ H (putA l (.t k) v) (putK m k x) := by
  obtain ⟨i1, i2, i3⟩ := rt_put r k rv
  unfold putA putK
  rw [i1]
  split
  · exact i2
  · exact i3
/-- a store by values: the object, the place, the value -/
abbrev OpP := AV → AV → AV → AHp → Option AHp
def SetS (E : En) (X : Cx) (p : OpP) : Prop :=
  PSet X (fun o i v H Q => ∃ ρ A a b z, RH E ρ H A ∧ RV E ρ H a o ∧ RV E ρ H b i ∧ RV E ρ H z v ∧ match p a b z A with
    | some A' => ∀ ρ' H', Ext ρ H ρ' H' → RH E ρ' H' A' → Q H'
    | none => False)
def pPut : OpP := fun a b z A => match a with
  | .ref n => (match A[n]? with
    | some (.dict kvs false) => (match keyOf b with
      | some ky => if kindA kvs ky = true ∧ kvs.length < sizeLine then some (A.set n (.dict (putA kvs ky z) false)) else none
      | none => none)
    | some (.lst xs false) => (match b with
      | .int i => (ixN xs.length i).map fun j => A.set n (.lst (xs.set j z) false)
      | _ => none)
    | _ => none)
  | _ => none
theorem ss_put (c : Ctx E k X W) : SetS E X pPut := by
  intro pins s σ H o i v ov iv u Q I ro ri rv h
  obtain ⟨ρ, A, a, b, z, hh, ra, rb, rz, q⟩ := h
  unfold pPut at q
  cases a with
  | ref n =>
    dsimp only at q
    cases e1 : A[n]? with
    | none => rw [e1] at q; exact q.elim
    | some oo => cases oo with
      | dict kvs lk => cases lk with
        | true => rw [e1] at q; exact q.elim
        | false =>
          rw [e1] at q
          dsimp only at q
          cases ek : keyOf b with
          | none => rw [ek] at q; exact q.elim
          | some ky =>
            rw [ek] at q
            dsimp only at q
            by_cases hz : kindA kvs ky = true ∧ kvs.length < sizeLine
            · rw [if_pos hz] at q
              obtain ⟨H1, a1, ea, I1, hh1, xt, as⟩ := toKind I hh e1 ky hz.1 (fun hl => by cases hl)
              have ex := RVref ra ea
              subst ex
              obtain rfl : ov = Value.ref a1 := ro
              have rb1 := rb.ext xt
              have rz1 := rz.ext xt
              cases ky with
              | k k1 =>
                obtain ⟨kv', r1, w⟩ := as
                have w : H1 a1 = some (.dK kv') := w
                obtain ⟨z1, z2⟩ := hh1.write (H' := upd H1 a1 (.dK (putK kv' k1 v))) (o' := .dict (putA kvs (.k k1) z) false) e1 ea (fun b hb => upd_ne hb) fun x => .inl ⟨_, rk_putA (r1.ext x) k1 (rz1.ext x), upd_same⟩
                exact d_setItem c.hu1 I1 (.inl ⟨kv', k1, w, keyOf_k ek rb1, by rw [rk_len r1]; exact hz.2, rfl⟩) ri rv fun s' I' => ⟨_, I', q ρ _ (xt.trans z2) z1⟩
              | t ks =>
                obtain ⟨kv', r1, w⟩ := as
                have w : H1 a1 = some (.dT kv') := w
                obtain ⟨b', ey, eb⟩ := keyOf_t ek rb1
                obtain ⟨z1, z2⟩ := hh1.write (H' := upd H1 a1 (.dT (putK kv' ks v))) (o' := .dict (putA kvs (.t ks) z) false) e1 ea (fun b hb => upd_ne hb) fun x => .inr ⟨_, rt_putA (r1.ext x) ks (rz1.ext x), upd_same⟩
                exact d_setItem c.hu1 I1 (.inr ⟨kv', ks, b', w, ey, eb, by rw [rt_len r1]; exact hz.2, rfl⟩) ri rv fun s' I' => ⟨_, I', q ρ _ (xt.trans z2) z1⟩
            · rw [if_neg hz] at q; exact q.elim
      | lst xs ro2 => cases ro2 with
        | true => rw [e1] at q; exact q.elim
        | false =>
          rw [e1] at q
          dsimp only at q
          cases b with
          | int i1 =>
            cases rb
            dsimp only at q
            cases ej : ixN xs.length i1 with
            | none => rw [ej] at q; exact q.elim
            | some j =>
              rw [ej] at q
              obtain ⟨p0, ys, p1, r2, _, w0⟩ := hh.lst e1
              have ex := RVref ra p1
              subst ex
              obtain ⟨z1, z2⟩ := setLst hh e1 p1 (RVs.set rz j r2)
              exact set_list pins s σ H _ _ v ov iv u Q I ro ri rv ⟨p0, ys, i1, j, rfl, rfl, w0 rfl, by rw [r2.length]; exact ej, q ρ _ z2 z1⟩
          | _ => exact q.elim
      | ins cc fs => rw [e1] at q; exact q.elim
  | _ => exact q.elim
end
end Ev
end
section
/-! Ev, eighth part: statements, loops, comprehensions. -/
namespace Ev
open PySem PySem.Spec L2
set_option autoImplicit false
section
variable {E : En} {X : Cx} {W : WX} {k : Nat} {ρ : List Addr} {H : Hp}
/-! ### blocks and small statements -/
def sNil : SDen := fun σ A => .nx σ A
def SR.bind (r : SR) (g : SDen) : SR := match r with
  | .nx σ A => g σ A
  | r => r
@[simp] theorem SR.bind_nx (σ : ASt) (A : AHp) (g : SDen) : (SR.nx σ A).bind g = g σ A := (rfl)
@[simp] theorem SR.bind_rt (v : AV) (A : AHp) (g : SDen) : (SR.rt v A).bind g = .rt v A := (rfl)
@[simp] theorem SR.bind_bk (σ : ASt) (A : AHp) (g : SDen) : (SR.bk σ A).bind g = .bk σ A := (rfl)
@[simp] theorem SR.bind_ct (σ : ASt) (A : AHp) (g : SDen) : (SR.ct σ A).bind g = .ct σ A := (rfl)
@[simp] theorem SR.bind_er (σ : ASt) (c : Nat) (r : Option Int) (A : AHp) (g : SDen) : (SR.er σ c r A).bind g = .er σ c r A := (rfl)
@[simp] theorem SR.bind_bad (g : SDen) : SR.bad.bind g = .bad := (rfl)
def sSeq (f g : SDen) : SDen := fun σ A => (f σ A).bind g
theorem rdS_bindS {f g : SDen} {D : Ends} {σ : St} (h : rdS E (sSeq f g) W D σ H) : rdS E f W { D with nx := fun σ' H' => rdS E g W D σ' H' } σ H := by
  obtain ⟨ρ, σa, A, hs, hh, q⟩ := h
  have q : PostS E ((f σa A).bind g) ρ H D W := q
  refine ⟨ρ, σa, A, hs, hh, ?_⟩
  cases e : f σa A with
  | nx σ1 A1 =>
    rw [e] at q
    exact fun ρ' H' σ' x rh rs => ⟨ρ', σ1, A1, rs, rh, PostS.ext q x⟩
  | rt v A1 => rw [e] at q; exact q
  | bk σ1 A1 => rw [e] at q; exact q
  | ct σ1 A1 => rw [e] at q; exact q
  | er σ1 c r A1 => rw [e] at q; exact q
  | bad => rw [e] at q; exact q
theorem sss_nil : SSs E X W [] sNil := PSs.imp pss_nil fun D σ H ⟨ρ, σa, A, hs, hh, q⟩ => q ρ H σ (Ext.refl _ _) hh hs
theorem sss_cons {st : Stmt} {rest : List Stmt} {f g : SDen} (h1 : SS E X W st f) (h2 : SSs E X W rest g) : SSs E X W (st :: rest) (sSeq f g) :=
  PSs.imp (pss_cons h1 h2) fun D σ H h => rdS_bindS h
theorem sss_one {st : Stmt} {f : SDen} (h1 : SS E X W st f) : SSs E X W [st] f := pss_one h1
theorem ss_pass {pos : Pos} : SS E X W (.Pass pos) sNil := PS.imp ps_pass fun D σ H ⟨ρ, σa, A, hs, hh, q⟩ => q ρ H σ (Ext.refl _ _) hh hs
def sCont : SDen := fun σ A => .ct σ A
def sBrk : SDen := fun σ A => .bk σ A
theorem ss_cont {pos : Pos} : SS E X W (.Continue pos) sCont := PS.imp ps_continue fun D σ H ⟨ρ, σa, A, hs, hh, q⟩ => q ρ H σ (Ext.refl _ _) hh hs
theorem ss_brk {pos : Pos} : SS E X W (.Break pos) sBrk := PS.imp ps_break fun D σ H ⟨ρ, σa, A, hs, hh, q⟩ => q ρ H σ (Ext.refl _ _) hh hs
def sExpr (f : Den AV) : SDen := fun σ A => (f σ A).toS σ fun _ A1 => .nx σ A1
theorem ss_expr {e : Expr} {f : Den AV} {pos : Pos} (h : SE E X W e f) (hs : swapsWith e none pos.line X.env = pure false) : SS E X W (.Expr e pos) (sExpr f) := by
  refine PS.imp (ps_expr h hs) fun D σ H h => ?_
  exact rdS_step h fun x' H1 ρ σa A x hs hh hx q => q ρ H1 σ (Ext.refl _ _) hh hs
def sRet (f : Den AV) : SDen := fun σ A => (f σ A).toS σ fun v A1 => .rt v A1
theorem ss_ret {e : Expr} {f : Den AV} {pos : Pos} (h : SE E X W e f) : SS E X W (.Return (some e) pos) (sRet f) := by
  refine PS.imp (ps_ret h) fun D σ H h => ?_
  exact rdS_step h fun x' H1 ρ σa A x hs hh hx q => q ρ H1 x' (Ext.refl _ _) hh hx
def sRetN : SDen := fun _ A => .rt .non A
theorem ss_retN {pos : Pos} : SS E X W (.Return none pos) sRetN := PS.imp ps_retN fun D σ H ⟨ρ, σa, A, hs, hh, q⟩ => q ρ H _ (Ext.refl _ _) hh rfl
def sIf (t : Den Bool) (f g : SDen) : SDen := fun σ A => (t σ A).toS σ fun b A1 => if b = true then f σ A1 else g σ A1
theorem ss_if {c : Expr} {a b : List Stmt} {t : Den Bool} {f g : SDen} {pos : Pos} (hc : STt E X W c t) (ha : SSs E X W a f) (hb : SSs E X W b g) : SS E X W (.If c a b pos) (sIf t f g) := by
  refine PS.imp (ps_if hc ha hb) fun D σ H h => ?_
  refine rdS_step h fun x' H1 ρ σa A x hs hh hx q => ?_
  cases hx
  cases x' with
  | true => exact ⟨ρ, σa, A, hs, hh, q⟩
  | false => exact ⟨ρ, σa, A, hs, hh, q⟩
/-! ### targets -/
abbrev GDen := AV → ASt → AHp → Option ASt
def rdG (E : En) (g : GDen) : TG := fun v σ H Q => ∃ ρ σa A x, RS E ρ H σa σ ∧ RH E ρ H A ∧ RV E ρ H x v ∧ match g x σa A with
  | some σa' => ∀ ρ' H' σ', Ext ρ H ρ' H' → RH E ρ' H' A → RS E ρ' H' σa' σ' → Q σ' H'
  | none => False
abbrev SG (E : En) (X : Cx) (tg : Expr) (g : GDen) : Prop := PG X tg (rdG E g)
theorem PG.imp {X : Cx} {e : Expr} {t t' : TG} (h : PG X e t) (k : ∀ v σ H Q, t' v σ H Q → t v σ H Q) : PG X e t' := ⟨fun pins s σ H v u Q I r q => h.run pins s σ H v u Q I r (k v σ H Q q)⟩
def gNm (i : Nat) : GDen := fun v σ _ => some (σ.set i (some v))
theorem sg_name {i : Nat} {x : Str} {pos : Pos} (hN : X.N.Nodup) (hi : X.N[i]? = some x) (hx : Loc X.env.scope x) (hf : X.fn x = true ∨ X.env.scope.names.lookup x = some .local) : SG E X (.Name x pos) (gNm i) := by
  refine PG.imp (pg_name hN hi hx hf) fun v σ H Q ⟨ρ, σa, A, z, hs, hh, hz, q⟩ => ?_
  exact q ρ H _ (Ext.refl _ _) hh (hs.set i hz)
/-- several targets -/
abbrev GsDen := List AV → ASt → AHp → Option ASt
def gsNil : GsDen := fun vs σ _ => match vs with
  | [] => some σ
  | _ => none
def gsCons (g : GDen) (gs : GsDen) : GsDen := fun vs σ A => match vs with
  | v :: r => (g v σ A).bind fun σ1 => gs r σ1 A
  | [] => none
def rdGs (E : En) (g : GsDen) : TGs := fun vs σ H Q => ∃ ρ σa A xs, RS E ρ H σa σ ∧ RH E ρ H A ∧ RVs E ρ H xs vs ∧ match g xs σa A with
  | some σa' => ∀ ρ' H' σ', Ext ρ H ρ' H' → RH E ρ' H' A → RS E ρ' H' σa' σ' → Q σ' H'
  | none => False
theorem PGs.imp {X : Cx} {e : List Expr} {t t' : TGs} (h : PGs X e t) (k : ∀ v σ H Q, t' v σ H Q → t v σ H Q) : PGs X e t' := ⟨fun pins s σ H v u Q I r q => h.run pins s σ H v u Q I r (k v σ H Q q)⟩
abbrev SGs (E : En) (X : Cx) (tg : List Expr) (g : GsDen) : Prop := PGs X tg (rdGs E g)
theorem sgs_nil : SGs E X [] gsNil := by
  refine PGs.imp pgs_nil fun v σ H Q ⟨ρ, σa, A, z, hs, hh, hz, q⟩ => ?_
  cases z with
  | nil => cases hz; exact ⟨rfl, q ρ H _ (Ext.refl _ _) hh hs⟩
  | cons a b => exact q.elim
theorem sgs_cons {e : Expr} {es : List Expr} {g : GDen} {gs : GsDen} (h1 : SG E X e g) (h2 : SGs E X es gs) (hs : (assignEach (e :: es) X.env).map (·.2) = assign e X.env :: (assignEach es X.env).map (·.2)) : SGs E X (e :: es) (gsCons g gs) := by
  refine PGs.imp (pgs_cons h1 h2 hs) fun v σ H Q ⟨ρ, σa, A, z, hs, hh, hz, q⟩ => ?_
  cases z with
  | nil => exact q.elim
  | cons a b =>
    obtain ⟨y, ys, rfl, r1, r2⟩ := hz
    refine ⟨y, ys, rfl, ρ, σa, A, a, hs, hh, r1, ?_⟩
    unfold gsCons at q
    dsimp only at q
    cases e1 : g a σa A with
    | none => rw [e1] at q; exact q.elim
    | some σ1 =>
      rw [e1] at q
      dsimp only [Option.bind] at q
      intro ρ' H' σ' x rh rs
      refine ⟨ρ', σ1, A, b, rs, rh, r2.ext x, ?_⟩
      cases e2 : gs b σ1 A with
      | none => rw [e2] at q; exact q.elim
      | some σ2 =>
        rw [e2] at q
        exact fun ρ2 H2 σ2' x2 rh2 rs2 => q ρ2 H2 σ2' (x.trans x2) rh2 rs2
def gTp (n : Nat) (gs : GsDen) : GDen := fun v σ A => match v with
  | .tup xs => if xs.length = n then gs xs σ A else none
  | _ => none
theorem sg_tup {es : List Expr} {k2 : Nat} {gs : GsDen} {n : Nat} {pos : Pos} (hc : X.calm = true) (h : SGs E X es gs)
    (hn : (assignEach es X.env).length = n) (hst : (assignEach es X.env).findIdx? (·.1) = none) : SG E X (.Tuple es k2 pos) (gTp n gs) := by
  refine PG.imp (pg_tup hc h hn hst) fun v σ H Q ⟨ρ, σa, A, z, hs, hh, hz, q⟩ => ?_
  unfold gTp at q
  cases z with
  | tup xs =>
    obtain ⟨a, ys, rfl, st, r⟩ := hz
    dsimp only at q
    by_cases hl : xs.length = n
    · rw [if_pos hl] at q
      exact ⟨a, ys, rfl, .inl (.inl st), by rw [r.length]; exact hl, ρ, σa, A, xs, hs, hh, r, q⟩
    · rw [if_neg hl] at q
      exact q.elim
  | _ => exact q.elim
def sAsg (f : Den AV) (g : GDen) : SDen := fun σ A => (f σ A).toS σ fun v A1 => match g v σ A1 with
  | some σ' => .nx σ' A1
  | none => .bad
theorem asg_rd {f : Den AV} {g : GDen} {D : Ends} {σ : St} (h : rdS E (sAsg f g) W D σ H) : tAsg (rd E (RV E) f W) (rdG E g) D σ H := by
  refine rdS_step h fun x' H1 ρ σa A x hs hh hx q => ?_
  refine ⟨ρ, σa, A, x, hs, hh, hx, ?_⟩
  cases e : g x σa A with
  | none => rw [e] at q; exact q
  | some σ' => rw [e] at q; exact q
theorem ss_asg {tg e : Expr} {f : Den AV} {g : GDen} {pos : Pos} (he : SE E X W e f) (hg : SG E X tg g) (hs : swapsWithSole [tg] e pos.line X.env = pure false) (hw : swappedStores [tg] e X.env = pure none)
    (h1 : (assignEach [tg] X.env).map (·.2) = [assign tg X.env]) : SS E X W (.Assign [tg] e pos) (sAsg f g) := PS.imp (ps_asg he hg hs hw h1) fun D σ H h => asg_rd h
theorem ss_set {i : Nat} {x : Str} {e : Expr} {f : Den AV} {pos pos' : Pos} (hN : X.N.Nodup) (hi : X.N[i]? = some x) (hx : Loc X.env.scope x) (he : SE E X W e f) (hs : swapsWith e (some (.Name x pos')) pos.line X.env = pure false) (hf : X.fn x = true ∨ X.env.scope.names.lookup x = some .local) :
    SS E X W (.Assign [.Name x pos'] e pos) (sAsg f (gNm i)) := by
  refine PS.imp (ps_set hN hi hx he hs hf) fun D σ H h => ?_
  refine rdS_step h fun x' H1 ρ σa A x hs hh hx q => ?_
  exact q ρ H1 _ (Ext.refl _ _) hh (hs.set i hx)
/-- o[i] = e -/
def sPut (p : OpP) (fe fo fi : Den AV) : SDen := fun σ A => (fe σ A).toS σ fun v A1 => (fo σ A1).toS σ fun o A2 => (fi σ A2).toS σ fun i A3 => match p o i v A3 with
  | some A' => .nx σ A'
  | none => .bad
theorem ss_sput {p : OpP} {e o i : Expr} {fe fo fi : Den AV} {pos pos' : Pos} (hp : SetS E X p) (he : SE E X W e fe) (ho : SE E X W o fo) (hi : SE E X W i fi)
    (ha : ∀ v, assign (.Subscript o i pos') X.env v = (do
      let ov ← holding [v] (eval o X.env)
      let iv ← holding [v, ov] (eval i X.env)
      standAt pos'
      holding [v, ov, iv] (setItem ov iv v)
      release [v, ov, iv] []))
    (hs : swapsWithSole [.Subscript o i pos'] e pos.line X.env = pure false) (hw : swappedStores [.Subscript o i pos'] e X.env = pure none) (h1 : (assignEach [.Subscript o i pos'] X.env).map (·.2) = [assign (.Subscript o i pos') X.env]) :
    SS E X W (.Assign [.Subscript o i pos'] e pos) (sPut p fe fo fi) := by
  refine PS.imp (ps_asg he (pg_sub ho hi hp ha) hs hw h1) fun D σ H h => ?_
  refine rdS_step h fun v' H1 ρ σa A v hs hh hv q => ?_
  refine ⟨ρ, σa, A, hs, hh, ?_⟩
  cases e1 : fo σa A with
  | err c i A2 => rw [e1] at q; exact fun ρ' H' d x rh rx => q ρ' H' σ d x rh (hs.ext x) rx
  | bad => rw [e1] at q; exact q
  | ok ov A2 =>
    rw [e1] at q
    intro ρ2 H2 o' xt rh ro
    refine ⟨ρ2, σa, A2, hs.ext xt, rh, ?_⟩
    have q : PostS E ((fi σa A2).toS σa fun i A3 => match p ov i v A3 with
      | some A' => .nx σa A'
      | none => .bad) ρ H1 D W := q
    cases e2 : fi σa A2 with
    | err c i A3 => rw [e2] at q; exact fun ρ' H' d x rh rx => q ρ' H' σ d (xt.trans x) rh ((hs.ext xt).ext x) rx
    | bad => rw [e2] at q; exact q
    | ok iv A3 =>
      rw [e2] at q
      intro ρ3 H3 i' xt3 rh3 ri
      refine ⟨ρ3, A3, ov, iv, v, rh3, ro.ext xt3, ri, (hv.ext xt).ext xt3, ?_⟩
      dsimp only [Res.toS] at q
      cases e3 : p ov iv v A3 with
      | none => rw [e3] at q; exact q
      | some A' =>
        rw [e3] at q
        exact fun ρ4 H4 x4 rh4 => q ρ4 H4 σ ((xt.trans xt3).trans x4) rh4 (((hs.ext xt).ext xt3).ext x4)
/-- name op= e -/
def IpS (E : En) (X : Cx) (op : Operator) (p : Op2) : Prop := PIp X op (r2 E p)
def sAug (i : Nat) (p : Op2) (f : Den AV) : SDen := fun σ A => match σ[i]? with
  | some (some x) => (f σ A).toS σ fun y A1 => match p x y A1 with
    | some (z, A2) => .nx (σ.set i (some z)) A2
    | none => .bad
  | _ => .bad
theorem ss_aug {i : Nat} {x : Str} {e : Expr} {f : Den AV} {op : Operator} {p : Op2} {pos pos' : Pos} (hN : X.N.Nodup) (hi : X.N[i]? = some x) (hx : Loc X.env.scope x) (he : SE E X W e f) (ho : IpS E X op p) (hf : X.fn x = true ∨ X.env.scope.names.lookup x = some .local) :
    SS E X W (.AugAssign (.Name x pos') op e pos) (sAug i p f) := by
  refine PS.imp (ps_aug hN hi hx he ho hf) fun D σ H h => ?_
  obtain ⟨ρ, σa, A, hs, hh, q⟩ := h
  unfold sAug at q
  cases e0 : σa[i]? with
  | none => rw [e0] at q; exact q.elim
  | some o => cases o with
    | none => rw [e0] at q; exact q.elim
    | some xv =>
      rw [e0] at q
      obtain ⟨xv', e', rx⟩ := hs.at_ i xv e0
      refine ⟨xv', e', ρ, σa, A, hs, hh, ?_⟩
      dsimp only at q
      cases e1 : f σa A with
      | err c i A2 => rw [e1] at q; exact fun ρ' H' d x rh rx => q ρ' H' σ d x rh (hs.ext x) rx
      | bad => rw [e1] at q; exact q
      | ok y A1 =>
        rw [e1] at q
        intro ρ1 H1 y' xt rh ry
        refine ⟨ρ1, A1, xv, y, rh, rx.ext xt, ry, ?_⟩
        dsimp only [Res.toS] at q
        cases e2 : p xv y A1 with
        | none => rw [e2] at q; exact q
        | some zz =>
          obtain ⟨z, A2⟩ := zz
          rw [e2] at q
          exact fun ρ2 H2 z' x2 rh2 rz => q ρ2 H2 _ (xt.trans x2) rh2 (((hs.ext xt).ext x2).set i rz)
/-! ### what is walked -/
abbrev Src := Nat → AHp → Option (Option AV)
/-- a walked thing answers as its source says -/
def JOk (E : En) (J : It) (src : Src) (ρ0 : List Addr) (H0 : Hp) : Prop := ∀ ρ A H i, Ext ρ0 H0 ρ H → RH E ρ H A → (src i A = some none → J.stop i H) ∧ ∀ x, src i A = some (some x) → J.go i H ∧ ∀ x' H', J.yld i H x' H' → RH E ρ H' A ∧ Ext ρ H ρ H' ∧ RV E ρ H' x x'
abbrev IDen := ASt → AHp → Res (Src × Nat)
def rdI (E : En) (f : IDen) (W : WX) : TI := fun σ H R => ∃ ρ σa A, RS E ρ H σa σ ∧ RH E ρ H A ∧ match f σa A with
  | .ok (src, _) A1 => ∀ ρ' H' J, Ext ρ H ρ' H' → RH E ρ' H' A1 → JOk E J src ρ' H' → R J H'
  | .err c x A1 => ∀ ρ' H' d, Ext ρ H ρ' H' → RH E ρ' H' A1 → RX E H' c x d → W (.ref (E.cad c)) d σ H'
  | .bad => False
abbrev SI (E : En) (X : Cx) (W : WX) (tg e : Expr) (f : IDen) : Prop := PI X tg e (rdI E f W)
def srcL (n : Nat) : Src := fun i A => match A[n]? with
  | some (.lst xs _) => some xs[i]?
  | _ => none
def srcC (xs : List AV) : Src := fun i _ => some xs[i]?
def strs1 (z : Str) : List AV := z.cps.toList.map fun c => .str ⟨#[c]⟩
/-- lists, tuples, texts -/
def iterOf (v : AV) (A : AHp) : Res (Src × Nat) := match v with
  | .tup xs => .ok (srcC xs, xs.length + 1) A
  | .ktup xs => .ok (srcC xs, xs.length + 1) A
  | .str z => .ok (srcC (strs1 z), z.cps.size + 1) A
  | .ref n => (match A[n]? with
    | some (.lst xs _) => .ok (srcL n, xs.length + 1) A
    | _ => .bad)
  | _ => .bad
def iAny (f : Den AV) : IDen := fun σ A => (f σ A).bind fun v A1 => iterOf v A1
theorem jok_list {n : Nat} {a : Addr} {ρ0 : List Addr} {H0 : Hp} (K : PySem.W.Frag) (ea : ρ0[n]? = some a) : JOk E (Itl K a) (srcL n) ρ0 H0 := by
  intro ρ A H i x hh
  have ea' := x.pre n a ea
  unfold srcL
  cases e1 : A[n]? with
  | none => exact ⟨fun z => (nomatch z), fun _ z => (nomatch z)⟩
  | some o => cases o with
    | lst xs ro =>
      obtain ⟨p0, ys, p1, r2, w0, _⟩ := hh.lst e1
      rw [ea'] at p1
      cases p1
      dsimp only
      refine ⟨fun z => ⟨ys, .inl w0, ?_⟩, fun v z => ?_⟩
      · have z2 := List.getElem?_eq_none_iff.mp (Option.some.inj z)
        rw [r2.length]
        exact z2
      · obtain ⟨y, ey, ry⟩ := r2.get (Option.some.inj z)
        refine ⟨⟨ys, y, .inl w0, ey⟩, fun x' H' ⟨eH, hy⟩ => ?_⟩
        subst eH
        have e3 := hy ys (.inl w0)
        rw [ey] at e3
        cases e3
        exact ⟨hh, Ext.refl _ _, ry⟩
    | dict _ _ => exact ⟨fun z => (nomatch z), fun _ z => (nomatch z)⟩
    | ins _ _ => exact ⟨fun z => (nomatch z), fun _ z => (nomatch z)⟩
theorem jok_tup {xs : List AV} {ys : List V} {a : Addr} {ρ0 : List Addr} {H0 : Hp} (K : PySem.W.Frag) (st : H0 a = some (.tup ys)) (r : RVs E ρ0 H0 xs ys) : JOk E (Itt K a) (srcC xs) ρ0 H0 := by
  intro ρ A H i x hh
  have st' := x.fx a _ st rfl
  have r' := r.ext x
  refine ⟨fun z => ⟨ys, .inl (.inl st'), ?_⟩, fun v z => ?_⟩
  · have z2 := List.getElem?_eq_none_iff.mp (Option.some.inj z)
    rw [r.length]
    exact z2
  · obtain ⟨y, ey, ry⟩ := r'.get (Option.some.inj z)
    refine ⟨⟨ys, y, .inl (.inl st'), ey⟩, fun x' H' ⟨eH, hy⟩ => ?_⟩
    subst eH
    have e3 := hy ys (.inl (.inl st'))
    rw [ey] at e3
    cases e3
    exact ⟨hh, Ext.refl _ _, ry⟩
theorem jok_ktup (hK : X.K = E.K) {xs : List AV} {ys : List V} {a : Addr} {ρ0 : List Addr} {H0 : Hp} (st : SqT E.K H0 a ys) (r : RVs E ρ0 H0 xs ys) : JOk E (Itt X.K a) (srcC xs) ρ0 H0 := by
  intro ρ A H i x hh
  have st' : SqT X.K H a ys := hK ▸ SqT.ext x.fx st
  have r' := r.ext x
  refine ⟨fun z => ⟨ys, st', ?_⟩, fun v z => ?_⟩
  · have z2 := List.getElem?_eq_none_iff.mp (Option.some.inj z)
    rw [r.length]
    exact z2
  · obtain ⟨y, ey, ry⟩ := r'.get (Option.some.inj z)
    refine ⟨⟨ys, y, st', ey⟩, fun x' H' ⟨eH, hy⟩ => ?_⟩
    subst eH
    have e3 := hy ys st'
    rw [ey] at e3
    cases e3
    exact ⟨hh, Ext.refl _ _, ry⟩
theorem jok_str {z : Str} {ρ0 : List Addr} {H0 : Hp} : JOk E (Its z) (srcC (strs1 z)) ρ0 H0 := by
  intro ρ A H i x hh
  refine ⟨fun e => ?_, fun v e => ?_⟩
  · have e2 := List.getElem?_eq_none_iff.mp (Option.some.inj e)
    unfold strs1 at e2
    rw [List.length_map] at e2
    show z.cps.size ≤ i
    simpa using e2
  · have e2 := Option.some.inj e
    unfold strs1 at e2
    rw [List.getElem?_map] at e2
    obtain ⟨c, e3, rfl⟩ := Option.map_eq_some_iff.mp e2
    have e4 : z.cps[i]? = some c := by simpa using e3
    have hlt : i < z.cps.size := by
      obtain ⟨h, _⟩ := Array.getElem?_eq_some_iff.mp e4
      exact h
    refine ⟨hlt, fun x' H' ⟨eH, c', hc, hv⟩ => ?_⟩
    subst eH
    rw [e4] at hc
    cases hc
    subst hv
    exact ⟨hh, Ext.refl _ _, rfl⟩
theorem si_any (hK : X.K = E.K) {tg e : Expr} {f : Den AV} (he : SE E X W e f) : SI E X W tg e (iAny f) := by
  refine ⟨fun pins s σ H R I h => ?_⟩
  obtain ⟨ρ, σa, A, hs, hh, q⟩ := h
  unfold iAny at q
  cases e1 : f σa A with
  | err c i A2 =>
    rw [e1] at q
    exact (pi_list (X := X) (tg := tg) he).run pins s σ H R I ⟨ρ, σa, A, hs, hh, by rw [e1]; exact q⟩
  | bad => rw [e1] at q; exact q.elim
  | ok v A1 =>
    rw [e1] at q
    dsimp only [Res.bind] at q
    unfold iterOf at q
    cases v with
    | tup xs =>
      refine (pi_tup (X := X) (tg := tg) he).run pins s σ H R I ⟨ρ, σa, A, hs, hh, ?_⟩
      rw [e1]
      rintro ρ1 H1 b x rh ⟨a, ys, rfl, st, r⟩
      exact ⟨a, rfl, ⟨ys, .inl (.inl st)⟩, q ρ1 H1 _ x rh (jok_tup _ st r)⟩
    | ktup xs =>
      refine (pi_tup (X := X) (tg := tg) he).run pins s σ H R I ⟨ρ, σa, A, hs, hh, ?_⟩
      rw [e1]
      rintro ρ1 H1 b x rh ⟨a, ys, rfl, st, r⟩
      exact ⟨a, rfl, ⟨ys, hK ▸ st⟩, q ρ1 H1 _ x rh (jok_ktup hK st r)⟩
    | str z =>
      refine (pi_str (X := X) (tg := tg) he).run pins s σ H R I ⟨ρ, σa, A, hs, hh, ?_⟩
      rw [e1]
      intro ρ1 H1 b x rh rb
      cases rb
      exact ⟨z, rfl, q ρ1 H1 _ x rh jok_str⟩
    | ref n =>
      dsimp only at q
      cases e2 : A1[n]? with
      | none => rw [e2] at q; exact q.elim
      | some o => cases o with
        | lst xs ro =>
          rw [e2] at q
          refine (pi_list (X := X) (tg := tg) he).run pins s σ H R I ⟨ρ, σa, A, hs, hh, ?_⟩
          rw [e1]
          intro ρ1 H1 b x rh rb
          obtain ⟨p0, ys, p1, r2, w0, _⟩ := rh.lst e2
          have ex := RVref rb p1
          subst ex
          exact ⟨p0, rfl, ⟨ys, .inl w0⟩, q ρ1 H1 _ x rh (jok_list _ p1)⟩
        | dict _ _ => rw [e2] at q; exact q.elim
        | ins _ _ => rw [e2] at q; exact q.elim
    | _ => exact q.elim
/-! ### ranges -/
def srcR (lo : Int) (n : Nat) : Src := fun i _ => some (if i < n then some (.int (lo + i)) else none)
def rngOk (i : Int) : Bool := decide (-(2 ^ 62) ≤ i) && decide (i < 2 ^ 62)
def rng1 : List AV → Option (Int × Nat)
  | [.int j] => if rngOk j = true then some (0, j.toNat) else none
  | _ => none
def rng2 : List AV → Option (Int × Nat)
  | [.int i, .int j] => if rngOk i = true ∧ rngOk j = true then some (i, (j - i).toNat) else none
  | _ => none
def srcOf (r : Option (Int × Nat)) (A : AHp) : Res (Src × Nat) := match r with
  | some (lo, n) => .ok (srcR lo n, n + 1) A
  | none => .bad
def iR1 (f : Den (List AV)) : IDen := fun σ A => (f σ A).bind fun vs A1 => srcOf (rng1 vs) A1
def iR2 (f : Den (List AV)) : IDen := fun σ A => (f σ A).bind fun vs A1 => srcOf (rng2 vs) A1
theorem rngOk_iff {i : Int} : rngOk i = true ↔ -(2 ^ 62) ≤ i ∧ i < 2 ^ 62 := by
  unfold rngOk
  rw [Bool.and_eq_true, decide_eq_true_eq, decide_eq_true_eq]
theorem jok_rng {lo : Int} {n : Nat} {ρ0 : List Addr} {H0 : Hp} : JOk E (Itr lo n) (srcR lo n) ρ0 H0 := by
  intro ρ A H i x hh
  unfold srcR
  by_cases h : i < n
  · simp only [if_pos h]
    refine ⟨fun e => (nomatch e), fun v e => ?_⟩
    cases e
    refine ⟨h, fun x' H' ⟨eH, hv⟩ => ?_⟩
    subst eH hv
    exact ⟨hh, Ext.refl _ _, rfl⟩
  · simp only [if_neg h]
    exact ⟨fun _ => Nat.le_of_not_lt h, fun v e => (nomatch e)⟩
theorem si_r1 {tg a : Expr} {f : Den (List AV)} {p pos : Pos} (hg : Gl X "range") (hm : X.mg "range" = none) (ha : SA E X W [a] f) (hs : starEach [a] X.env = [(false, eval a X.env)]) : SI E X W tg (.Call (.Name "range" p) [a] [] pos) (iR1 f) := by
  refine ⟨fun pins s σ H R I h => ?_⟩
  obtain ⟨ρ, σa, A, hs', hh, q⟩ := h
  refine (pi_range1 (X := X) (tg := tg) (p := p) (pos := pos) hg hm ha hs).run pins s σ H R I ⟨ρ, σa, A, hs', hh, ?_⟩
  unfold iR1 at q
  cases e1 : f σa A with
  | err c i A2 => rw [e1] at q; exact q
  | bad => rw [e1] at q; exact q
  | ok vs A1 =>
    rw [e1] at q
    dsimp only [Res.bind] at q
    intro ρ1 H1 b x rh rb
    cases e2 : rng1 vs with
    | none => rw [e2] at q; exact q.elim
    | some lo =>
      rw [e2] at q
      unfold rng1 at e2
      split at e2
      · rename_i j
        obtain ⟨y, rfl, r1⟩ := rvs1 rb
        cases r1
        split at e2
        · rename_i hz
          cases e2
          obtain ⟨h1, h2⟩ := rngOk_iff.mp hz
          exact ⟨j, rfl, h1, h2, q ρ1 H1 _ x rh jok_rng⟩
        · cases e2
      · cases e2
theorem si_r2 {tg a b : Expr} {f : Den (List AV)} {p pos : Pos} (hg : Gl X "range") (hm : X.mg "range" = none) (ha : SA E X W [a, b] f) (hs : starEach [a, b] X.env = [(false, eval a X.env), (false, eval b X.env)]) (hs2 : starEach [b] X.env = [(false, eval b X.env)]) :
    SI E X W tg (.Call (.Name "range" p) [a, b] [] pos) (iR2 f) := by
  refine ⟨fun pins s σ H R I h => ?_⟩
  obtain ⟨ρ, σa, A, hs', hh, q⟩ := h
  refine (pi_range2 (X := X) (tg := tg) (p := p) (pos := pos) hg hm ha hs hs2).run pins s σ H R I ⟨ρ, σa, A, hs', hh, ?_⟩
  unfold iR2 at q
  cases e1 : f σa A with
  | err c i A2 => rw [e1] at q; exact q
  | bad => rw [e1] at q; exact q
  | ok vs A1 =>
    rw [e1] at q
    dsimp only [Res.bind] at q
    intro ρ1 H1 b x rh rb
    cases e2 : rng2 vs with
    | none => rw [e2] at q; exact q.elim
    | some lo =>
      rw [e2] at q
      unfold rng2 at e2
      split at e2
      · rename_i i j
        obtain ⟨y, z, rfl, r1, r2⟩ := rvs2 rb
        cases r1; cases r2
        split at e2
        · rename_i hz
          cases e2
          obtain ⟨h1, h2⟩ := rngOk_iff.mp hz.1
          obtain ⟨h3, h4⟩ := rngOk_iff.mp hz.2
          exact ⟨i, j, rfl, ⟨h1, h2, h3, h4⟩, q ρ1 H1 _ x rh jok_rng⟩
        · cases e2
      · cases e2
/-! ### for -/
def loopS (src : Src) (g : GDen) (body : SDen) : Nat → Nat → ASt → AHp → SR
  | 0, _, _, _ => .bad
  | n + 1, i, σ, A => match src i A with
    | none => .bad
    | some none => .nx σ A
    | some (some x) => match g x σ A with
      | none => .bad
      | some σ1 => match body σ1 A with
        | .nx σ2 A2 => loopS src g body n (i + 1) σ2 A2
        | .ct σ2 A2 => loopS src g body n (i + 1) σ2 A2
        | .bk σ2 A2 => .nx σ2 A2
        | r => r
def sFor (it : IDen) (g : GDen) (body : SDen) : SDen := fun σ A => (it σ A).toS σ fun sn A1 => loopS sn.1 g body sn.2 0 σ A1
theorem ss_for {tg iter : Expr} {body : List Stmt} {it : IDen} {g : GDen} {f : SDen} {pos : Pos} (c : Ctx E k X W) (hi : SI E X W tg iter it) (hg : SG E X tg g) (hb : SSs E X W body f)
    (hs : ∀ x, foldedSetIterable iter X.env x = pure x) : SS E X W (.For tg iter body [] pos) (sFor it g f) := by
  refine PS.imp (ps_for c.po c.calm hi hg hb hs) fun D σ H h => ?_
  obtain ⟨ρ, σa, A, hs', hh, q⟩ := h
  unfold sFor at q
  refine ⟨ρ, σa, A, hs', hh, ?_⟩
  cases e1 : it σa A with
  | err c i A2 => rw [e1] at q; exact fun ρ' H' d x rh rx => q ρ' H' σ d x rh (hs'.ext x) rx
  | bad => rw [e1] at q; exact q
  | ok sn A1 =>
    obtain ⟨src, n⟩ := sn
    rw [e1] at q
    have q : PostS E (loopS src g f n 0 σa A1) ρ H D W := q
    intro ρ1 H1 J x1 rh1 jok
    refine ⟨fun i m σ H => ∃ ρ2 σa2 A2, Ext ρ1 H1 ρ2 H ∧ RS E ρ2 H σa2 σ ∧ RH E ρ2 H A2 ∧ PostS E (loopS src g f m i σa2 A2) ρ2 H D W, ⟨n, ρ1, σa, A1, Ext.refl _ _, hs'.ext x1, rh1, PostS.ext q x1⟩, ?_⟩
    rintro i m σ2 H2 ⟨ρ2, σa2, A2, x2, hs2, rh2, q2⟩
    cases m with
    | zero => exact q2.elim
    | succ m =>
      unfold loopS at q2
      obtain ⟨j1, j2⟩ := jok ρ2 A2 H2 i x2 rh2
      cases e2 : src i A2 with
      | none => rw [e2] at q2; exact q2.elim
      | some o => cases o with
        | none =>
          rw [e2] at q2
          exact .inl ⟨j1 e2, q2 ρ2 H2 σ2 (Ext.refl _ _) rh2 hs2⟩
        | some v =>
          rw [e2] at q2
          dsimp only at q2
          obtain ⟨go, yl⟩ := j2 v e2
          refine .inr ⟨go, fun σ' H' => ∃ ρ2 σa2 A2, Ext ρ1 H1 ρ2 H' ∧ RS E ρ2 H' σa2 σ' ∧ RH E ρ2 H' A2 ∧ PostS E (loopS src g f m (i + 1) σa2 A2) ρ2 H' D W, fun σ' H' z => ⟨m, Nat.lt_succ_self m, z⟩, fun v' H3 hy => ?_⟩
          obtain ⟨rh3, x3, rv⟩ := yl v' H3 hy
          refine ⟨ρ2, σa2, A2, v, hs2.ext x3, rh3, rv, ?_⟩
          cases e3 : g v σa2 A2 with
          | none => rw [e3] at q2; exact q2.elim
          | some σ1 =>
            rw [e3] at q2
            intro ρ4 H4 σ4 x4 rh4 hs4
            refine ⟨ρ4, σ1, A2, hs4, rh4, ?_⟩
            dsimp only at q2
            have x14 := (x2.trans x3).trans x4
            cases e4 : f σ1 A2 with
            | nx σ5 A5 =>
              rw [e4] at q2
              exact fun ρ6 H6 σ6 x6 rh6 hs6 => ⟨ρ6, σ5, A5, x14.trans x6, hs6, rh6, PostS.ext q2 ((x3.trans x4).trans x6)⟩
            | ct σ5 A5 =>
              rw [e4] at q2
              exact fun ρ6 H6 σ6 x6 rh6 hs6 => ⟨ρ6, σ5, A5, x14.trans x6, hs6, rh6, PostS.ext q2 ((x3.trans x4).trans x6)⟩
            | bk σ5 A5 =>
              rw [e4] at q2
              exact fun ρ6 H6 σ6 x6 rh6 hs6 => q2 ρ6 H6 σ6 ((x3.trans x4).trans x6) rh6 hs6
            | rt v5 A5 =>
              rw [e4] at q2
              exact fun ρ6 H6 v6 x6 rh6 r6 => q2 ρ6 H6 v6 ((x3.trans x4).trans x6) rh6 r6
            | er σ5 c5 r5 A5 =>
              rw [e4] at q2
              exact fun ρ6 H6 σ6 d6 x6 rh6 hs6 r6 => q2 ρ6 H6 σ6 d6 ((x3.trans x4).trans x6) rh6 hs6 r6
            | bad => rw [e4] at q2; exact q2.elim
end
end Ev
end
section
/-! Ev, ninth part: comprehensions, dict displays, fields, instances, own methods, defs. -/
namespace Ev
open PySem PySem.Spec L2
set_option autoImplicit false
abbrev W0 : WX := fun _ _ _ _ => False
section
variable {E : En} {X : Cx} {W : WX} {k : Nat} {ρ : List Addr} {H : Hp}
theorem Ctx.blk (c : Ctx E k X W) (s : Shared) (H : Hp) (scope : Scope) (cenv : Env) (fp : List Addr) : Ctx E k (X.blk s H scope cenv fp) W0 :=
  ⟨c.hK, c.calm, c.room, takes0, PassesOwn.never⟩
def wipeA : ASt → List Nat → ASt
  | σ, [] => σ
  | σ, v :: vs => (wipeA σ vs).set v none
theorem RS_wipe {σa : ASt} {σ : St} (h : RS E ρ H σa σ) : ∀ vs : List Nat, RS E ρ H (wipeA σa vs) (wipe σ vs)
  | [] => h
  | v :: vs => by
    have ih := RS_wipe h vs
    refine ⟨by show ((wipeA σa vs).set v none).length = ((wipe σ vs).set v none).length; rw [List.length_set, List.length_set]; exact ih.len, fun j y e => ?_⟩
    have e : ((wipeA σa vs).set v none)[j]? = some (some y) := e
    show ∃ u, ((wipe σ vs).set v none)[j]? = some (some u) ∧ _
    by_cases hj : j = v
    · subst hj
      by_cases hlt : j < (wipeA σa vs).length
      · rw [List.getElem?_set_self hlt] at e; cases e
      · rw [List.getElem?_eq_none (by rw [List.length_set]; omega)] at e; cases e
    · rw [List.getElem?_set_ne (Ne.symm hj)] at e
      obtain ⟨u, e2, q⟩ := ih.at_ j y e
      exact ⟨u, by rw [List.getElem?_set_ne (Ne.symm hj)]; exact e2, q⟩
/-- a target of a comprehension: it stores its own names alone -/
def rdGw (E : En) (vs : List Nat) (g : GDen) : TG := fun v σ H Q => ∃ ρ σa A x, RS E ρ H σa σ ∧ RH E ρ H A ∧ RV E ρ H x v ∧ match g x σa A with
  | some σa' => ∀ ρ' H' σ', Ext ρ H ρ' H' → RH E ρ' H' A → RS E ρ' H' σa' σ' → wipe σ' vs = wipe σ vs → Q σ' H'
  | none => False
abbrev SGw (E : En) (vs : List Nat) (X : Cx) (tg : Expr) (g : GDen) : Prop := PG X tg (rdGw E vs g)
theorem wipe_set {i : Nat} : ∀ {vs : List Nat} {σ : St} {v : V}, i ∈ vs → wipe (σ.set i (some v)) vs = wipe σ vs
  | [], _, _, h => by cases h
  | a :: vs, σ, v, h => by
    show (wipe (σ.set i (some v)) vs).set a none = (wipe σ vs).set a none
    by_cases ha : i ∈ vs
    · rw [wipe_set ha]
    · have e : i = a := by
        rcases List.mem_cons.mp h with e | e
        · exact e
        · exact absurd e ha
      subst e
      -- wiping others commutes with the store
      have key : ∀ {vs : List Nat} {σ : St}, i ∉ vs → wipe (σ.set i (some v)) vs = (wipe σ vs).set i (some v) := by
        intro vs
        induction vs with
        | nil => intro σ _; rfl
        | cons b vs ih =>
          intro σ hb
          show (wipe (σ.set i (some v)) vs).set b none = ((wipe σ vs).set b none).set i (some v)
          rw [ih fun z => hb (List.mem_cons_of_mem _ z)]
          rw [List.set_comm _ _ (fun e => hb (by rw [e]; exact List.mem_cons_self))]
      rw [key ha, List.set_set]
theorem sgw_name {i : Nat} {x : Str} {pos : Pos} {vs : List Nat} (hv : i ∈ vs) (hN : X.N.Nodup) (hi : X.N[i]? = some x) (hx : Loc X.env.scope x) (hf : X.fn x = true ∨ X.env.scope.names.lookup x = some .local) : SGw E vs X (.Name x pos) (gNm i) := by
  refine PG.imp (pg_name hN hi hx hf) fun v σ H Q ⟨ρ, σa, A, z, hs, hh, hz, q⟩ => ?_
  exact q ρ H _ (Ext.refl _ _) hh (hs.set i hz) (wipe_set hv)
def rdGsw (E : En) (vs : List Nat) (g : GsDen) : TGs := fun us σ H Q => ∃ ρ σa A xs, RS E ρ H σa σ ∧ RH E ρ H A ∧ RVs E ρ H xs us ∧ match g xs σa A with
  | some σa' => ∀ ρ' H' σ', Ext ρ H ρ' H' → RH E ρ' H' A → RS E ρ' H' σa' σ' → wipe σ' vs = wipe σ vs → Q σ' H'
  | none => False
abbrev SGsw (E : En) (vs : List Nat) (X : Cx) (tg : List Expr) (g : GsDen) : Prop := PGs X tg (rdGsw E vs g)
theorem sgsw_nil {vs : List Nat} : SGsw E vs X [] gsNil := by
  refine PGs.imp pgs_nil fun v σ H Q ⟨ρ, σa, A, z, hs, hh, hz, q⟩ => ?_
  cases z with
  | nil => cases hz; exact ⟨rfl, q ρ H _ (Ext.refl _ _) hh hs rfl⟩
  | cons a b => exact q.elim
theorem sgsw_cons {vs : List Nat} {e : Expr} {es : List Expr} {g : GDen} {gs : GsDen} (h1 : SGw E vs X e g) (h2 : SGsw E vs X es gs) (hs : (assignEach (e :: es) X.env).map (·.2) = assign e X.env :: (assignEach es X.env).map (·.2)) : SGsw E vs X (e :: es) (gsCons g gs) := by
  refine PGs.imp (pgs_cons h1 h2 hs) fun v σ H Q ⟨ρ, σa, A, z, hs, hh, hz, q⟩ => ?_
  cases z with
  | nil => exact q.elim
  | cons a b =>
    obtain ⟨y, ys, rfl, r1, r2⟩ := hz
    refine ⟨y, ys, rfl, ρ, σa, A, a, hs, hh, r1, ?_⟩
    unfold gsCons at q
    dsimp only at q
    cases e1 : g a σa A with
    | none => rw [e1] at q; exact q.elim
    | some σ1 =>
      rw [e1] at q
      dsimp only [Option.bind] at q
      intro ρ' H' σ' x rh rs w1
      refine ⟨ρ', σ1, A, b, rs, rh, r2.ext x, ?_⟩
      cases e2 : gs b σ1 A with
      | none => rw [e2] at q; exact q.elim
      | some σ2 =>
        rw [e2] at q
        exact fun ρ2 H2 σ2' x2 rh2 rs2 w2 => q ρ2 H2 σ2' (x.trans x2) rh2 rs2 (w2.trans w1)
theorem sgw_tup {vs : List Nat} {es : List Expr} {k2 : Nat} {gs : GsDen} {n : Nat} {pos : Pos} (hc : X.calm = true) (h : SGsw E vs X es gs)
    (hn : (assignEach es X.env).length = n) (hst : (assignEach es X.env).findIdx? (·.1) = none) : SGw E vs X (.Tuple es k2 pos) (gTp n gs) := by
  refine PG.imp (pg_tup hc h hn hst) fun v σ H Q ⟨ρ, σa, A, z, hs, hh, hz, q⟩ => ?_
  unfold gTp at q
  cases z with
  | tup xs =>
    obtain ⟨a, ys, rfl, st, r⟩ := hz
    dsimp only at q
    by_cases hl : xs.length = n
    · rw [if_pos hl] at q
      exact ⟨a, ys, rfl, .inl (.inl st), by rw [r.length]; exact hl, ρ, σa, A, xs, hs, hh, r, q⟩
    · rw [if_neg hl] at q
      exact q.elim
  | _ => exact q.elim
/-- tests of a clause -/
def dYes : Den Bool := fun _ A => .ok true A
abbrev STs (E : En) (X : Cx) (W : WX) (ifs : List Expr) (f : Den Bool) : Prop := PTs X ifs (rd E relB f W)
theorem PTs.imp {X : Cx} {e : List Expr} {t t' : TT} (h : PTs X e t) (k : ∀ σ H Q, t' σ H Q → t σ H Q) : PTs X e t' := ⟨fun pins s σ H Q I q => h.run pins s σ H Q I (k σ H Q q)⟩
theorem sts_nil : STs E X W [] dYes := PTs.imp pts_nil fun σ H Q ⟨ρ, σa, A, hs, hh, q⟩ => q ρ H true (Ext.refl _ _) hh rfl
theorem sts_one {c : Expr} {f : Den Bool} (h : STt E X W c f) : STs E X W [c] f := pts_one h
def compL (src : Src) (g : GDen) (t : Den Bool) (e : Den AV) (d : Nat) (σ : ASt) : Nat → Nat → AHp → Res AV
  | 0, _, _ => .bad
  | n + 1, i, A => match src i A with
    | none => .bad
    | some none => .ok (.ref d) A
    | some (some x) => match g x σ A with
      | none => .bad
      | some σ1 => match t σ1 A with
        | .ok true A1 => (match e σ1 A1 with
          | .ok v A2 => (match A2[d]? with
            | some (.lst acc false) => if acc.length < sizeLine then compL src g t e d σ n (i + 1) (A2.set d (.lst (acc ++ [v]) false)) else .bad
            | _ => .bad)
          | _ => .bad)
        | .ok false A1 => compL src g t e d σ n (i + 1) A1
        | _ => .bad
def dLc (it : IDen) (g : GDen) (t : Den Bool) (e : Den AV) (vs : List Nat) : Den AV := fun σ A => (it σ A).bind fun sn A1 => compL sn.1 g t e A1.length (wipeA σ vs) sn.2 0 (A1 ++ [.lst [] false])
theorem lc_rd {it : IDen} {g : GDen} {t : Den Bool} {e : Den AV} {vs : List Nat} {σ : St} {H : Hp} {Q : VK} (h : rd E (RV E) (dLc it g t e vs) W σ H Q) :
    tLc (rdI E it W) (rdGw E vs g) (rd E relB t W0) (rd E (RV E) e W0) vs σ H Q := by
  obtain ⟨ρ, σa, A, hs, hh, q⟩ := h
  unfold dLc at q
  refine ⟨ρ, σa, A, hs, hh, ?_⟩
  cases e1 : it σa A with
  | err c i A2 => rw [e1] at q; exact q
  | bad => rw [e1] at q; exact q
  | ok sn A1 =>
    obtain ⟨src, n⟩ := sn
    rw [e1] at q
    have q : Post E (RV E) (compL src g t e A1.length (wipeA σa vs) n 0 (A1 ++ [.lst [] false])) ρ H Q (fun c d H' => W c d σ H') := q
    intro ρ1 H1 J x1 rh1 jok D hD
    obtain ⟨z1, z2, z3⟩ := newLst rh1 hD (show RVs E ρ1 H1 [] [] from rfl)
    have hd : (ρ1 ++ [D])[A1.length]? = some D := by
      obtain ⟨a, ea, e5⟩ := z3
      cases e5
      exact ea
    refine ⟨fun i m H2 => ∃ ρ2 A2, Ext (ρ1 ++ [D]) (upd H1 D (.lst [])) ρ2 H2 ∧ RH E ρ2 H2 A2 ∧ Post E (RV E) (compL src g t e A1.length (wipeA σa vs) m i A2) ρ2 H2 Q (fun c d H' => W c d σ H'), ⟨n, _, _, Ext.refl _ _, z1, q.ext (x1.trans z2)⟩, ?_⟩
    rintro i m H2 ⟨ρ2, A2, x2, rh2, q2⟩
    have xa := z2.trans x2
    have hd2 : ρ2[A1.length]? = some D := x2.pre _ _ hd
    cases m with
    | zero => exact q2.elim
    | succ m =>
      unfold compL at q2
      obtain ⟨j1, j2⟩ := jok ρ2 A2 H2 i xa rh2
      cases e2 : src i A2 with
      | none => rw [e2] at q2; exact q2.elim
      | some o => cases o with
        | none =>
          rw [e2] at q2
          exact .inl ⟨j1 e2, q2 ρ2 H2 _ (Ext.refl _ _) rh2 ⟨D, hd2, rfl⟩⟩
        | some v =>
          rw [e2] at q2
          dsimp only at q2
          obtain ⟨go, yl⟩ := j2 v e2
          refine .inr ⟨go, fun H' => ∃ ρ3 A3, Ext (ρ1 ++ [D]) (upd H1 D (.lst [])) ρ3 H' ∧ RH E ρ3 H' A3 ∧ Post E (RV E) (compL src g t e A1.length (wipeA σa vs) m (i + 1) A3) ρ3 H' Q (fun c d H' => W c d σ H'), fun H' z => ⟨m, Nat.lt_succ_self m, z⟩, fun v' H3 hy => ?_⟩
          obtain ⟨rh3, x3, rv⟩ := yl v' H3 hy
          have xs3 : RS E ρ2 H3 (wipeA σa vs) (wipe σ vs) := (RS_wipe hs vs).ext ((x1.trans xa).trans x3)
          refine ⟨ρ2, wipeA σa vs, A2, v, xs3, rh3, rv, ?_⟩
          cases e3 : g v (wipeA σa vs) A2 with
          | none => rw [e3] at q2; exact q2.elim
          | some σ1 =>
            rw [e3] at q2
            intro ρ4 H4 σ4 x4 rh4 hs4 w4
            have ww : wipe σ4 vs = wipe σ vs := w4.trans (wipe_wipe σ vs)
            refine ⟨ww, ρ4, σ1, A2, hs4, rh4, ?_⟩
            dsimp only at q2
            have x24 := x3.trans x4
            cases e4 : t σ1 A2 with
            | err _ _ _ => rw [e4] at q2; exact q2.elim
            | bad => rw [e4] at q2; exact q2.elim
            | ok b A5 =>
              rw [e4] at q2
              intro ρ5 H5 b' x5 rh5 hb
              have hb : b' = b := hb
              subst hb
              cases b' with
              | false =>
                exact ⟨ρ5, A5, x2.trans (x24.trans x5), rh5, q2.ext (x24.trans x5)⟩
              | true =>
                dsimp only at q2
                refine ⟨ρ5, σ1, A5, hs4.ext x5, rh5, ?_⟩
                cases e6 : e σ1 A5 with
                | err _ _ _ => rw [e6] at q2; exact q2.elim
                | bad => rw [e6] at q2; exact q2.elim
                | ok w A6 =>
                  rw [e6] at q2
                  intro ρ6 H6 w' x6 rh6 rw'
                  dsimp only at q2
                  have hd6 : ρ6[A1.length]? = some D := ((x2.trans x24).trans (x5.trans x6)).pre _ _ hd
                  cases e7 : A6[A1.length]? with
                  | none => rw [e7] at q2; exact q2.elim
                  | some o => cases o with
                    | lst acc ro => cases ro with
                      | true => rw [e7] at q2; exact q2.elim
                      | false =>
                        rw [e7] at q2
                        dsimp only at q2
                        by_cases hz : acc.length < sizeLine
                        · rw [if_pos hz] at q2
                          obtain ⟨p0, ys, p1, r2, _, w0⟩ := rh6.lst e7
                          rw [hd6] at p1
                          cases p1
                          obtain ⟨y1, y2⟩ := setLst rh6 e7 hd6 (r2.append (show RVs E ρ6 H6 [w] [w'] from ⟨w', [], rfl, rw', rfl⟩))
                          exact ⟨ys, w0 rfl, by rw [r2.length]; exact hz, ρ6, _, ((x2.trans x24).trans (x5.trans x6)).trans y2, y1, q2.ext ((x24.trans (x5.trans x6)).trans y2)⟩
                        · rw [if_neg hz] at q2; exact q2.elim
                    | dict _ _ => rw [e7] at q2; exact q2.elim
                    | ins _ _ => rw [e7] at q2; exact q2.elim
where
  wipe_wipe (σ : St) (vs : List Nat) : wipe (wipe σ vs) vs = wipe σ vs := by
    have key : ∀ (us : List Nat) (τ : St), (∀ u ∈ us, ∀ j, j = u → j < τ.length → τ[j]? = some none) → wipe τ us = τ := by
      intro us
      induction us with
      | nil => intro τ _; rfl
      | cons b us ih =>
        intro τ h
        show (wipe τ us).set b none = τ
        rw [ih τ fun u hu => h u (List.mem_cons_of_mem _ hu)]
        apply List.ext_getElem?
        intro j
        by_cases hj : j = b
        · subst hj
          by_cases hl : j < τ.length
          · rw [List.getElem?_set_self hl, h j List.mem_cons_self j rfl hl]
          · rw [List.getElem?_eq_none (by rw [List.length_set]; omega), List.getElem?_eq_none (by omega)]
        · rw [List.getElem?_set_ne (Ne.symm hj)]
    refine key vs _ fun u hu j ej hl => ?_
    subst ej
    have gone : ∀ (us : List Nat) (τ : St), j ∈ us → j < (wipe τ us).length → (wipe τ us)[j]? = some none := by
      intro us
      induction us with
      | nil => intro τ h; cases h
      | cons b us ih =>
        intro τ h hl
        show ((wipe τ us).set b none)[j]? = some none
        have hl' : j < (wipe τ us).length := by
          have : ((wipe τ us).set b none).length = (wipe τ us).length := List.length_set ..
          have hl2 : j < ((wipe τ us).set b none).length := hl
          omega
        by_cases hj : j = b
        · subst hj
          rw [List.getElem?_set_self hl']
        · rw [List.getElem?_set_ne (Ne.symm hj)]
          rcases List.mem_cons.mp h with z | z
          · exact absurd z hj
          · exact ih τ z hl'
    exact gone vs σ hu hl
theorem se_lc {it : IDen} {g : GDen} {t : Den Bool} {f : Den AV} {elt tg iter : Expr} {ifs : List Expr} {scope : Scope} {own : List (Str × Nat)} {pos : Pos} (c : Ctx E k X W) (hN : X.N.Nodup) (hi : SI E X W tg iter it) (ok : BlkOk X.N X.env.scope scope own)
    (hg : ∀ (s : Shared) (H : Hp) (C : Addr) (cl : List (Str × Addr)) (fp : List Addr), Ctx E k (X.blk s H scope (compEnvC scope cl C X.env) fp) W0 → SGw E (own.map (·.2)) (X.blk s H scope (compEnvC scope cl C X.env) fp) tg g)
    (ht : ∀ (s : Shared) (H : Hp) (C : Addr) (cl : List (Str × Addr)) (fp : List Addr), Ctx E k (X.blk s H scope (compEnvC scope cl C X.env) fp) W0 → STs E (X.blk s H scope (compEnvC scope cl C X.env) fp) W0 ifs t)
    (he : ∀ (s : Shared) (H : Hp) (C : Addr) (cl : List (Str × Addr)) (fp : List Addr), Ctx E k (X.blk s H scope (compEnvC scope cl C X.env) fp) W0 → SE E (X.blk s H scope (compEnvC scope cl C X.env) fp) W0 elt f) (hs : ∀ x, foldedSetIterable iter X.env x = pure x) :
    SE E X W (.ListComp elt [⟨tg, iter, ifs, 0⟩] scope pos) (dLc it g t f (own.map (·.2))) :=
  PE.imp (pe_lc c.calm hN hi ok (fun s H C cl fp => hg s H C cl fp (c.blk s H _ _ fp)) (fun s H C cl fp => ht s H C cl fp (c.blk s H _ _ fp)) (fun s H C cl fp => he s H C cl fp (c.blk s H _ _ fp)) hs) fun _ _ _ h => lc_rd h
/-- name = [..] on one line -/
theorem ss_setLc {it : IDen} {g : GDen} {t : Den Bool} {f : Den AV} {i : Nat} {y : Str} {py : Pos} {elt tg iter : Expr} {ifs : List Expr} {scope : Scope} {own : List (Str × Nat)} {pos spos : Pos} (c : Ctx E k X W) (hN : X.N.Nodup) (hy : X.N[i]? = some y) (hyl : X.env.scope.names.lookup y = some .local)
    (hsw : swapsWith (.ListComp elt [⟨tg, iter, ifs, 0⟩] scope pos) (some (.Name y py)) spos.line X.env = pure true) (hi : SI E X W tg iter it) (ok : BlkOk X.N X.env.scope scope own)
    (hg : ∀ (s : Shared) (H : Hp) (C : Addr) (cl : List (Str × Addr)) (fp : List Addr), Ctx E k (X.blk s H scope (compEnvC scope cl C X.env) fp) W0 → SGw E (own.map (·.2)) (X.blk s H scope (compEnvC scope cl C X.env) fp) tg g)
    (ht : ∀ (s : Shared) (H : Hp) (C : Addr) (cl : List (Str × Addr)) (fp : List Addr), Ctx E k (X.blk s H scope (compEnvC scope cl C X.env) fp) W0 → STs E (X.blk s H scope (compEnvC scope cl C X.env) fp) W0 ifs t)
    (he : ∀ (s : Shared) (H : Hp) (C : Addr) (cl : List (Str × Addr)) (fp : List Addr), Ctx E k (X.blk s H scope (compEnvC scope cl C X.env) fp) W0 → SE E (X.blk s H scope (compEnvC scope cl C X.env) fp) W0 elt f) (hs : ∀ x, foldedSetIterable iter X.env x = pure x) :
    SS E X W (.Assign [.Name y py] (.ListComp elt [⟨tg, iter, ifs, 0⟩] scope pos) spos) (sAsg (dLc it g t f (own.map (·.2))) (gNm i)) := by
  refine PS.imp (ps_setLc c.calm hN hy hyl hsw hi ok (fun s H C cl fp => hg s H C cl fp (c.blk s H _ _ fp)) (fun s H C cl fp => ht s H C cl fp (c.blk s H _ _ fp)) (fun s H C cl fp => he s H C cl fp (c.blk s H _ _ fp)) hs) fun D σ H h => ?_
  have h2 : rd E (RV E) (dLc it g t f (own.map (·.2))) W σ H fun x H1 => gName i x σ H1 D.nx :=
    rdS_step h fun x' H1 ρ σa A x hs hh hx q => q ρ H1 _ (Ext.refl _ _) hh (hs.set i hx)
  exact lc_rd h2
/-! ### a dict written -/
def dPairs : List (Den AV × Den AV) → Den (List (AV × AV))
  | [] => fun _ A => .ok [] A
  | (a, b) :: r => fun σ A => (a σ A).bind fun x A1 => (b σ A1).bind fun y A2 => (dPairs r σ A2).bind fun ps A3 => .ok ((x, y) :: ps) A3
def RPs (E : En) (ρ : List Addr) (H : Hp) : List (AV × AV) → List (V × V) → Prop
  | [], l => l = []
  | (a, b) :: r, l => ∃ x y s, l = (x, y) :: s ∧ RV E ρ H a x ∧ RV E ρ H b y ∧ RPs E ρ H r s
/-- the pairs' rules, one behind the other -/
structure SP2 (E : En) (X : Cx) (W : WX) (pos : Pos) (keys : List (Option Expr)) (values : List Expr) (fs : List (Den AV × Den AV)) : Prop where
  pps : PPs X pos keys values (fs.map fun p => (rd E (RV E) p.1 W, rd E (RV E) p.2 W))
theorem sp_nil {pos : Pos} : SP2 E X W pos [] [] [] := ⟨pps_nil⟩
theorem sp_cons {pos : Pos} {a b : Expr} {ks : List (Option Expr)} {vs : List Expr} {fa fb : Den AV} {fs : List (Den AV × Den AV)} (ha : SE E X W a fa) (hb : SE E X W b fb) (hr : SP2 E X W pos ks vs fs) : SP2 E X W pos (some a :: ks) (b :: vs) ((fa, fb) :: fs) := ⟨pps_cons ha hb hr.pps⟩
theorem RPs.ext {ρ' : List Addr} {H' : Hp} (x : Ext ρ H ρ' H') : ∀ {l : List (AV × AV)} {m : List (V × V)}, RPs E ρ H l m → RPs E ρ' H' l m
  | [], _, h => h
  | (a, b) :: r, _, h => by
    obtain ⟨y, z, s, rfl, h1, h2, h3⟩ := h
    exact ⟨y, z, s, rfl, h1.ext x, h2.ext x, RPs.ext x h3⟩
theorem pairs_rd : ∀ {fs : List (Den AV × Den AV)} {σ : St} {H : Hp} {ρ : List Addr} {σa : ASt} {A : AHp} {Q : List (V × V) → Hp → Prop} (_ : RS E ρ H σa σ) (_ : RH E ρ H A)
    (_ : Post E (RPs E) (dPairs fs σa A) ρ H Q fun c d H' => W c d σ H'), tPairs (fs.map fun p => (rd E (RV E) p.1 W, rd E (RV E) p.2 W)) σ H Q
  | [], σ, H, ρ, σa, A, Q, hs, hh, q => q ρ H [] (Ext.refl _ _) hh rfl
  | (fa, fb) :: fs, σ, H, ρ, σa, A, Q, hs, hh, q => by
    unfold dPairs at q
    refine ⟨ρ, σa, A, hs, hh, ?_⟩
    show Post E (RV E) (fa σa A) ρ H (fun x H1 => rd E (RV E) fb W σ H1 fun y H2 => tPairs (fs.map fun p => (rd E (RV E) p.1 W, rd E (RV E) p.2 W)) σ H2 fun ps H3 => Q ((x, y) :: ps) H3) fun c d H' => W c d σ H'
    cases e1 : fa σa A with
    | err c i A2 => rw [e1] at q; exact q
    | bad => rw [e1] at q; exact q
    | ok x A1 =>
      rw [e1] at q
      intro ρ1 H1 x' x1 rh1 rx
      refine ⟨ρ1, σa, A1, hs.ext x1, rh1, ?_⟩
      show Post E (RV E) (fb σa A1) ρ1 H1 (fun y H2 => tPairs (fs.map fun p => (rd E (RV E) p.1 W, rd E (RV E) p.2 W)) σ H2 fun ps H3 => Q ((x', y) :: ps) H3) fun c d H' => W c d σ H'
      have q : Post E (RPs E) ((fb σa A1).bind fun y A2 => (dPairs fs σa A2).bind fun ps A3 => .ok ((x, y) :: ps) A3) ρ H Q (fun c d H' => W c d σ H') := q
      cases e2 : fb σa A1 with
      | err c i A2 => rw [e2] at q; exact fun ρ' H' d x => q ρ' H' d (x1.trans x)
      | bad => rw [e2] at q; exact q
      | ok y A2 =>
        rw [e2] at q
        intro ρ2 H2 y' x2 rh2 ry
        refine pairs_rd ((hs.ext x1).ext x2) rh2 ?_
        have q : Post E (RPs E) ((dPairs fs σa A2).bind fun ps A3 => .ok ((x, y) :: ps) A3) ρ H Q (fun c d H' => W c d σ H') := q
        cases e3 : dPairs fs σa A2 with
        | err c i A3 => rw [e3] at q; exact fun ρ' H' d x => q ρ' H' d ((x1.trans x2).trans x)
        | bad => rw [e3] at q; exact q
        | ok ps A3 =>
          rw [e3] at q
          exact fun ρ3 H3 l x3 rh3 r3 => q ρ3 H3 _ ((x1.trans x2).trans x3) rh3 ⟨x', y', l, rfl, (rx.ext x2).ext x3, ry.ext x3, r3⟩
def keyPairs : List (AV × AV) → Option (List (Key × AV))
  | [] => some []
  | (a, b) :: r => match keyOf1 a, keyPairs r with
    | some k, some l => some ((k, b) :: l)
    | _, _ => none
def mergeA (kvs : List (AK × AV)) (more : List (Key × AV)) : List (AK × AV) := more.foldl (fun acc p => putA acc (.k p.1) p.2) kvs
def dDict (fs : List (Den AV × Den AV)) : Den AV := fun σ A => (dPairs fs σ (A ++ [.dict [] false])).bind fun ps A1 => match keyPairs ps with
  | some l => (match A1[A.length]? with
    | some (.dict [] false) => if l.length ≤ 15 then .ok (.ref A.length) (A1.set A.length (.dict (mergeA [] l) false)) else .bad
    | _ => .bad)
  | none => .bad
theorem keyPairs_ok : ∀ {ps : List (AV × AV)} {l : List (Key × AV)} {m : List (V × V)}, keyPairs ps = some l → RPs E ρ H ps m → ∃ kvs : List (Key × V), m = kvs.map (fun kv => (kV kv.1, kv.2)) ∧ kvs.length = l.length ∧ ∀ (a : List (AK × AV)) (b : List (Key × V)), RK E ρ H a b → RK E ρ H (mergeA a l) (mergeK b kvs)
  | [], l, m, e, r => by cases r; cases e; exact ⟨[], rfl, rfl, fun a b h => h⟩
  | (a, b) :: ps, l, m, e, r => by
    obtain ⟨x, y, s, rfl, h1, h2, h3⟩ := r
    unfold keyPairs at e
    cases e1 : keyOf1 a with
    | none => rw [e1] at e; cases e
    | some k1 => cases e2 : keyPairs ps with
      | none => rw [e1, e2] at e; cases e
      | some l' =>
        rw [e1, e2] at e
        cases e
        obtain ⟨kvs, rfl, hl, hm⟩ := keyPairs_ok e2 h3
        refine ⟨(k1, y) :: kvs, by rw [key1_ok e1 h1, List.map_cons], by rw [List.length_cons, List.length_cons, hl], fun a b h => ?_⟩
        exact hm _ _ (rk_putA h k1 h2)
theorem newDict {A : AHp} (h : RH E ρ H A) {p : Addr} (hp : H p = none) : RH E (ρ ++ [p]) (upd H p (.dK [])) (A ++ [.dict [] false]) ∧ Ext ρ H (ρ ++ [p]) (upd H p (.dK [])) ∧ (ρ ++ [p])[A.length]? = some p :=
  h.alloc (H' := upd H p (.dK [])) (o := .dict [] false) (fun a u e => by rw [upd_ne (ne_of_none e hp)]; exact e) hp fun x => RO_nil_k upd_same
def tDisp2 (trs : List (TE × TE)) : TE := fun σ H Q => ∀ p, H p = none → tPairs trs σ (upd H p (.dK [])) fun ps H2 => (H2 p = some (.dK []) ∨ H2 p = some (.dT [])) ∧ ∃ kvs : List (Key × V), ps = kvs.map (fun kv => (kV kv.1, kv.2)) ∧ kvs.length ≤ 15 ∧ Q (.ref p) (upd H2 p (.dK (mergeK [] kvs)))
theorem pe_disp2 {pos : Pos} {keys : List (Option Expr)} {values : List Expr} {trs : List (TE × TE)} (h : PPs X pos keys values trs) (hall : keys.all (·.isSome) = true) (hl : keys.length = values.length) (h0 : keys ≠ [])
    (h15 : keys.length ≤ 15) : PE X (.Dict keys values pos) (tDisp2 trs) := by
  refine ⟨fun pins s σ H Q I q => ?_⟩
  have hn := I.hok.fresh (Nat.le_refl s.heap.objs.size)
  have I1 := I.laid (a := s.heap.objs.size) (o := .dK []) (h' := s.heap.push { cls := .type "dict", data := .dict #[] }) (t' := s.toks) (fun _ _ q => Heap.get?_push_of_some _ q) (Nat.le_refl _) (dk_empty s.heap I.big)
  refine wpAny_Dict_walk (knd := mixKind X.prog X.w) hall hl h0 h15 (thn (h.run pins _ σ _ _ I1 (q _ hn)) fun ws s2 ⟨ps, H2, I2, rel, e, kvs, ep, lk, q2⟩ => ?_)
  subst ep
  have conv : ∃ H3, L2.Inv X pins σ H3 s2 ∧ H3 s.heap.objs.size = some (.dK []) ∧ upd H3 s.heap.objs.size (.dK (mergeK [] kvs)) = upd H2 s.heap.objs.size (.dK (mergeK [] kvs)) := by
    rcases e with e | e
    · exact ⟨H2, I2, e, rfl⟩
    · exact ⟨_, Inv.dt_dk I2 e, upd_same, upd_upd⟩
  obtain ⟨H3, I3, e3, eu⟩ := conv
  obtain ⟨rs, c, rk⟩ := carries_of (P := X.prog) (w := X.w) rel
  obtain ⟨z, hd, vs0, r0, dd⟩ := dk_of I3.hok e3
  cases r0
  refine ⟨rs, c, dd, fun h' dd' hs => ⟨.ref s.heap.objs.size, _, ?_, rfl, q2⟩⟩
  have hz : (mergeK [] kvs).length ≤ sizeLine := by
    have h1 := length_mergeK kvs []
    rw [List.length_nil] at h1
    rw [sizeLine_eq]; omega
  have he : ∃ q, h'.get? s.heap.objs.size = some q := let ⟨q, _, _, hq, _⟩ := dd'; ⟨q, hq⟩
  rw [← eu]
  exact d_write I3 (by rw [e3]; exact True.intro) hs he (dk_new hz hd (rk.merge .nil) dd')
theorem se_dict {fs : List (Den AV × Den AV)} {keys : List (Option Expr)} {values : List Expr} {pos : Pos} (h : SP2 E X W pos keys values fs) (hall : keys.all (·.isSome) = true) (hl : keys.length = values.length) (h0 : keys ≠ []) (h15 : keys.length ≤ 15) :
    SE E X W (.Dict keys values pos) (dDict fs) := by
  refine PE.imp (pe_disp2 h.pps hall hl h0 h15) fun σ H Q ⟨ρ, σa, A, hs, hh, q⟩ p hp => ?_
  obtain ⟨z1, z2, z3⟩ := newDict hh hp
  refine pairs_rd (hs.ext z2) z1 ?_
  unfold dDict at q
  cases e1 : dPairs fs σa (A ++ [.dict [] false]) with
  | err c i A2 => rw [e1] at q; exact fun ρ' H' d x => q ρ' H' d (z2.trans x)
  | bad => rw [e1] at q; exact q
  | ok ps A1 =>
    rw [e1] at q
    intro ρ1 H1 l x1 rh1 r1
    have q : Post E (RV E) (match keyPairs ps with
      | some l => (match A1[A.length]? with
        | some (.dict [] false) => if l.length ≤ 15 then .ok (.ref A.length) (A1.set A.length (.dict (mergeA [] l) false)) else .bad
        | _ => .bad)
      | none => .bad) ρ H Q (fun c d H' => W c d σ H') := q
    cases e2 : keyPairs ps with
    | none => rw [e2] at q; exact q.elim
    | some l1 =>
      rw [e2] at q
      dsimp only at q
      obtain ⟨kvs, rfl, hl1, hm⟩ := keyPairs_ok e2 r1
      have ep := x1.pre _ _ z3
      cases e3 : A1[A.length]? with
      | none => rw [e3] at q; exact q.elim
      | some o => cases o with
        | lst _ _ => rw [e3] at q; exact q.elim
        | ins _ _ => rw [e3] at q; exact q.elim
        | dict kv0 lk => cases lk with
          | true => cases kv0 <;> (rw [e3] at q; exact q.elim)
          | false => cases kv0 with
            | cons _ _ => rw [e3] at q; exact q.elim
            | nil =>
              rw [e3] at q
              dsimp only at q
              by_cases hz : l1.length ≤ 15
              · rw [if_pos hz] at q
                have ho := rh1.at_ _ _ _ e3 ep
                have hp1 : H1 p = some (.dK []) ∨ H1 p = some (.dT []) := by
                  rcases ho with ⟨kv', r2, w⟩ | ⟨kv', r2, w⟩
                  · cases r2; exact .inl w
                  · cases r2; exact .inr w
                obtain ⟨y1, y2⟩ := rh1.write (H' := upd H1 p (.dK (mergeK [] kvs))) (o' := .dict (mergeA [] l1) false) e3 ep (fun b hb => upd_ne hb) fun x => .inl ⟨_, RK.ext x (hm [] [] rfl), upd_same⟩
                exact ⟨hp1, kvs, rfl, by rw [hl1]; exact hz, q _ _ _ ((z2.trans x1).trans y2) y1 ⟨p, y2.pre _ _ ep, rfl⟩⟩
              · rw [if_neg hz] at q; exact q.elim
end
end Ev
end
section
/-! Ev, tenth part: a def keeps its promise; the table of defs. -/
namespace Ev
open PySem PySem.Spec L2
set_option autoImplicit false
/-- a body run on its arguments -/
def runBody (f : SDen) (m : Nat) (as : List AV) (A : AHp) : Res AV := match f (as.map some ++ List.replicate (m - as.length) none) A with
  | .nx _ A' => .ok .non A'
  | .rt v A' => .ok v A'
  | .er _ c r A' => .err c r A'
  | _ => .bad
section
variable {E : En} {P : Program} {w : World} {K : PySem.W.Frag} {mg : Str → Option Value} {base : Heap} {k : Nat}
theorem rs_start {ρ : List Addr} {H : Hp} {as : List AV} {vs : List V} (N : List Str) (r : RVs E ρ H as vs) : RS E ρ H (as.map some ++ List.replicate (N.length - as.length) none) (L2.start N vs) := by
  have hl := r.length
  refine ⟨by unfold L2.start; simp [hl], fun i x e => ?_⟩
  unfold L2.start
  by_cases hi : i < as.length
  · rw [List.getElem?_append_left (by simpa using hi), List.getElem?_map] at e
    cases e1 : as[i]? with
    | none => rw [e1] at e; cases e
    | some y =>
      rw [e1] at e
      cases e
      obtain ⟨v, e2, q⟩ := r.get e1
      refine ⟨v, ?_, q⟩
      rw [List.getElem?_append_left (by simp; omega), List.getElem?_map, e2]
      rfl
  · rw [List.getElem?_append_right (by simpa using hi), List.getElem?_replicate] at e
    split at e <;> cases e
/-- the context of a def -/
abbrev cxD (P : Program) (w : World) (K : PySem.W.Frag) (mg : Str → Option Value) (base : Heap) (N : List Str) (qual : Str) (scope : Scope) (f : Addr) (cdv : Value) (A : Around) (outer : List Env) (s : Shared) (H : Hp) (Ex : XK) : Cx := cxOf (L2.CX P w) P w K mg base N qual scope f cdv A outer s H Ex
abbrev WD (Ex : XK) : WX := fun cls d _ H => Ex cls d H
theorem ctx_def (hK : K = E.K) {N : List Str} {qual : Str} {scope : Scope} {f : Addr} {cdv : Value} {A : Around} {outer : List Env} {s : Shared} {H : Hp} {Ex : XK} (hr : Room k (A.deeper (PyProof.Rows.envOfC qual scope s.heap.objs.size f cdv))) :
    Ctx E k (cxD P w K mg base N qual scope f cdv A outer s H Ex) (WD Ex) :=
  ⟨hK, rfl, hr, takes_of rfl rfl rfl rfl, passes_of rfl⟩
theorem fn_at {x qual : Str} {params : Arguments} {body : List Stmt} {scope : Scope} {f : Addr} {fd : FuncData} {N ps : List Str} {g : SDen} (hK : K = E.K) (F : FunD K x qual params body scope [] [] f fd) (S : FnScope N ps scope)
    (h : ∀ (cdv : Value) (A : Around) (outer : List Env) (s : Shared) (H : Hp) (Ex : XK), Ctx E k (cxD P w K mg base N qual scope f cdv A outer s H Ex) (WD Ex) → SSs E (cxD P w K mg base N qual scope f cdv A outer s H Ex) (WD Ex) body g) :
    FnOk P w K mg base (L2.CX P w) (k + 1) f fd ps (spOf E ps.length (runBody g N.length)) := by
  refine F.ok S (fun vs H Q Ex h => ?_) (fun cdv A outer s H vs Q Ex hr hsp => ?_)
  · obtain ⟨ρ, A, as, _, r, e, _⟩ := h
    rw [r.length, e]
  · obtain ⟨ρ, A1, as, hh, r, e, q⟩ := hsp
    refine ⟨_, h cdv A outer s H Ex (ctx_def hK hr), ρ, _, A1, rs_start N r, hh, ?_⟩
    unfold runBody at q
    cases e1 : g (as.map some ++ List.replicate (N.length - as.length) none) A1 with
    | nx σ A2 => rw [e1] at q; exact fun ρ' H' σ' x rh _ => q ρ' H' _ x rh rfl
    | rt v A2 => rw [e1] at q; exact fun ρ' H' v' x rh rv => q ρ' H' v' x rh rv
    | er σ c i A2 => rw [e1] at q; exact fun ρ' H' σ' d x rh _ rx => q ρ' H' d x rh rx
    | bk σ A2 => rw [e1] at q; exact q.elim
    | ct σ A2 => rw [e1] at q; exact q.elim
    | bad => rw [e1] at q; exact q.elim
theorem cal_of {x qual : Str} {params : Arguments} {body : List Stmt} {scope : Scope} {f : Addr} {fd : FuncData} {N ps : List Str} {g : SDen} (hK : K = E.K) (F : FunD K x qual params body scope [] [] f fd) (S : FnScope N ps scope) (b : Binds K fd ps [])
    (h : ∀ (cdv : Value) (A : Around) (outer : List Env) (s : Shared) (H : Hp) (Ex : XK), Ctx E k (cxD P w K mg base N qual scope f cdv A outer s H Ex) (WD Ex) → SSs E (cxD P w K mg base N qual scope f cdv A outer s H Ex) (WD Ex) body g) :
    Cal E P w K mg base (k + 1) f ps.length (runBody g N.length) := ⟨F.kp, fd, ps, fn_at hK F S h, b⟩
/-- no exception is out: the promise without one -/
theorem fn_cx0 {f : Addr} {fd : FuncData} {ps : List Str} {sp : Sp} (F : FnOk P w K mg base (L2.CX P w) k f fd ps sp) : FnOk P w K mg base (fun _ _ _ _ _ _ => False) k f fd ps (fun vs H Q _ => sp vs H Q fun _ _ _ => False) := by
  refine ⟨fun vs H Q _ h => F.len vs H Q _ h, fun A outer s H args us vs Q Ex hr h0 hb hv hs => ?_⟩
  refine codeAny_mono (F.run A outer s H args us vs Q _ hr h0 hb hv hs) fun r s' q => ?_
  cases r with
  | ok o => cases o with
    | ret u => exact q
    | _ => exact q.elim
  | error e =>
    obtain ⟨a, B, H', cls, d, _, _, _, _, _, _, _, z⟩ := q
    exact z
/-- at no depth nothing is promised -/
theorem cal_bad {x qual : Str} {params : Arguments} {body : List Stmt} {scope : Scope} {f : Addr} {fd : FuncData} {ps : List Str} (F : FunD K x qual params body scope [] [] f fd) (b : Binds K fd ps []) : Cal E P w K mg base 0 f ps.length (fun _ _ => .bad) := by
  refine ⟨F.kp, fd, ps, ⟨fun vs H Q Ex h => ?_, fun A outer s H args us vs Q Ex _ _ _ _ hsp => ?_⟩, b⟩
  · obtain ⟨_, _, _, _, _, _, q⟩ := h
    exact q.elim
  · obtain ⟨_, _, _, _, _, _, q⟩ := hsp
    exact q.elim
end
/-- the script, as the law's argument -/
def scriptV (ns : List Int) : AV := .kl (ns.map .int)
theorem rvs_ints {E : En} {ρ : List Addr} {H : Hp} : ∀ ns : List Int, RVs E ρ H (ns.map AV.int) (ns.map V.int)
  | [] => rfl
  | n :: ns => ⟨_, _, rfl, rfl, rvs_ints ns⟩
/-- what the law's own end asks: from the run's answer -/
theorem sp_law {E : En} {g : List AV → M AV} {K : PySem.W.Frag} {H : Hp} {a : Addr} {ns : List Int} (hK : K = E.K) (hO : Only H) (ho : SqL K H a (ns.map V.int)) (h : ∃ A', g [scriptV ns] [] = .ok (.bl true) A') :
    spOf E 1 g [.ref a] H (fun v _ => v = .bl true) fun _ _ _ => False := by
  obtain ⟨A', e⟩ := h
  refine ⟨[], [], [scriptV ns], ⟨rfl, by simp, fun n o b e1 e2 => by cases e1⟩, ⟨_, [], rfl, ⟨a, _, rfl, hK ▸ SqF.of hO ho, rvs_ints ns⟩, rfl⟩, rfl, ?_⟩
  rw [e]
  intro ρ' H' b _ _ r
  exact r
/-- an empty program's names (no classes) -/
def en0 (K : PySem.W.Frag) : En where
  K := K
  cad := fun _ => 0
  fnm := fun i => ⟨#[i]⟩
  finj := fun i j h => by simpa using h
  efl := fun _ => ⟨#[]⟩
  isC := fun _ => false
  isF := fun _ => false
  clsOk := fun _ h => by cases h
  noat := fun _ _ h => by cases h
  mnm := fun i => ⟨#[i]⟩
  mnf := fun _ _ h => by cases h
  sub := fun _ _ => none
  subB := fun _ _ => none
  bsub := fun _ _ => none
  subOk := fun _ _ _ h => by cases h
  subBOk := fun _ _ _ h => by cases h
  bsubOk := fun _ _ _ h => by cases h
  insF := fun _ h => by cases h
/-- what the defs' walks ask of the module -/
structure TT (E : En) (P : Program) (w : World) (K : PySem.W.Frag) (mg : Str → Option Value) (base : Heap) (k : Nat) (r : Nat → List AV → M AV) (nms : List (String × Nat)) (fids : List Nat) (fad : Nat → Addr) (frees : List String) (iL : List (String × Int)) (sL : List (String × String)) : Prop where
  fn : ∀ i, i < nms.length → Cal E P w K mg base k (fad i) ((nms.map (·.2)).getD i 0) (r (fids.getD i 0))
  gf : ∀ i (x : String), (nms.map (·.1))[i]? = some x → x ≠ "" → mg (x : Str) = some (.ref (fad i))
  fr : ∀ x : String, frees.contains x = true → mg (x : Str) = none
  ci : ∀ (x : String) (i : Int), iL.contains (x, i) = true → ∃ t, mg (x : Str) = some (.int i t)
  cs : ∀ (x z : String), sL.contains (x, z) = true → ∃ t, mg (x : Str) = some (.str (z : Str) t)
end Ev
end
section
/-! Ev, eleventh part: reckoning with denotations. -/
namespace Ev
open PySem PySem.Spec L2
set_option autoImplicit false
abbrev Rt := Nat → List AV → M AV
/-- a text by its code points -/
def S (l : List Nat) : Str := ⟨l.toArray⟩
@[simp] theorem S_inj {a b : List Nat} : S a = S b ↔ a = b := by
  unfold S
  simp
@[simp] theorem S_list (a : List Nat) : (S a).cps.toList = a := (rfl)
@[simp] theorem S_size (a : List Nat) : (S a).cps.size = a.length := (rfl)
@[simp] theorem S_length (a : List Nat) : (S a).length = a.length := (rfl)
@[simp] theorem S_append (a b : List Nat) : S a ++ S b = S (a ++ b) := by
  show Str.append (S a) (S b) = _
  unfold Str.append S
  simp
theorem S_eta (x : Str) : x = S x.cps.toList := rfl
theorem S_ext (x : Str) : ∃ l, x = S l := ⟨_, rfl⟩
@[simp] theorem S_one (c : Nat) : (⟨#[c]⟩ : Str) = S [c] := (rfl)
section
variable {E : En} {X : Cx} {W : WX}
theorem se_strL {x y : Str} {j : Nat} {pos : Pos} (h : x = y) : SE E X W (.Constant (.str x) j pos) (dC (.str y)) := h ▸ se_str
theorem se_gstrL {x z y : Str} {pos : Pos} (hg : Gl X x) (hm : ∃ t, X.mg x = some (.str z t)) (hd : (x == ("__debug__" : Str)) = false) (h : z = y) : SE E X W (.Name x pos) (dC (.str y)) := h ▸ se_gstr hg hm hd
end
/-! ### the heap -/
def gt (A : AHp) (n : Nat) : Option AO := A[n]?
theorem gt_def (A : AHp) (n : Nat) : A[n]? = gt A n := rfl
theorem gt_lt {A : AHp} {n : Nat} {o : AO} (h : gt A n = some o) : n < A.length := (List.getElem?_eq_some_iff.mp h).1
@[simp] theorem gt_set {A : AHp} {n : Nat} {o : AO} (h : n < A.length) : gt (A.set n o) n = some o := List.getElem?_set_self h
@[simp] theorem gt_set_ne {A : AHp} {n m : Nat} {o : AO} (h : n ≠ m) : gt (A.set n o) m = gt A m := List.getElem?_set_ne h
@[simp] theorem gt_app {A B : AHp} {n : Nat} (h : n < A.length) : gt (A ++ B) n = gt A n := List.getElem?_append_left h
@[simp] theorem gt_new {A : AHp} {o : AO} : gt (A ++ [o]) A.length = some o := by unfold gt; simp
@[simp] theorem gt_app0 {A B : AHp} : gt (A ++ B) A.length = gt B 0 := by unfold gt; rw [List.getElem?_append_right (Nat.le_refl _), Nat.sub_self]
@[simp] theorem gt_appk {A B : AHp} {k : Nat} : gt (A ++ B) (A.length + k) = gt B k := by unfold gt; rw [List.getElem?_append_right (Nat.le_add_right _ _), Nat.add_sub_cancel_left]
@[simp] theorem gt_c0 {o : AO} {B : AHp} : gt (o :: B) 0 = some o := (rfl)
@[simp] theorem gt_cS {o : AO} {B : AHp} {k : Nat} : gt (o :: B) (k + 1) = gt B k := (rfl)
@[simp] theorem set_app0 {A B : AHp} {o : AO} : (A ++ B).set A.length o = A ++ B.set 0 o := by rw [List.set_append_right _ _ (Nat.le_refl _), Nat.sub_self]
@[simp] theorem set_appk {A B : AHp} {k : Nat} {o : AO} : (A ++ B).set (A.length + k) o = A ++ B.set k o := by rw [List.set_append_right _ _ (Nat.le_add_right _ _), Nat.add_sub_cancel_left]
theorem set_app {A B : AHp} {n : Nat} {o : AO} (h : n < A.length) : (A ++ B).set n o = A.set n o ++ B := by
  rw [List.set_append_left _ _ h]
/-- all but what stands in l is as it was -/
def Fr (l : List Nat) (A A' : AHp) : Prop := A.length ≤ A'.length ∧ ∀ m, m < A.length → m ∉ l → gt A' m = gt A m
theorem Fr.refl (l : List Nat) (A : AHp) : Fr l A A := ⟨Nat.le_refl _, fun _ _ _ => rfl⟩
theorem Fr.trans {l : List Nat} {A B C : AHp} (h : Fr l A B) (k : Fr l B C) : Fr l A C := ⟨Nat.le_trans h.1 k.1, fun m hm hl => (k.2 m (Nat.lt_of_lt_of_le hm h.1) hl).trans (h.2 m hm hl)⟩
theorem Fr.mono {l l' : List Nat} {A B : AHp} (h : Fr l A B) (k : ∀ x ∈ l, x ∈ l') : Fr l' A B := ⟨h.1, fun m hm hl => h.2 m hm fun z => hl (k m z)⟩
theorem Fr.app (l : List Nat) (A B : AHp) : Fr l A (A ++ B) := ⟨by simp, fun m hm _ => gt_app hm⟩
theorem Fr.set {l : List Nat} {A : AHp} {n : Nat} {o : AO} (h : n ∈ l) : Fr l A (A.set n o) := ⟨by simp, fun m _ hl => gt_set_ne fun z => hl (z ▸ h)⟩
/-- what was made behind A is no concern of who knew A -/
theorem Fr.new {l : List Nat} {A B : AHp} {n : Nat} (h : Fr (n :: l) A B) (hn : A.length ≤ n) : Fr l A B := ⟨h.1, fun m hm hl => h.2 m hm fun z => by
  rcases List.mem_cons.mp z with e | e
  · omega
  · exact hl e⟩
theorem Fr.setNew {l : List Nat} {A B : AHp} {n : Nat} {o : AO} (h : Fr l A B) (hn : A.length ≤ n) : Fr l A (B.set n o) := ⟨by rw [List.length_set]; exact h.1, fun m hm hl => (gt_set_ne (by omega)).trans (h.2 m hm hl)⟩
theorem Fr.len {l : List Nat} {A B : AHp} (h : Fr l A B) : A.length ≤ B.length := h.1
theorem Fr.gt {l : List Nat} {A B : AHp} {n : Nat} {o : AO} (h : Fr l A B) (e : gt A n = some o) (hn : n ∉ l) : gt B n = some o := (h.2 n (gt_lt e) hn).trans e
/-! ### results -/
def fin (r : SR) : Res AV := match r with
  | .nx _ A' => .ok .non A'
  | .rt v A' => .ok v A'
  | .er _ c r A' => .err c r A'
  | _ => .bad
theorem runBody_eq (f : SDen) (m : Nat) (as : List AV) (A : AHp) : runBody f m as A = fin (f (as.map some ++ List.replicate (m - as.length) none) A) := by
  unfold runBody fin
  rfl
@[simp] theorem fin_nx (σ : ASt) (A : AHp) : fin (.nx σ A) = .ok .non A := (rfl)
@[simp] theorem fin_rt (v : AV) (A : AHp) : fin (.rt v A) = .ok v A := (rfl)
@[simp] theorem fin_er (σ : ASt) (c : Nat) (r : Option Int) (A : AHp) : fin (.er σ c r A) = .err c r A := (rfl)
@[simp] theorem fin_ite {c : Prop} [Decidable c] (x y : SR) : fin (if c then x else y) = if c then fin x else fin y := by split <;> rfl
@[simp] theorem bind_ite {α β : Type} {c : Prop} [Decidable c] (x y : Res α) (g : α → AHp → Res β) : (if c then x else y).bind g = if c then x.bind g else y.bind g := by split <;> rfl
@[simp] theorem sbind_ite {c : Prop} [Decidable c] (x y : SR) (g : SDen) : (if c then x else y).bind g = if c then x.bind g else y.bind g := by split <;> rfl
@[simp] theorem toS_ite {α : Type} {σ : ASt} {c : Prop} [Decidable c] (x y : Res α) (g : α → AHp → SR) : (if c then x else y).toS σ g = if c then x.toS σ g else y.toS σ g := by split <;> rfl
@[simp] theorem ofO_ite {c : Prop} [Decidable c] (x y : Option (AV × AHp)) : ofO (if c then x else y) = if c then ofO x else ofO y := by split <;> rfl
def obK {α : Type} (o : Option Bool) (y n : Res α) : Res α := match o with
  | some true => y
  | some false => n
  | none => .bad
@[simp] theorem obK_some {α : Type} (b : Bool) (y n : Res α) : obK (some b) y n = if b = true then y else n := by cases b <;> rfl
def chK (v : AV) (y n : Res AV) : Res AV := match v with
  | .bl true => y
  | .bl false => n
  | _ => .bad
@[simp] theorem chK_bl (b : Bool) (y n : Res AV) : chK (.bl b) y n = if b = true then y else n := by cases b <;> rfl
section
variable (σ : ASt) (A : AHp)
@[simp] theorem e_var0 (v : AV) : dVar 0 (some v :: σ) A = .ok v A := (rfl)
@[simp] theorem e_varS (i : Nat) (x : Option AV) : dVar (i + 1) (x :: σ) A = dVar i σ A := (rfl)
@[simp] theorem e_C (v : AV) : dC v σ A = .ok v A := (rfl)
@[simp] theorem e_bin (p : Op2) (fa fb : Den AV) : dBin p fa fb σ A = (fa σ A).bind fun x A1 => (fb σ A1).bind fun y A2 => ofO (p x y A2) := (rfl)
@[simp] theorem e_TB (f : Den AV) : dTB f σ A = (f σ A).bind asB := (rfl)
@[simp] theorem e_asB (b : Bool) : asB (.bl b) A = .ok b A := (rfl)
@[simp] theorem e_Tru (f : Den AV) : dTru f σ A = (f σ A).bind asT := (rfl)
@[simp] theorem e_asT_bl (b : Bool) : asT (.bl b) A = .ok b A := (rfl)
@[simp] theorem e_NotT (f : Den Bool) : dNotT f σ A = (f σ A).bind fun b A1 => .ok (!b) A1 := (rfl)
@[simp] theorem e_AndT (fa fb : Den Bool) : dAndT fa fb σ A = (fa σ A).bind fun b A1 => if b = true then fb σ A1 else .ok false A1 := (rfl)
@[simp] theorem e_OrT (fa fb : Den Bool) : dOrT fa fb σ A = (fa σ A).bind fun b A1 => if b = true then .ok true A1 else fb σ A1 := (rfl)
@[simp] theorem e_If (ft : Den Bool) (fa fb : Den AV) : dIf ft fa fb σ A = (ft σ A).bind fun b A1 => if b = true then fa σ A1 else fb σ A1 := (rfl)
@[simp] theorem e_nil : dNil σ A = .ok [] A := (rfl)
@[simp] theorem e_cons (f : Den AV) (g : Den (List AV)) : dCons f g σ A = (f σ A).bind fun x A1 => (g σ A1).bind fun xs A2 => .ok (x :: xs) A2 := (rfl)
@[simp] theorem e_Tup (g : Den (List AV)) : dTup g σ A = (g σ A).bind fun xs A1 => if xs.length ≤ 16777216 then .ok (.tup xs) A1 else .bad := (rfl)
@[simp] theorem e_Lst (g : Den (List AV)) : dLst g σ A = (g σ A).bind fun xs A1 => if xs.length ≤ 16777216 then .ok (.ref A1.length) (A1 ++ [.lst xs false]) else .bad := (rfl)
@[simp] theorem e_CB (p : OpN) (g : Den (List AV)) : dCB p g σ A = (g σ A).bind fun xs A1 => ofO (p xs A1) := (rfl)
@[simp] theorem e_Call (n : Nat) (g : List AV → M AV) (fa : Den (List AV)) : dCall n g fa σ A = (fa σ A).bind fun vs A1 => if vs.length = n then g vs A1 else .bad := (rfl)
@[simp] theorem e_BM (T : String) (p : OpM) (fo : Den AV) (fa : Den (List AV)) : dBM T p fo fa σ A = (fo σ A).bind fun o A1 => if tagA T o A1 = true then (fa σ A1).bind fun as A2 => ofO (p o as A2) else .bad := (rfl)
@[simp] theorem e_sNil : sNil σ A = .nx σ A := (rfl)
@[simp] theorem e_sSeq (f g : SDen) : sSeq f g σ A = (f σ A).bind g := (rfl)
@[simp] theorem e_sExpr (f : Den AV) : sExpr f σ A = (f σ A).toS σ fun _ A1 => .nx σ A1 := (rfl)
@[simp] theorem e_sRet (f : Den AV) : sRet f σ A = (f σ A).toS σ fun v A1 => .rt v A1 := (rfl)
@[simp] theorem e_sRetN : sRetN σ A = .rt .non A := (rfl)
@[simp] theorem e_sIf (t : Den Bool) (f g : SDen) : sIf t f g σ A = (t σ A).toS σ fun b A1 => if b = true then f σ A1 else g σ A1 := (rfl)
@[simp] theorem e_gNm (i : Nat) (v : AV) : gNm i v σ A = some (σ.set i (some v)) := (rfl)
@[simp] theorem e_sAsg (f : Den AV) (g : GDen) : sAsg f g σ A = (f σ A).toS σ fun v A1 => match g v σ A1 with
  | some σ' => .nx σ' A1
  | none => .bad := (rfl)
@[simp] theorem e_sFor (it : IDen) (g : GDen) (body : SDen) : sFor it g body σ A = (it σ A).toS σ fun sn A1 => loopS sn.1 g body sn.2 0 σ A1 := (rfl)
@[simp] theorem e_iAny (f : Den AV) : iAny f σ A = (f σ A).bind fun v A1 => iterOf v A1 := (rfl)
/-! ### operators -/
variable (i j : Int) (a b : List Nat)
@[simp] theorem e_addI : pAdd (.int i) (.int j) A = some (.int (i + j), A) := (rfl)
@[simp] theorem e_addS (h : a.length + b.length ≤ 16777216) : pAdd (.str (S a)) (.str (S b)) A = some (.str (S (a ++ b)), A) := by
  unfold pAdd
  simp
  exact h
@[simp] theorem e_subI : pSub (.int i) (.int j) A = some (.int (i - j), A) := (rfl)
@[simp] theorem e_mulI (h : (-18446744073709551616 < i ∧ i < 18446744073709551616) ∨ (-18446744073709551616 < j ∧ j < 18446744073709551616)) : pMul (.int i) (.int j) A = some (.int (i * j), A) := by
  show (if small64 i || small64 j then some (AV.int (i * j), A) else none) = _
  rw [if_pos]
  rw [Bool.or_eq_true, small64_iff, small64_iff]
  exact h
@[simp] theorem e_eqI : eqB (.int i) (.int j) A = some (decide (i = j)) := (rfl)
@[simp] theorem e_eqS : eqB (.str (S a)) (.str (S b)) A = some (decide (a = b)) := by
  show some (decide (S a = S b)) = _
  simp
@[simp] theorem e_eqB (x y : Bool) : eqB (.bl x) (.bl y) A = some (decide (x = y)) := (rfl)
@[simp] theorem e_pEq (x y : AV) : pEq x y A = (eqB x y A).map fun r => (.bl r, A) := (rfl)
@[simp] theorem e_pNe (x y : AV) : pNe x y A = (eqB x y A).map fun r => (.bl (!r), A) := (rfl)
@[simp] theorem e_ltI : pLt (.int i) (.int j) A = some (.bl (decide (i < j)), A) := (rfl)
@[simp] theorem e_leI : pLe (.int i) (.int j) A = some (.bl (decide (i ≤ j)), A) := (rfl)
@[simp] theorem e_gtI : pGt (.int i) (.int j) A = some (.bl (decide (j < i)), A) := (rfl)
@[simp] theorem e_geI : pGe (.int i) (.int j) A = some (.bl (decide (j ≤ i)), A) := (rfl)
variable (n : Nat) (x : Str)
@[simp] theorem e_modI (h : 0 < j) : pMod (.int i) (.int j) A = some (.int (i % j), A) := by
  rw [← Int.fmod_eq_emod_of_nonneg _ (Int.le_of_lt h)]
  exact if_neg (by omega)
@[simp] theorem e_fdivI (h : 0 < j ∧ j < 1073741824) : pFdiv (.int i) (.int j) A = some (.int (i / j), A) := by
  rw [← Int.fdiv_eq_ediv_of_nonneg _ (Int.le_of_lt h.1)]
  exact if_pos (by omega)
@[simp] theorem e_powI (h : 0 ≤ j ∧ j ≤ 1000000 ∧ i.natAbs < 2 ^ 64) : pPow (.int i) (.int j) A = some (.int (i ^ j.toNat), A) := if_pos h
@[simp] theorem e_ixTup (xs : List AV) : pIx (.tup xs) (.int i) A = (atI xs i).map fun v => (v, A) := (rfl)
@[simp] theorem e_ixKtup (xs : List AV) : pIx (.ktup xs) (.int i) A = (atI xs i).map fun v => (v, A) := (rfl)
@[simp] theorem e_ixKl (xs : List AV) : pIx (.kl xs) (.int i) A = (atI xs i).map fun v => (v, A) := (rfl)
@[simp] theorem e_ixS (h : a.length ≤ 16777216) : pIx (.str (S a)) (.int i) A = (atI a i).map fun c => (.str (S [c]), A) := if_pos h
@[simp] theorem e_ixRI : pIx (.ref n) (.int i) A = (match gt A n with
    | some (.lst xs _) => (atI xs i).map fun v => (v, A)
    | some (.dict kvs _) => (getK kvs (.k (.inl i))).map fun v => (v, A)
    | _ => none) := by
  show (match gt A n with
    | some (.lst xs _) => (atI xs i).map fun v => (v, A)
    | some (.dict kvs _) => (match (some (AK.k (.inl i)) : Option AK) with
      | some y => (getK kvs y).map fun v => (v, A)
      | none => none)
    | _ => none) = _
  cases gt A n with
  | none => rfl
  | some o => cases o <;> rfl
@[simp] theorem e_ixRS : pIx (.ref n) (.str x) A = (match gt A n with
    | some (.dict kvs _) => (getK kvs (.k (.inr x))).map fun v => (v, A)
    | _ => none) := by
  show (match gt A n with
    | some (.lst xs _) => none
    | some (.dict kvs _) => (match (some (AK.k (.inr x)) : Option AK) with
      | some y => (getK kvs y).map fun v => (v, A)
      | none => none)
    | _ => none) = _
  cases gt A n with
  | none => rfl
  | some o => cases o <;> rfl
@[simp] theorem e_lenS (h : a.length ≤ 16777216) : fLen [.str (S a)] A = some (.int a.length, A) := if_pos h
@[simp] theorem e_lenT (xs : List AV) : fLen [.tup xs] A = some (.int xs.length, A) := (rfl)
@[simp] theorem e_lenK (xs : List AV) : fLen [.kl xs] A = some (.int xs.length, A) := (rfl)
@[simp] theorem e_lenR : fLen [.ref n] A = (match gt A n with
    | some (.lst xs _) => some (.int xs.length, A)
    | some (.dict kvs false) => some (.int kvs.length, A)
    | _ => none) := (rfl)
@[simp] theorem e_intI : fInt [.int i] A = some (.int i, A) := (rfl)
@[simp] theorem e_intB (b : Bool) : fInt [.bl b] A = some (.int (if b = true then 1 else 0), A) := (rfl)
@[simp] theorem e_listK (xs : List AV) : fList [.kl xs] A = some (.ref A.length, A ++ [.lst xs false]) := (rfl)
@[simp] theorem e_listT (xs : List AV) : fList [.tup xs] A = some (.ref A.length, A ++ [.lst xs false]) := (rfl)
@[simp] theorem e_sPut (p : OpP) (fe fo fi : Den AV) : sPut p fe fo fi σ A = (fe σ A).toS σ fun v A1 => (fo σ A1).toS σ fun o A2 => (fi σ A2).toS σ fun i A3 => match p o i v A3 with
  | some A' => .nx σ A'
  | none => .bad := (rfl)
theorem getK_cons (k k' : AK) (v : AV) (l : List (AK × AV)) : getK ((k', v) :: l) k = if k' = k then some v else getK l k := by
  unfold getK
  rw [List.find?_cons]
  by_cases h : k' = k <;> simp [h]
@[simp] theorem e_putRS (z : AV) : pPut (.ref n) (.str x) z A = (match gt A n with
    | some (.dict kvs false) => if kindA kvs (.k (.inr x)) = true ∧ kvs.length < 16777216 then some (A.set n (.dict (putA kvs (.k (.inr x)) z) false)) else none
    | _ => none) := by
  show (match gt A n with
    | some (.dict kvs false) => (match (some (AK.k (.inr x)) : Option AK) with
      | some ky => if kindA kvs ky = true ∧ kvs.length < sizeLine then some (A.set n (.dict (putA kvs ky z) false)) else none
      | none => none)
    | some (.lst xs false) => none
    | _ => none) = _
  cases gt A n with
  | none => rfl
  | some o => cases o with
    | lst xs lk => cases lk <;> rfl
    | dict xs lk => cases lk <;> rfl
    | ins _ _ => rfl
@[simp] theorem kindA_nil (y : AK) : kindA [] y = true := (rfl)
@[simp] theorem kindA_kk (k' : Key) (v : AV) (l : List (AK × AV)) (y : Key) : kindA ((.k k', v) :: l) (.k y) = kindA l (.k y) := by
  unfold kindA
  simp
@[simp] theorem kindA_tt (k' : List Key) (v : AV) (l : List (AK × AV)) (y : List Key) : kindA ((.t k', v) :: l) (.t y) = kindA l (.t y) := by
  unfold kindA
  simp
theorem atI_at {α : Type} {xs : List α} {i : Int} (h0 : 0 ≤ i) (h : i < xs.length) : ∃ x, atI xs i = some x ∧ x ∈ xs := by
  have hl : i.toNat < xs.length := by omega
  refine ⟨xs[i.toNat], ?_, List.getElem_mem hl⟩
  unfold atI ixN
  rw [if_pos h0, if_pos h]
  simp
theorem atI_map {α β : Type} (f : α → β) (xs : List α) (i : Int) : atI (xs.map f) i = (atI xs i).map f := by
  unfold atI
  rw [List.length_map]
  cases ixN xs.length i <;> simp
@[simp] theorem getK_nil (k : AK) : getK [] k = none := (rfl)
def catL (xs ys : List AV) (A : AHp) : Option (AV × AHp) := if xs.length + ys.length ≤ sizeLine then some (.ref A.length, A ++ [.lst (xs ++ ys) false]) else none
@[simp] theorem catL_ok {xs ys : List AV} (h : xs.length + ys.length ≤ 16777216) : catL xs ys A = some (.ref A.length, A ++ [.lst (xs ++ ys) false]) := if_pos h
@[simp] theorem e_addR (m : Nat) : pAdd (.ref n) (.ref m) A = (match gt A n, gt A m with
    | some (.lst xs false), some (.lst ys false) => catL xs ys A
    | _, _ => none) := (rfl)
def repL (xs : List AV) (i : Int) (A : AHp) : Option (AV × AHp) := if -(2 ^ 63) ≤ i ∧ i < 2 ^ 63 ∧ xs.length * i.toNat ≤ sizeLine then some (.ref A.length, A ++ [.lst (List.replicate i.toNat xs).flatten false]) else none
@[simp] theorem repL_ok {xs : List AV} (h : -9223372036854775808 ≤ i ∧ i < 9223372036854775808 ∧ xs.length * i.toNat ≤ 16777216) : repL xs i A = some (.ref A.length, A ++ [.lst (List.replicate i.toNat xs).flatten false]) := if_pos h
@[simp] theorem e_mulR : pMul (.ref n) (.int i) A = (match gt A n with
    | some (.lst xs false) => repL xs i A
    | _ => none) := (rfl)
@[simp] theorem e_listR : fList [.ref n] A = (match gt A n with
  | some (.lst xs _) => some (.ref A.length, A ++ [.lst xs false])
  | some (.dict kvs lk) => if kvs.all (fun p => match p.1 with
      | .k _ => true
      | .t _ => false) then some (.ref A.length, A ++ [.lst (kvs.map fun p => keyV p.1) false]) else none
  | _ => none) := (rfl)
@[simp] theorem lstAt_gt : lstAt A n = (match gt A n with
  | some (.lst xs _) => some xs
  | _ => none) := (rfl)
@[simp] theorem e_allR : fAll [.ref n] A = (match lstAt A n with
    | some xs => (blsOf xs).map fun bs => (.bl (bs.all id), A)
    | none => none) := (rfl)
@[simp] theorem e_anyR : fAny [.ref n] A = (match lstAt A n with
    | some xs => (blsOf xs).map fun bs => (.bl (bs.any id), A)
    | none => none) := (rfl)
@[simp] theorem blsOf_map (bs : List Bool) : blsOf (bs.map AV.bl) = some bs := by
  induction bs with
  | nil => rfl
  | cons b bs ih => rw [List.map_cons]; unfold blsOf; rw [ih]
@[simp] theorem blsOf_fun {α : Type} (f : α → Bool) (l : List α) : blsOf (l.map fun x => AV.bl (f x)) = some (l.map f) := by
  rw [← blsOf_map (l.map f), List.map_map]
  rfl
@[simp] theorem strsOf_fun {α : Type} (f : α → List Nat) (l : List α) : strsOf (l.map fun x => AV.str (S (f x))) = some (l.map fun x => S (f x)) := by
  induction l with
  | nil => rfl
  | cons b bs ih => rw [List.map_cons]; unfold strsOf; rw [ih]; rfl
@[simp] theorem strsOf_map (bs : List (List Nat)) : strsOf (bs.map fun l => AV.str (S l)) = some (bs.map S) := by
  induction bs with
  | nil => rfl
  | cons b bs ih => rw [List.map_cons]; unfold strsOf; rw [ih]; rfl
@[simp] theorem e_AndV (fa fb : Den AV) : dAndV fa fb σ A = (fa σ A).bind fun x A1 => obK (truA x A1) (fb σ A1) (.ok x A1) := (rfl)
@[simp] theorem e_OrV (fa fb : Den AV) : dOrV fa fb σ A = (fa σ A).bind fun x A1 => obK (truA x A1) (.ok x A1) (fb σ A1) := (rfl)
@[simp] theorem e_NotV (fa : Den AV) : dNotV fa σ A = (fa σ A).bind fun x A1 => match truA x A1 with
  | some b => .ok (.bl (!b)) A1
  | none => .bad := (rfl)
@[simp] theorem e_truB (b : Bool) : truA (.bl b) A = some b := (rfl)
@[simp] theorem e_truI : truA (.int i) A = some (decide (i ≠ 0)) := by
  show some (i != 0) = _
  simp [bne]
  rfl
@[simp] theorem e_truN : truA .non A = some false := (rfl)
@[simp] theorem e_truT (xs : List AV) : truA (.tup xs) A = some (!xs.isEmpty) := (rfl)
@[simp] theorem e_truS (h : a.length ≤ 16777216) : truA (.str (S a)) A = some (!a.isEmpty) := by
  unfold truA
  dsimp only
  rw [if_pos (show (S a).length ≤ sizeLine from h)]
  cases a <;> rfl
@[simp] theorem e_truR : truA (.ref n) A = (match gt A n with
    | some (.lst xs _) => some (!xs.isEmpty)
    | _ => none) := (rfl)
@[simp] theorem e_asT (v : AV) : asT v A = (match truA v A with
  | some b => .ok b A
  | none => .bad) := (rfl)
@[simp] theorem e_Chain (p p' : Op2) (fa fb fc : Den AV) : dChain p p' fa fb fc σ A = (fa σ A).bind fun x A1 => (fb σ A1).bind fun y A2 => (ofO (p x y A2)).bind fun z A3 => chK z ((fc σ A3).bind fun w A4 => ofO (p' y w A4)) (.ok (.bl false) A3) := (rfl)
@[simp] theorem e_iR1 (f : Den (List AV)) : iR1 f σ A = (f σ A).bind fun vs A1 => srcOf (rng1 vs) A1 := (rfl)
@[simp] theorem e_iR2 (f : Den (List AV)) : iR2 f σ A = (f σ A).bind fun vs A1 => srcOf (rng2 vs) A1 := (rfl)
@[simp] theorem e_rng1 (h : -4611686018427387904 ≤ i ∧ i < 4611686018427387904) : rng1 [.int i] = some (0, i.toNat) := if_pos (rngOk_iff.mpr h)
@[simp] theorem e_rng2 (h : (-4611686018427387904 ≤ i ∧ i < 4611686018427387904) ∧ (-4611686018427387904 ≤ j ∧ j < 4611686018427387904)) : rng2 [.int i, .int j] = some (i, (j - i).toNat) := if_pos ⟨rngOk_iff.mpr h.1, rngOk_iff.mpr h.2⟩
@[simp] theorem e_srcOf (lo : Int) : srcOf (some (lo, n)) A = .ok (srcR lo n, n + 1) A := (rfl)
@[simp] theorem e_Lc (it : IDen) (g : GDen) (t : Den Bool) (e : Den AV) (vs : List Nat) : dLc it g t e vs σ A = (it σ A).bind fun sn A1 => compL sn.1 g t e A1.length (wipeA σ vs) sn.2 0 (A1 ++ [.lst [] false]) := (rfl)
@[simp] theorem e_wipe0 : wipeA σ [] = σ := (rfl)
@[simp] theorem e_wipe1 (v : Nat) (vs : List Nat) : wipeA σ (v :: vs) = (wipeA σ vs).set v none := (rfl)
@[simp] theorem e_iterT (xs : List AV) : iterOf (.tup xs) A = .ok (srcC xs, xs.length + 1) A := (rfl)
@[simp] theorem e_iterK (xs : List AV) : iterOf (.ktup xs) A = .ok (srcC xs, xs.length + 1) A := (rfl)
@[simp] theorem e_iterS : iterOf (.str (S a)) A = .ok (srcC (a.map fun c => .str (S [c])), a.length + 1) A := (rfl)
@[simp] theorem e_iterR : iterOf (.ref n) A = (match gt A n with
    | some (.lst xs _) => .ok (srcL n, xs.length + 1) A
    | _ => .bad) := (rfl)
@[simp] theorem e_Yes : dYes σ A = .ok true A := (rfl)
def joinA (a : List Nat) (xs : List AV) (A : AHp) : Option (AV × AHp) := match strsOf xs with
  | some ys => if (ys.map (·.length)).sum + ys.length * a.length ≤ 16777216 then some (.str (Txt.join (S a) ys), A) else none
  | none => none
@[simp] theorem e_joinR : mJoin (.str (S a)) [.ref n] A = (match lstAt A n with
    | some xs => joinA a xs A
    | none => none) := (rfl)
@[simp] theorem e_joinT (xs : List AV) : mJoin (.str (S a)) [.tup xs] A = joinA a xs A := (rfl)
@[simp] theorem flat_ones (ls : List Nat) : (ls.map fun c => [c]).flatten = ls := by
  induction ls with
  | nil => rfl
  | cons a l ih => simp [ih]
def lenSum (ls : List (List Nat)) : Nat := (ls.map List.length).sum
@[simp] theorem lenSum_ones (ls : List Nat) : lenSum (ls.map fun c => [c]) = ls.length := by
  induction ls with
  | nil => rfl
  | cons a l ih => simp [lenSum] at ih ⊢; omega
theorem join_S (ls : List (List Nat)) : Str.join (S a) (ls.map S) = S (TL.joinL a ls) := by
  have h := TL.tl_join (S a) (ls.map S)
  have e2 : (ls.map S).map TL.tl = ls := by
    rw [List.map_map]
    exact List.map_id'' (fun _ => rfl) ls
  rw [e2] at h
  exact (S_eta _).trans (congrArg S h)
theorem joinA_ok {ls : List (List Nat)} (h : lenSum ls + ls.length * a.length ≤ 16777216) : joinA a (ls.map fun l => AV.str (S l)) A = some (.str (S (TL.joinL a ls)), A) := by
  unfold joinA
  rw [strsOf_map]
  dsimp only
  rw [if_pos, TL.join_eq, join_S]
  rw [List.map_map, List.length_map]
  exact h
@[simp] theorem joinL_nil (l : List (List Nat)) : TL.joinL [] l = l.flatten := by
  induction l with
  | nil => rfl
  | cons p r ih => cases r with
    | nil => simp [TL.joinL]
    | cons q r => rw [TL.joinL, ih]; simp
@[simp] theorem e_tagS (T : String) (z : Str) : tagA T (.str z) A = decide (T = "str") := (rfl)
@[simp] theorem e_tagR (T : String) : tagA T (.ref n) A = (match gt A n with
    | some (.lst _ _) => decide (T = "list")
    | some (.dict _ _) => decide (T = "dict")
    | _ => false) := (rfl)
@[simp] theorem e_Sl (f : Den AV) (fl fh : DenO) : dSl f fl fh σ A = (f σ A).bind fun v A1 => (fl σ A1).bind fun lo A2 => (fh σ A2).bind fun hi A3 => ofO (pSl v lo hi A3) := (rfl)
@[simp] theorem e_NoPart : dNoPart σ A = .ok none A := (rfl)
@[simp] theorem e_Part (f : Den AV) : dPart f σ A = (f σ A).bind fun v A1 => match v with
  | .int i => .ok (some i) A1
  | _ => .bad := (rfl)
variable (lo hi : Option Int)
@[simp] theorem e_slT (xs : List AV) : pSl (.tup xs) lo hi A = some (.tup (cutA xs lo hi), A) := (rfl)
@[simp] theorem e_slK (xs : List AV) : pSl (.kl xs) lo hi A = some (.ref A.length, A ++ [.lst (cutA xs lo hi) false]) := (rfl)
@[simp] theorem e_slR : pSl (.ref n) lo hi A = (match gt A n with
    | some (.lst xs _) => some (.ref A.length, A ++ [.lst (cutA xs lo hi) false])
    | _ => none) := (rfl)
@[simp] theorem e_slS (h : a.length ≤ 16777216) : pSl (.str (S a)) lo hi A = some (.str (S (cutA a lo hi)), A) := if_pos h
@[simp] theorem cut_to {α : Type} (xs : List α) (h : 0 ≤ i) : cutA xs none (some i) = xs.take i.toNat := by
  unfold cutA HT.sIx
  dsimp only
  rw [if_neg (by omega)]
  simp
@[simp] theorem cut_from {α : Type} (xs : List α) (h : 0 ≤ i) : cutA xs (some i) none = xs.drop i.toNat := by
  unfold cutA HT.sIx
  dsimp only
  rw [if_neg (by omega)]
  rw [List.take_of_length_le (by simp)]
  by_cases h2 : i.toNat ≤ xs.length
  · rw [Nat.min_eq_left h2]
  · rw [Nat.min_eq_right (by omega), List.drop_length, List.drop_of_length_le (by omega)]
@[simp] theorem e_in1 (c : Nat) : pIn (.str (S [c])) (.str (S a)) A = some (.bl (decide (c ∈ a)), A) := (rfl)
@[simp] theorem e_ltS : pLt (.str (S a)) (.str (S b)) A = some (.bl (decide (a < b)), A) := (rfl)
@[simp] theorem e_leS : pLe (.str (S a)) (.str (S b)) A = some (.bl (!decide (b < a)), A) := (rfl)
@[simp] theorem e_isiBl (f1 : Nat → Nat → Option Bool) (f2 : Nat → String → Option Bool) (f3 : String → Nat → Option Bool) (y : Bool) (t : String) : fIsi f1 f2 f3 [.bl y, .ty t] A = (kitBi "bool" t).map fun r => (.bl r, A) := (rfl)
@[simp] theorem kit_bb : kitBi "bool" "bool" = some true := by decide
@[simp] theorem kit_ss : kitBi "str" "str" = some true := by decide
@[simp] theorem kit_tt : kitBi "tuple" "tuple" = some true := by decide
@[simp] theorem kit_nt : kitBi "NoneType" "tuple" = some false := by decide
/-! ### comprehensions, loops -/
theorem comp_run {src : Src} {g : GDen} {t : Den Bool} {e : Den AV} {d : Nat} {τ : ASt} (xs : List AV) (Inv : Nat → List AV → AHp → Prop) (hx : xs.length < 16777216)
    (step : ∀ i acc B, i ≤ xs.length → gt B d = some (.lst acc false) → Inv i acc B → src i B = some xs[i]? ∧ ∀ x, xs[i]? = some x → ∃ σ1 b B1, g x τ B = some σ1 ∧ t σ1 B = .ok b B1 ∧
      if b = true then ∃ v B2, e σ1 B1 = .ok v B2 ∧ gt B2 d = some (.lst acc false) ∧ Inv (i + 1) (acc ++ [v]) (B2.set d (.lst (acc ++ [v]) false)) else gt B1 d = some (.lst acc false) ∧ Inv (i + 1) acc B1)
    {A0 : AHp} (h0 : gt A0 d = some (.lst [] false)) (hi : Inv 0 [] A0) :
    ∃ vs A', compL src g t e d τ (xs.length + 1) 0 A0 = .ok (.ref d) A' ∧ gt A' d = some (.lst vs false) ∧ Inv xs.length vs A' := by
  have main : ∀ m i acc B, i + m = xs.length → acc.length ≤ i → gt B d = some (.lst acc false) → Inv i acc B → ∃ vs A', compL src g t e d τ (m + 1) i B = .ok (.ref d) A' ∧ gt A' d = some (.lst vs false) ∧ Inv xs.length vs A' := by
    intro m
    induction m with
    | zero =>
      intro i acc B hm ha hB hI
      obtain ⟨e1, _⟩ := step i acc B (by omega) hB hI
      have hn : xs[i]? = none := List.getElem?_eq_none (by omega)
      rw [hn] at e1
      refine ⟨acc, B, ?_, hB, by rw [← hm]; exact hI⟩
      unfold compL
      rw [e1]
    | succ m ih =>
      intro i acc B hm ha hB hI
      obtain ⟨e1, st⟩ := step i acc B (by omega) hB hI
      have hlt : i < xs.length := by omega
      have hs : xs[i]? = some xs[i] := List.getElem?_eq_getElem hlt
      rw [hs] at e1
      obtain ⟨σ1, b, B1, eg, et, h⟩ := st _ hs
      unfold compL
      rw [e1]
      dsimp only
      rw [eg]
      dsimp only
      rw [et]
      cases b with
      | true =>
        rw [if_pos rfl] at h
        obtain ⟨v, B2, ev, hd, hI2⟩ := h
        dsimp only
        rw [ev]
        dsimp only
        have hd' : B2[d]? = some (.lst acc false) := hd
        rw [hd']
        dsimp only
        rw [if_pos (show acc.length < sizeLine by show acc.length < 16777216; omega)]
        exact ih (i + 1) _ _ (by omega) (by simp; omega) (gt_set (gt_lt hd)) hI2
      | false =>
        rw [if_neg (by decide)] at h
        exact ih (i + 1) acc B1 (by omega) (by omega) h.1 h.2
  exact main xs.length 0 [] A0 (by omega) (by simp) h0 hi
theorem comp_pure {α : Type} {g : GDen} {t : Den Bool} {e : Den AV} {τ : ASt} {l : List α} {src : Src} (mk f : α → AV) {A : AHp} (hx : l.length < 16777216) (hs : ∀ acc i, src i (A ++ [.lst acc false]) = some (l.map mk)[i]?)
    (h : ∀ acc x, x ∈ l → ∃ σ1, g (mk x) τ (A ++ [.lst acc false]) = some σ1 ∧ t σ1 (A ++ [.lst acc false]) = .ok true (A ++ [.lst acc false]) ∧ e σ1 (A ++ [.lst acc false]) = .ok (f x) (A ++ [.lst acc false])) :
    compL src g t e A.length τ (l.length + 1) 0 (A ++ [.lst [] false]) = .ok (.ref A.length) (A ++ [.lst (l.map f) false]) := by
  obtain ⟨vs, A', e1, e2, e3⟩ := comp_run (src := src) (g := g) (t := t) (e := e) (d := A.length) (τ := τ) (l.map mk) (fun i acc B => B = A ++ [.lst acc false] ∧ acc = (l.take i).map f) (by simpa using hx) (fun i acc B hi hd hI => by
    obtain ⟨rfl, ha⟩ := hI
    refine ⟨hs _ _, fun x hx => ?_⟩
    rw [List.getElem?_map] at hx
    obtain ⟨y, hy, rfl⟩ := Option.map_eq_some_iff.mp hx
    obtain ⟨σ1, q1, q2, q3⟩ := h acc y (List.mem_of_getElem? hy)
    refine ⟨σ1, true, _, q1, q2, ?_⟩
    rw [if_pos rfl]
    refine ⟨_, _, q3, hd, ?_, ?_⟩
    · simp
    · rw [ha, List.take_add_one, hy]
      simp) (A0 := A ++ [.lst [] false]) gt_new ⟨rfl, by simp⟩
  rw [List.length_map] at e1
  rw [e1]
  obtain ⟨rfl, rfl⟩ := e3
  rw [List.length_map, List.take_length]
theorem loop_run {src : Src} {g : GDen} {body : SDen} (xs : List AV) (Inv : Nat → ASt → AHp → Prop) (Post : SR → Prop)
    (step : ∀ i τ B, i ≤ xs.length → Inv i τ B → src i B = some xs[i]? ∧ ∀ x, xs[i]? = some x → ∃ σ1, g x τ B = some σ1 ∧ match body σ1 B with
      | .nx σ2 B2 => Inv (i + 1) σ2 B2
      | .ct σ2 B2 => Inv (i + 1) σ2 B2
      | .bk σ2 B2 => Post (.nx σ2 B2)
      | r => Post r)
    (last : ∀ τ B, Inv xs.length τ B → Post (.nx τ B)) {τ : ASt} {A0 : AHp} (hi : Inv 0 τ A0) : Post (loopS src g body (xs.length + 1) 0 τ A0) := by
  have main : ∀ m i τ B, i + m = xs.length → Inv i τ B → Post (loopS src g body (m + 1) i τ B) := by
    intro m
    induction m with
    | zero =>
      intro i τ B hm hI
      obtain ⟨e1, _⟩ := step i τ B (by omega) hI
      have hn : xs[i]? = none := List.getElem?_eq_none (by omega)
      rw [hn] at e1
      unfold loopS
      rw [e1]
      have e : i = xs.length := by omega
      exact last τ B (e ▸ hI)
    | succ m ih =>
      intro i τ B hm hI
      obtain ⟨e1, st⟩ := step i τ B (by omega) hI
      have hlt : i < xs.length := by omega
      have hs : xs[i]? = some xs[i] := List.getElem?_eq_getElem hlt
      rw [hs] at e1
      obtain ⟨σ1, eg, h⟩ := st _ hs
      unfold loopS
      rw [e1]
      dsimp only
      rw [eg]
      dsimp only
      cases e : body σ1 B with
      | nx σ2 B2 => rw [e] at h; exact ih (i + 1) σ2 B2 (by omega) h
      | ct σ2 B2 => rw [e] at h; exact ih (i + 1) σ2 B2 (by omega) h
      | bk σ2 B2 => rw [e] at h; exact h
      | rt v B2 => rw [e] at h; exact h
      | er σ2 c r B2 => rw [e] at h; exact h
      | bad => rw [e] at h; exact h
  exact main xs.length 0 τ A0 (by omega) hi
theorem src_C (xs : List AV) (B : AHp) (i : Nat) : srcC xs i B = some xs[i]? := rfl
theorem src_L {B : AHp} {n : Nat} {xs : List AV} {ro : Bool} (h : gt B n = some (.lst xs ro)) (i : Nat) : srcL n i B = some xs[i]? := by
  unfold srcL
  rw [gt_def, h]
def rngL (lo : Int) (n : Nat) : List AV := (List.range n).map fun (i : Nat) => AV.int (lo + (i : Int))
@[simp] theorem rngL_length (lo : Int) (n : Nat) : (rngL lo n).length = n := by simp [rngL]
theorem src_R (lo : Int) (n : Nat) (B : AHp) (i : Nat) : srcR lo n i B = some (rngL lo n)[i]? := by
  unfold srcR rngL
  by_cases h : i < n
  · simp [h]
  · simp [h]
theorem rngL_get {lo : Int} {n i : Nat} {x : AV} (h : (rngL lo n)[i]? = some x) : x = .int (lo + i) ∧ i < n := by
  have hl := (List.getElem?_eq_some_iff.mp h).1
  rw [rngL_length] at hl
  have e := (src_R lo n [] i).trans (congrArg some h)
  unfold srcR at e
  rw [if_pos hl] at e
  cases e
  exact ⟨rfl, hl⟩
end
def dictK (n : Nat) (ps : List (AV × AV)) (A1 : AHp) : Res AV := match keyPairs ps with
  | some l => (match gt A1 n with
    | some (.dict [] false) => if l.length ≤ 15 then .ok (.ref n) (A1.set n (.dict (mergeA [] l) false)) else .bad
    | _ => .bad)
  | none => .bad
section
variable (σ : ASt) (A : AHp)
@[simp] theorem e_Dict (fs : List (Den AV × Den AV)) : dDict fs σ A = (dPairs fs σ (A ++ [.dict [] false])).bind fun ps A1 => dictK A.length ps A1 := (rfl)
@[simp] theorem e_dictK (n : Nat) (ps : List (AV × AV)) : dictK n ps A = (match keyPairs ps with
  | some l => (match gt A n with
    | some (.dict [] false) => if l.length ≤ 15 then .ok (.ref n) (A.set n (.dict (mergeA [] l) false)) else .bad
    | _ => .bad)
  | none => .bad) := (rfl)
@[simp] theorem e_dPairs0 : dPairs [] σ A = .ok [] A := (rfl)
@[simp] theorem e_dPairs1 (a b : Den AV) (r : List (Den AV × Den AV)) : dPairs ((a, b) :: r) σ A = (a σ A).bind fun x A1 => (b σ A1).bind fun y A2 => (dPairs r σ A2).bind fun ps A3 => .ok ((x, y) :: ps) A3 := (rfl)
@[simp] theorem keyPairs0 : keyPairs [] = some [] := (rfl)
@[simp] theorem keyPairsS (x : Str) (b : AV) (r : List (AV × AV)) : keyPairs ((.str x, b) :: r) = (keyPairs r).map fun l => (.inr x, b) :: l := by
  rw [keyPairs]
  cases keyPairs r <;> rfl
@[simp] theorem keyPairsI (x : Int) (b : AV) (r : List (AV × AV)) : keyPairs ((.int x, b) :: r) = (keyPairs r).map fun l => (.inl x, b) :: l := by
  rw [keyPairs]
  cases keyPairs r <;> rfl
@[simp] theorem merge0 (kvs : List (AK × AV)) : mergeA kvs [] = kvs := (rfl)
@[simp] theorem merge1 (kvs : List (AK × AV)) (k : Key) (v : AV) (l : List (Key × AV)) : mergeA kvs ((k, v) :: l) = mergeA (putA kvs (.k k) v) l := (rfl)
end
end Ev
end
section
/-! Ev, twelfth part: zip. -/
namespace Ev
open PySem PySem.Spec L2
set_option autoImplicit false
section
variable {E : En} {X : Cx} {W : WX} {k : Nat} {ρ : List Addr} {H : Hp}
/-- two sources side by side -/
def srcZ (s1 s2 : Src) : Src := fun i A => match s1 i A, s2 i A with
  | some (some x), some (some y) => some (some (.tup [x, y]))
  | some none, some _ => some none
  | some _, some none => some none
  | _, _ => none
def zipOf (vs : List AV) (A : AHp) : Res (Src × Nat) := match vs with
  | [.tup xs, .tup ys] => .ok (srcZ (srcC xs) (srcC ys), min xs.length ys.length + 1) A
  | [.ref n, .ref m] => (match A[n]?, A[m]? with
    | some (.lst xs _), some (.lst ys _) => .ok (srcZ (srcL n) (srcL m), min xs.length ys.length + 1) A
    | _, _ => .bad)
  | _ => .bad
def iZp (f : Den (List AV)) : IDen := fun σ A => (f σ A).bind fun vs A1 => zipOf vs A1
theorem srcL_at {A : AHp} {n i : Nat} {r : Option AV} (h : srcL n i A = some r) : ∃ xs ro, A[n]? = some (.lst xs ro) ∧ xs[i]? = r := by
  unfold srcL at h
  split at h
  · rename_i e
    cases h
    exact ⟨_, _, e, rfl⟩
  · cases h
theorem jok_zipL {n m : Nat} {a b : Addr} {ρ0 : List Addr} {H0 : Hp} (K : PySem.W.Frag) (ea : ρ0[n]? = some a) (eb : ρ0[m]? = some b) : JOk E (Itz K a b) (srcZ (srcL n) (srcL m)) ρ0 H0 := by
  intro ρ A H i x hh
  have ea' := x.pre n a ea
  have eb' := x.pre m b eb
  have get : ∀ {n : Nat} {a : Addr} {r : Option AV}, ρ[n]? = some a → srcL n i A = some r → ∃ xs ys, SqL K H a ys ∧ RVs E ρ H xs ys ∧ xs[i]? = r := by
    intro n a r ea h
    obtain ⟨xs, ro, e, er⟩ := srcL_at h
    obtain ⟨p0, ys, p1, r2, w0, _⟩ := hh.lst e
    rw [ea] at p1
    cases p1
    exact ⟨xs, ys, .inl w0, r2, er⟩
  unfold srcZ
  cases e1 : srcL n i A with
  | none => exact ⟨fun z => (nomatch z), fun _ z => (nomatch z)⟩
  | some r1 =>
    cases e2 : srcL m i A with
    | none => cases r1 <;> exact ⟨fun z => (nomatch z), fun _ z => (nomatch z)⟩
    | some r2 =>
      obtain ⟨xs, us, q1, rv1, g1⟩ := get ea' e1
      obtain ⟨ys, ws, q2, rv2, g2⟩ := get eb' e2
      cases r1 with
      | none =>
        refine ⟨fun _ => ⟨us, ws, q1, q2, .inl ?_⟩, fun v z => by cases r2 <;> cases z⟩
        rw [rv1.length]
        exact List.getElem?_eq_none_iff.mp g1
      | some x1 => cases r2 with
        | none =>
          refine ⟨fun _ => ⟨us, ws, q1, q2, .inr ?_⟩, fun v z => by cases z⟩
          rw [rv2.length]
          exact List.getElem?_eq_none_iff.mp g2
        | some y1 =>
          refine ⟨fun z => (nomatch z), fun v z => ?_⟩
          cases z
          obtain ⟨u, eu, ru⟩ := rv1.get g1
          obtain ⟨w, ew, rw'⟩ := rv2.get g2
          refine ⟨⟨us, ws, u, w, q1, q2, eu, ew⟩, ?_⟩
          rintro x' H' ⟨T, x2, y2, rfl, hT, rfl, f1, f2⟩
          have z1 := f1 us q1
          have z2 := f2 ws q2
          rw [eu] at z1
          rw [ew] at z2
          cases z1; cases z2
          exact newTup hh hT ⟨_, _, rfl, ru, _, _, rfl, rw', rfl⟩
theorem jok_zipT {xs ys : List AV} {us ws : List V} {a b : Addr} {ρ0 : List Addr} {H0 : Hp} (K : PySem.W.Frag) (s1 : H0 a = some (.tup us)) (s2 : H0 b = some (.tup ws)) (r1 : RVs E ρ0 H0 xs us) (r2 : RVs E ρ0 H0 ys ws) : JOk E (RZ.ItzT K a b) (srcZ (srcC xs) (srcC ys)) ρ0 H0 := by
  intro ρ A H i x hh
  have t1 := x.fx a _ s1 rfl
  have t2 := x.fx b _ s2 rfl
  have rv1 := r1.ext x
  have rv2 := r2.ext x
  have q1 : SqT K H a us := .inl (.inl t1)
  have q2 : SqT K H b ws := .inl (.inl t2)
  unfold srcZ srcC
  cases g1 : xs[i]? with
  | none =>
    refine ⟨fun _ => ⟨us, ws, q1, q2, .inl ?_⟩, fun v z => by cases z⟩
    rw [rv1.length]
    exact List.getElem?_eq_none_iff.mp g1
  | some x1 => cases g2 : ys[i]? with
    | none =>
      refine ⟨fun _ => ⟨us, ws, q1, q2, .inr ?_⟩, fun v z => by cases z⟩
      rw [rv2.length]
      exact List.getElem?_eq_none_iff.mp g2
    | some y1 =>
      refine ⟨fun z => (nomatch z), fun v z => ?_⟩
      cases z
      obtain ⟨u, eu, ru⟩ := rv1.get g1
      obtain ⟨w, ew, rw'⟩ := rv2.get g2
      refine ⟨⟨us, ws, u, w, q1, q2, eu, ew⟩, ?_⟩
      rintro x' H' ⟨T, x2, y2, rfl, hT, rfl, f1, f2⟩
      have z1 := f1 us q1
      have z2 := f2 ws q2
      rw [eu] at z1
      rw [ew] at z2
      cases z1; cases z2
      exact newTup hh hT ⟨_, _, rfl, ru, _, _, rfl, rw', rfl⟩
theorem si_zip {e e2 : Expr} {f : Den (List AV)} {p pos tpos : Pos} {elts : List Expr} {kk : Nat} (hg : Gl X "zip") (hm : X.mg "zip" = none) (ha : SA E X W [e, e2] f)
    (hs : starEach [e, e2] X.env = (false, eval e X.env) :: starEach [e2] X.env) (hpl : (backTo pos (starEach [e2] X.env)).any (·.1) = false) :
    SI E X W (.Tuple elts kk tpos) (.Call (.Name "zip" p) [e, e2] [] pos) (iZp f) := by
  refine ⟨fun pins s σ H R I h => ?_⟩
  obtain ⟨ρ, σa, A, hs', hh, q⟩ := h
  refine (RZ.pi_zipA (X := X) (elts := elts) (kk := kk) (tpos := tpos) (p := p) (pos := pos) hg hm ha hs hpl).run pins s σ H R I ⟨ρ, σa, A, hs', hh, ?_⟩
  unfold iZp at q
  cases e1 : f σa A with
  | err c i A2 => rw [e1] at q; exact q
  | bad => rw [e1] at q; exact q
  | ok vs A1 =>
    rw [e1] at q
    dsimp only [Res.bind] at q
    have key : (∃ xs ys, vs = [.tup xs, .tup ys]) ∨ (∃ n m, vs = [.ref n, .ref m]) := by
      clear e1
      rcases vs with _ | ⟨v1, _ | ⟨v2, _ | ⟨v3, r⟩⟩⟩
      · exact q.elim
      · cases v1 <;> exact q.elim
      · cases v1 <;> cases v2 <;> first | exact .inl ⟨_, _, rfl⟩ | exact .inr ⟨_, _, rfl⟩ | exact q.elim
      · cases v1 <;> cases v2 <;> exact q.elim
    intro ρ1 H1 b x rh rb
    rcases key with ⟨xs, ys, rfl⟩ | ⟨n, m, rfl⟩
    · obtain ⟨y, z, rfl, ⟨a1, us, rfl, s1, r1⟩, ⟨a2, ws, rfl, s2, r2⟩⟩ := rvs2 rb
      exact ⟨a1, a2, us, ws, rfl, .inr ⟨.inl (.inl s1), .inl (.inl s2), q ρ1 H1 _ x rh (jok_zipT _ s1 s2 r1 r2)⟩⟩
    · obtain ⟨y, z, rfl, r1, r2⟩ := rvs2 rb
      unfold zipOf at q
      dsimp only at q
      cases e2 : A1[n]? with
      | none => rw [e2] at q; exact q.elim
      | some o => cases o with
        | lst xs ro => cases e3 : A1[m]? with
          | none => rw [e2, e3] at q; exact q.elim
          | some o2 => cases o2 with
            | lst ys ro2 =>
              rw [e2, e3] at q
              obtain ⟨p0, us, p1, v1, w1, _⟩ := rh.lst e2
              obtain ⟨p2, ws, p3, v2, w2, _⟩ := rh.lst e3
              have ex := RVref r1 p1
              have ey := RVref r2 p3
              subst ex ey
              exact ⟨p0, p2, us, ws, rfl, .inl ⟨.inl w1, .inl w2, q ρ1 H1 _ x rh (jok_zipL _ p1 p3)⟩⟩
            | dict _ _ => rw [e2, e3] at q; exact q.elim
            | ins _ _ => rw [e2, e3] at q; exact q.elim
        | dict _ _ => rw [e2] at q; exact q.elim
        | ins _ _ => rw [e2] at q; exact q.elim
end
/-! ### reckoning -/
@[simp] theorem e_iZp (f : Den (List AV)) (σ : ASt) (A : AHp) : iZp f σ A = (f σ A).bind fun vs A1 => zipOf vs A1 := (rfl)
@[simp] theorem e_zipT (xs ys : List AV) (A : AHp) : zipOf [.tup xs, .tup ys] A = .ok (srcZ (srcC xs) (srcC ys), min xs.length ys.length + 1) A := (rfl)
@[simp] theorem e_zipL (n m : Nat) (A : AHp) : zipOf [.ref n, .ref m] A = (match gt A n, gt A m with
    | some (.lst xs _), some (.lst ys _) => .ok (srcZ (srcL n) (srcL m), min xs.length ys.length + 1) A
    | _, _ => .bad) := (rfl)
def zipL (xs ys : List AV) : List AV := (xs.zip ys).map fun p => .tup [p.1, p.2]
@[simp] theorem zipL_length (xs ys : List AV) : (zipL xs ys).length = min xs.length ys.length := by simp [zipL]
theorem src_Z {s1 s2 : Src} {xs ys : List AV} {i : Nat} {B : AHp} (h1 : s1 i B = some xs[i]?) (h2 : s2 i B = some ys[i]?) : srcZ s1 s2 i B = some (zipL xs ys)[i]? := by
  unfold srcZ zipL
  rw [h1, h2, List.getElem?_map, List.zip, List.getElem?_zipWith]
  cases xs[i]? <;> cases ys[i]? <;> rfl
def splitL (c : Nat) (a : List Nat) : List (List Nat) := TL.spl [c] 0 [] a
theorem split_S {a : List Nat} {c : Nat} (hc : c < 256) : Txt.split (S a) (S [c]) = (splitL c a).map S := by
  have h := TL.split_spl (S a) (S [c]) (by simp [TL.tl]) (TL.kind_ok (show (#[c] : Array Nat).all (· < 256) = true by simpa using hc))
  have e : ((Txt.split (S a) (S [c])).map TL.tl).map S = (splitL c a).map S := congrArg (List.map S) h
  rw [List.map_map] at e
  rw [← e]
  exact (List.map_id'' (fun x => (S_eta x).symm) _).symm
@[simp] theorem e_split (a : List Nat) (c : Nat) (A : AHp) (h : a.length + 2 ≤ 16777216) (hc : c < 256) : mSplit (.str (S a)) [.str (S [c])] A = some (.ref A.length, A ++ [.lst ((splitL c a).map fun l => .str (S l)) false]) := by
  show (if (([c] : List Nat).length == 0) = false ∧ a.length + 2 ≤ sizeLine then some (AV.ref A.length, A ++ [.lst ((Txt.split (S a) (S [c])).map AV.str) false]) else none) = _
  rw [if_pos ⟨rfl, h⟩, split_S hc, List.map_map]
  rfl
@[simp] theorem e_tupT (xs : List AV) (A : AHp) : fTuple [.tup xs] A = some (.tup xs, A) := (rfl)
@[simp] theorem e_tupR (n : Nat) (A : AHp) : fTuple [.ref n] A = (match gt A n with
    | some (.lst xs _) => some (.tup xs, A)
    | _ => none) := (rfl)
section
variable (f1 : Nat → Nat → Option Bool) (f2 : Nat → String → Option Bool) (f3 : String → Nat → Option Bool) (A : AHp)
theorem isi_ty (v : AV) (t : String) : fIsi f1 f2 f3 [v, .ty t] A = (tyA v A).bind fun q => (kitA f1 f2 f3 q (.ty t)).map fun r => (.bl r, A) := by
  show (match tyA v A with
    | some q => (kitA f1 f2 f3 q (.ty t)).map fun b => (AV.bl b, A)
    | none => none) = _
  cases tyA v A <;> rfl
@[simp] theorem e_isiN (t : String) : fIsi f1 f2 f3 [.non, .ty t] A = (kitBi "NoneType" t).map fun r => (.bl r, A) := by rw [isi_ty]; rfl
@[simp] theorem e_isiI (i : Int) (t : String) : fIsi f1 f2 f3 [.int i, .ty t] A = (kitBi "int" t).map fun r => (.bl r, A) := by rw [isi_ty]; rfl
@[simp] theorem e_isiS (x : Str) (t : String) : fIsi f1 f2 f3 [.str x, .ty t] A = (kitBi "str" t).map fun r => (.bl r, A) := by rw [isi_ty]; rfl
@[simp] theorem e_isiT (xs : List AV) (t : String) : fIsi f1 f2 f3 [.tup xs, .ty t] A = (kitBi "tuple" t).map fun r => (.bl r, A) := by rw [isi_ty]; rfl
@[simp] theorem e_isiR (n : Nat) (t : String) : fIsi f1 f2 f3 [.ref n, .ty t] A = (match gt A n with
    | some (.lst _ _) => (kitBi "list" t).map fun r => (.bl r, A)
    | some (.dict _ false) => (kitBi "dict" t).map fun r => (.bl r, A)
    | some (.ins c _) => (f2 c t).map fun r => (.bl r, A)
    | _ => none) := by
  rw [isi_ty]
  show ((match gt A n with
    | some (.lst _ _) => some (Sum.inr "list")
    | some (.dict _ false) => some (Sum.inr "dict")
    | some (.ins c _) => some (Sum.inl c)
    | _ => none : Option (Nat ⊕ String))).bind _ = _
  cases gt A n with
  | none => rfl
  | some o => cases o with
    | dict kvs lk => cases lk <;> rfl
    | _ => rfl
end
@[simp] theorem kit_eval (m n : String) : kitBi m n = if (["NoneType", "bool", "int", "str", "tuple", "list", "dict"].contains m && ["NoneType", "bool", "int", "str", "tuple", "list", "dict"].contains n) = true then some (m == n || (m == "bool" && n == "int")) else none := by
  unfold kitBi bTys
  rfl
@[simp] theorem e_isN (v : AV) (A : AHp) : pIs v .non A = some (.bl (isNon v), A) := (rfl)
@[simp] theorem e_isnotN (v : AV) (A : AHp) : pIsNot v .non A = some (.bl (!isNon v), A) := (rfl)
@[simp] theorem e_gTp (n : Nat) (gs : GsDen) (xs : List AV) (σ : ASt) (A : AHp) : gTp n gs (.tup xs) σ A = if xs.length = n then gs xs σ A else none := (rfl)
@[simp] theorem e_gsNil (σ : ASt) (A : AHp) : gsNil [] σ A = some σ := (rfl)
@[simp] theorem e_gsCons (g : GDen) (gs : GsDen) (v : AV) (r : List AV) (σ : ASt) (A : AHp) : gsCons g gs (v :: r) σ A = (g v σ A).bind fun σ1 => gs r σ1 A := (rfl)
@[simp] theorem isNon_non : isNon .non = true := (rfl)
@[simp] theorem isNon_bl (b : Bool) : isNon (.bl b) = false := (rfl)
@[simp] theorem isNon_int (b : Int) : isNon (.int b) = false := (rfl)
@[simp] theorem isNon_str (b : Str) : isNon (.str b) = false := (rfl)
@[simp] theorem isNon_tup (b : List AV) : isNon (.tup b) = false := (rfl)
@[simp] theorem isNon_ref (b : Nat) : isNon (.ref b) = false := (rfl)
/-- a comprehension whose item and condition change nothing that was there -/
theorem comp_fr {α : Type} {g : GDen} {t : Den Bool} {e : Den AV} {τ : ASt} {l : List α} {src : Src} (mk f : α → AV) (p : α → Bool) {A : AHp} (hx : l.length < 16777216) (hs : ∀ B i, Fr [] A B → src i B = some (l.map mk)[i]?)
    (h : ∀ B x, x ∈ l → Fr [] A B → ∃ σ1 B1, g (mk x) τ B = some σ1 ∧ t σ1 B = .ok (p x) B1 ∧ Fr [] B B1 ∧ (p x = true → ∃ B2, e σ1 B1 = .ok (f x) B2 ∧ Fr [] B1 B2)) :
    ∃ A', compL src g t e A.length τ (l.length + 1) 0 (A ++ [.lst [] false]) = .ok (.ref A.length) A' ∧ gt A' A.length = some (.lst ((l.filter p).map f) false) ∧ Fr [] A A' := by
  obtain ⟨vs, A', e1, e2, e3, e4, _⟩ := comp_run (src := src) (g := g) (t := t) (e := e) (d := A.length) (τ := τ) (l.map mk) (fun i acc B => Fr [] A B ∧ acc = ((l.take i).filter p).map f ∧ A.length < B.length) (by simpa using hx) (fun i acc B hi hd ⟨hF, ha, hL⟩ => by
    refine ⟨hs _ _ hF, fun x hx => ?_⟩
    rw [List.getElem?_map] at hx
    obtain ⟨y, hy, rfl⟩ := Option.map_eq_some_iff.mp hx
    obtain ⟨σ1, B1, q1, q2, q3, q4⟩ := h B y (List.mem_of_getElem? hy) hF
    refine ⟨σ1, p y, B1, q1, q2, ?_⟩
    have hd1 : gt B1 A.length = some (.lst acc false) := q3.gt hd (by simp)
    cases hp : p y with
    | true =>
      obtain ⟨B2, q5, q6⟩ := q4 hp
      rw [if_pos rfl]
      refine ⟨_, B2, q5, q6.gt hd1 (by simp), ((hF.trans q3).trans q6).setNew (Nat.le_refl _), ?_, ?_⟩
      · rw [ha, List.take_add_one, hy, List.filter_append]
        simp [hp]
      · rw [List.length_set]
        have := q3.len; have := q6.len; omega
    | false =>
      rw [if_neg (by decide)]
      refine ⟨hd1, hF.trans q3, ?_, by have := q3.len; omega⟩
      rw [ha, List.take_add_one, hy, List.filter_append]
      simp [hp]) (A0 := A ++ [.lst [] false]) gt_new ⟨Fr.app _ _ _, by simp, by simp⟩
  rw [List.length_map] at e1 e4
  rw [List.take_length] at e4
  exact ⟨A', e1, e4 ▸ e2, e3⟩
section
variable {α : Type}
theorem atI_nn (xs : List α) {i : Int} (h : 0 ≤ i) : atI xs i = xs[i.toNat]? := by
  unfold atI ixN
  rw [if_pos h]
  by_cases h2 : i < xs.length
  · rw [if_pos h2]; rfl
  · rw [if_neg h2, List.getElem?_eq_none (by omega)]; rfl
@[simp] theorem atI_c0 (a : α) (l : List α) : atI (a :: l) 0 = some a := by rw [atI_nn _ (by omega)]; rfl
@[simp] theorem atI_c1 (a b : α) (l : List α) : atI (a :: b :: l) 1 = some b := by rw [atI_nn _ (by omega)]; rfl
@[simp] theorem atI_c2 (a b c : α) (l : List α) : atI (a :: b :: c :: l) 2 = some c := by rw [atI_nn _ (by omega)]; rfl
@[simp] theorem atI_c3 (a b c d : α) (l : List α) : atI (a :: b :: c :: d :: l) 3 = some d := by rw [atI_nn _ (by omega)]; rfl
@[simp] theorem atI_c4 (a b c d e : α) (l : List α) : atI (a :: b :: c :: d :: e :: l) 4 = some e := by rw [atI_nn _ (by omega)]; rfl
theorem atI_last (xs : List α) : atI xs (-1) = xs.getLast? := by
  unfold atI ixN
  rw [if_neg (by omega)]
  cases xs with
  | nil => rfl
  | cons a l =>
    rw [if_pos (by rw [List.length_cons]; omega), List.getLast?_eq_getElem?]
    have e : (-1 + ((a :: l).length : Int)).toNat = (a :: l).length - 1 := by omega
    rw [e]
    rfl
end
end Ev
end
section
/-! Ev, thirteenth part: plain things, their compare; more reckoning. -/
namespace Ev
open PySem PySem.Spec L2
set_option autoImplicit false
/-! what a law compares: a plain thing -/
inductive T where
  | non | bl (b : Bool) | int (i : Int) | str (l : List Nat) | tup (ts : List T) | lst (ts : List T)
mutual
def Rep (A : AHp) : T → AV → Prop
  | .non, v => v = .non
  | .bl b, v => v = .bl b
  | .int i, v => v = .int i
  | .str l, v => v = .str (S l)
  | .tup ts, v => ∃ xs, v = .tup xs ∧ Reps A ts xs
  | .lst ts, v => ∃ n xs, v = .ref n ∧ gt A n = some (.lst xs false) ∧ Reps A ts xs
def Reps (A : AHp) : List T → List AV → Prop
  | [], vs => vs = []
  | t :: ts, vs => ∃ x xs, vs = x :: xs ∧ Rep A t x ∧ Reps A ts xs
end
mutual
/-- the law's compare: found, due -/
def sameT : T → T → Bool
  | f, .tup ys => (match f with
    | .tup xs => sameL xs ys
    | _ => false)
  | f, .lst ys => (match f with
    | .lst xs => sameL xs ys
    | _ => false)
  | f, .non => (match f with
    | .non => true
    | _ => false)
  | f, .str y => (match f with
    | .str x => decide (x = y)
    | _ => false)
  | f, .int y => (match f with
    | .int x => decide (x = y)
    | _ => false)
  | f, .bl b => (match f with
    | .int x => decide (x = if b then 1 else 0)
    | _ => false)
def sameL : List T → List T → Bool
  | [], [] => true
  | x :: xs, y :: ys => sameT x y && sameL xs ys
  | _, _ => false
end
mutual
def dep : T → Nat
  | .tup ts => deps ts + 1
  | .lst ts => deps ts + 1
  | _ => 0
def deps : List T → Nat
  | [] => 0
  | t :: ts => max (dep t) (deps ts)
end
mutual
def noB : T → Bool
  | .bl _ => false
  | .tup ts => noBs ts
  | .lst ts => noBs ts
  | _ => true
def noBs : List T → Bool
  | [] => true
  | t :: ts => noB t && noBs ts
end
theorem noBs_get : ∀ {ts : List T} {i : Nat} {t : T}, noBs ts = true → ts[i]? = some t → noB t = true
  | [], _, _, _, e => by simp at e
  | u :: ts, 0, t, h, e => by simp at e; subst e; rw [noBs, Bool.and_eq_true] at h; exact h.1
  | u :: ts, i + 1, t, h, e => by
    rw [noBs, Bool.and_eq_true] at h
    exact noBs_get (i := i) h.2 (by simpa using e)
theorem Reps.length {A : AHp} : ∀ {ts : List T} {xs : List AV}, Reps A ts xs → xs.length = ts.length
  | [], _, h => by cases h; rfl
  | t :: ts, _, h => by
    obtain ⟨x, xs, rfl, _, r⟩ := h
    rw [List.length_cons, List.length_cons, Reps.length r]
theorem Reps.get {A : AHp} : ∀ {ts : List T} {xs : List AV} {i : Nat} {x : AV}, Reps A ts xs → xs[i]? = some x → ∃ t, ts[i]? = some t ∧ Rep A t x
  | [], _, i, x, h, e => by cases h; simp at e
  | t :: ts, _, 0, x, h, e => by
    obtain ⟨y, xs, rfl, r1, r⟩ := h
    simp at e
    subst e
    exact ⟨t, rfl, r1⟩
  | t :: ts, _, i + 1, x, h, e => by
    obtain ⟨y, xs, rfl, r1, r⟩ := h
    obtain ⟨u, e1, r2⟩ := Reps.get r (by simpa using e)
    exact ⟨u, by simpa using e1, r2⟩
theorem deps_get : ∀ {ts : List T} {i : Nat} {t : T}, ts[i]? = some t → dep t ≤ deps ts
  | [], _, _, e => by simp at e
  | u :: ts, 0, t, e => by simp at e; subst e; rw [deps]; omega
  | u :: ts, i + 1, t, e => by
    have := deps_get (ts := ts) (i := i) (t := t) (by simpa using e)
    rw [deps]; omega
theorem sameL_step : ∀ {xs ys : List T}, xs.length = ys.length → (∀ (i : Nat) (x y : T), xs[i]? = some x → ys[i]? = some y → sameT x y = true) → sameL xs ys = true
  | [], [], _, _ => rfl
  | x :: xs, y :: ys, hl, h => by
    rw [sameL, h 0 x y rfl rfl, sameL_step (by simpa using hl) fun i a b e1 e2 => h (i + 1) a b (by simpa using e1) (by simpa using e2)]
    rfl
theorem sameL_fail : ∀ {xs ys : List T} {i : Nat} {x y : T}, xs[i]? = some x → ys[i]? = some y → sameT x y = false → sameL xs ys = false
  | [], _, _, _, _, e, _, _ => by simp at e
  | _ :: _, [], _, _, _, _, e, _ => by simp at e
  | a :: xs, b :: ys, 0, x, y, e1, e2, h => by
    simp at e1 e2
    subst e1 e2
    rw [sameL, h]
    rfl
  | a :: xs, b :: ys, i + 1, x, y, e1, e2, h => by
    rw [sameL, sameL_fail (xs := xs) (ys := ys) (i := i) (by simpa using e1) (by simpa using e2) h]
    simp
theorem sameL_len : ∀ {xs ys : List T}, xs.length ≠ ys.length → sameL xs ys = false
  | [], [], h => absurd rfl h
  | [], _ :: _, _ => rfl
  | _ :: _, [], _ => rfl
  | x :: xs, y :: ys, h => by
    rw [sameL, sameL_len (by simpa using h)]
    simp
mutual
theorem same_refl : ∀ t : T, noB t = true → sameT t t = true
  | .non, _ => by simp [sameT]
  | .bl b, h => by simp [noB] at h
  | .int i, _ => by simp [sameT]
  | .str l, _ => by simp [sameT]
  | .tup ts, h => by rw [noB] at h; rw [sameT]; exact sameL_refl ts h
  | .lst ts, h => by rw [noB] at h; rw [sameT]; exact sameL_refl ts h
theorem sameL_refl : ∀ ts : List T, noBs ts = true → sameL ts ts = true
  | [], _ => rfl
  | t :: ts, h => by
    rw [noBs, Bool.and_eq_true] at h
    rw [sameL, same_refl t h.1, sameL_refl ts h.2]
    rfl
end

mutual
theorem same_eq : ∀ f t : T, noB t = true → sameT f t = true → f = t
  | f, .non, _, h => by cases f <;> first | rfl | (simp [sameT] at h)
  | f, .bl b, n, _ => by simp [noB] at n
  | f, .int i, _, h => by cases f <;> first | (simp [sameT] at h; done) | (simp [sameT] at h; rw [h])
  | f, .str i, _, h => by cases f <;> first | (simp [sameT] at h; done) | (simp [sameT] at h; rw [h])
  | f, .tup ts, n, h => by
    rw [noB] at n
    cases f with
    | tup xs => rw [sameT] at h; rw [sameL_eq xs ts n h]
    | _ => simp [sameT] at h
  | f, .lst ts, n, h => by
    rw [noB] at n
    cases f with
    | lst xs => rw [sameT] at h; rw [sameL_eq xs ts n h]
    | _ => simp [sameT] at h
theorem sameL_eq : ∀ xs ts : List T, noBs ts = true → sameL xs ts = true → xs = ts
  | [], [], _, _ => rfl
  | [], _ :: _, _, h => by simp [sameL] at h
  | _ :: _, [], _, h => by simp [sameL] at h
  | x :: xs, t :: ts, n, h => by
    rw [noBs, Bool.and_eq_true] at n
    rw [sameL, Bool.and_eq_true] at h
    rw [same_eq x t n.1 h.1, sameL_eq xs ts n.2 h.2]
end
theorem same_iff {f t : T} (n : noB t = true) : sameT f t = true ↔ f = t := ⟨same_eq f t n, fun h => h ▸ same_refl t n⟩
/-! ### == of plain things -/
def okS (l : List Nat) : Bool := l.all fun c => decide (c < 1114112)
mutual
def okT : T → Bool
  | .str l => okS l
  | .tup ts => okTs ts
  | .lst ts => okTs ts
  | _ => true
def okTs : List T → Bool
  | [] => true
  | t :: ts => okT t && okTs ts
end
mutual
def pd : T → PyData
  | .non => .none
  | .bl b => .bool b
  | .int i => .int i
  | .str l => .str (S l)
  | .tup ts => .tuple (pds ts)
  | .lst ts => .list (pds ts)
def pds : List T → List PyData
  | [] => []
  | t :: ts => pd t :: pds ts
end
mutual
theorem toD_T {A : AHp} : ∀ (t : T) (v : AV) (k : Nat), Rep A t v → dep t < k → toD k A v = some (pd t)
  | .non, v, k + 1, h, _ => by rw [Rep] at h; subst h; rfl
  | .bl b, v, k + 1, h, _ => by rw [Rep] at h; subst h; rfl
  | .int i, v, k + 1, h, _ => by rw [Rep] at h; subst h; rfl
  | .str l, v, k + 1, h, _ => by rw [Rep] at h; subst h; rfl
  | .tup ts, v, k + 1, h, hd => by
    rw [Rep] at h
    rw [dep] at hd
    obtain ⟨xs, rfl, r⟩ := h
    unfold toD
    dsimp only
    rw [toDs_T ts xs k r (by omega)]
    rfl
  | .lst ts, v, k + 1, h, hd => by
    rw [Rep] at h
    rw [dep] at hd
    obtain ⟨n, xs, rfl, hg, r⟩ := h
    have hg : A[n]? = some (.lst xs false) := hg
    unfold toD
    dsimp only
    rw [hg]
    dsimp only
    rw [toDs_T ts xs k r (by omega)]
    rfl
theorem toDs_T {A : AHp} : ∀ (ts : List T) (vs : List AV) (k : Nat), Reps A ts vs → deps ts < k → mapO (toD k A) vs = some (pds ts)
  | [], vs, k, h, _ => by rw [Reps] at h; subst h; rfl
  | t :: ts, vs, k, h, hd => by
    rw [Reps] at h
    rw [deps] at hd
    obtain ⟨x, xs, rfl, r1, r2⟩ := h
    unfold mapO
    rw [toD_T t x k r1 (by omega), toDs_T ts xs k r2 (by omega)]
    rfl
end
mutual
theorem lay_T : ∀ t : T, okT t = true → (pd t).canLay0 = true
  | .non, _ => by simp [pd, PyData.canLay0]
  | .bl b, _ => by simp [pd, PyData.canLay0]
  | .int i, _ => by simp [pd, PyData.canLay0]
  | .str l, h => by
    rw [okT] at h
    rw [pd, PyData.canLay0]
    show (l.toArray).all (· < 0x110000) = true
    rw [← Array.all_toList]
    exact h
  | .tup ts, h => by rw [okT] at h; rw [pd, PyData.canLay0]; exact lays_T ts h
  | .lst ts, h => by rw [okT] at h; rw [pd, PyData.canLay0]; exact lays_T ts h
theorem lays_T : ∀ ts : List T, okTs ts = true → PyData.canLayAll0 (pds ts) = true
  | [], _ => by rw [pds, PyData.canLayAll0]
  | t :: ts, h => by
    rw [okTs, Bool.and_eq_true] at h
    rw [pds, PyData.canLayAll0, lay_T t h.1, lays_T ts h.2]
    rfl
end
mutual
theorem dep_T : ∀ t : T, (pd t).depth = dep t
  | .non => by simp [pd, PyData.depth, dep]
  | .bl b => by simp [pd, PyData.depth, dep]
  | .int i => by simp [pd, PyData.depth, dep]
  | .str l => by simp [pd, PyData.depth, dep]
  | .tup ts => by rw [pd, PyData.depth, deps_T ts, dep]
  | .lst ts => by rw [pd, PyData.depth, deps_T ts, dep]
theorem deps_T : ∀ ts : List T, PyData.depthAll (pds ts) = deps ts
  | [] => by rw [pds, PyData.depthAll, deps]
  | t :: ts => by rw [pds, PyData.depthAll, dep_T t, deps_T ts, deps]
end
mutual
theorem eqv_T : ∀ f t : T, noB f = true → noB t = true → PyData.eqv (pd f) (pd t) = sameT f t
  | .bl b, _, h, _ => by simp [noB] at h
  | _, .bl b, _, h => by simp [noB] at h
  | .tup xs, .tup ts, h, n => by rw [noB] at h n; rw [pd, pd, PyData.eqv, sameT, eqvs_T xs ts h n]
  | .lst xs, .lst ts, h, n => by rw [noB] at h n; rw [pd, pd, PyData.eqv, sameT, eqvs_T xs ts h n]
  | .int i, .int j, _, _ => by simp [pd, PyData.eqv, sameT]; rfl
  | .str i, .str j, _, _ => by
    rw [pd, pd, PyData.eqv, sameT]
    show (S i == S j) = _
    rw [show (S i == S j) = decide (S i = S j) from rfl]
    simp
  | .non, .non, _, _ => by simp [pd, PyData.eqv, sameT]
  | .non, .int _, _, _ => by simp [pd, PyData.eqv, sameT]
  | .non, .str _, _, _ => by simp [pd, PyData.eqv, sameT]
  | .non, .tup _, _, _ => by simp [pd, PyData.eqv, sameT]
  | .non, .lst _, _, _ => by simp [pd, PyData.eqv, sameT]
  | .int _, .non, _, _ => by simp [pd, PyData.eqv, sameT]
  | .int _, .str _, _, _ => by simp [pd, PyData.eqv, sameT]
  | .int _, .tup _, _, _ => by simp [pd, PyData.eqv, sameT]
  | .int _, .lst _, _, _ => by simp [pd, PyData.eqv, sameT]
  | .str _, .non, _, _ => by simp [pd, PyData.eqv, sameT]
  | .str _, .int _, _, _ => by simp [pd, PyData.eqv, sameT]
  | .str _, .tup _, _, _ => by simp [pd, PyData.eqv, sameT]
  | .str _, .lst _, _, _ => by simp [pd, PyData.eqv, sameT]
  | .tup _, .non, _, _ => by simp [pd, PyData.eqv, sameT]
  | .tup _, .int _, _, _ => by simp [pd, PyData.eqv, sameT]
  | .tup _, .str _, _, _ => by simp [pd, PyData.eqv, sameT]
  | .tup _, .lst _, _, _ => by simp [pd, PyData.eqv, sameT]
  | .lst _, .non, _, _ => by simp [pd, PyData.eqv, sameT]
  | .lst _, .int _, _, _ => by simp [pd, PyData.eqv, sameT]
  | .lst _, .str _, _, _ => by simp [pd, PyData.eqv, sameT]
  | .lst _, .tup _, _, _ => by simp [pd, PyData.eqv, sameT]
theorem eqvs_T : ∀ xs ts : List T, noBs xs = true → noBs ts = true → PyData.eqvAll (pds xs) (pds ts) = sameL xs ts
  | [], [], _, _ => by simp [pds, PyData.eqvAll, sameL]
  | [], _ :: _, _, _ => by simp [pds, PyData.eqvAll, sameL]
  | _ :: _, [], _, _ => by simp [pds, PyData.eqvAll, sameL]
  | x :: xs, t :: ts, h, n => by
    rw [noBs, Bool.and_eq_true] at h n
    rw [pds, pds, PyData.eqvAll, eqv_T x t h.1 n.1, eqvs_T xs ts h.2 n.2, sameL]
end
/-- == of two plain things -/
theorem eqB_T {A : AHp} {d d' : T} {v v' : AV} (h : Rep A d v) (h' : Rep A d' v') (n : noB d = true) (n' : noB d' = true) (o : okT d = true) (o' : okT d' = true) (l : dep d < 40) (l' : dep d' < 40) : eqB v v' A = some (sameT d d') := by
  unfold eqB
  split
  · rename_i hs
    cases d with
    | bl b => simp [noB] at n
    | non => rw [Rep] at h; subst h; cases d' <;> first | (simp [noB] at n'; done) | (rw [Rep] at h'; subst h'; simp [scalA, flatEq, sameT] at hs ⊢; done) | (rw [Rep] at h'; obtain ⟨_, rfl, _⟩ := h'; simp [scalA] at hs; done) | (rw [Rep] at h'; obtain ⟨_, _, rfl, _⟩ := h'; simp [scalA] at hs; done)
    | int i => rw [Rep] at h; subst h; cases d' <;> first | (simp [noB] at n'; done) | (rw [Rep] at h'; subst h'; simp [scalA, flatEq, sameT] at hs ⊢; done) | (rw [Rep] at h'; obtain ⟨_, rfl, _⟩ := h'; simp [scalA] at hs; done) | (rw [Rep] at h'; obtain ⟨_, _, rfl, _⟩ := h'; simp [scalA] at hs; done)
    | str i => rw [Rep] at h; subst h; cases d' <;> first | (simp [noB] at n'; done) | (rw [Rep] at h'; subst h'; simp [scalA, flatEq, sameT] at hs ⊢; done) | (rw [Rep] at h'; obtain ⟨_, rfl, _⟩ := h'; simp [scalA] at hs; done) | (rw [Rep] at h'; obtain ⟨_, _, rfl, _⟩ := h'; simp [scalA] at hs; done)
    | tup ts => rw [Rep] at h; obtain ⟨_, rfl, _⟩ := h; cases v' <;> simp [scalA] at hs
    | lst ts => rw [Rep] at h; obtain ⟨_, _, rfl, _⟩ := h; cases v' <;> simp [scalA] at hs
  · rw [toD_T d v 40 h l, toD_T d' v' 40 h' l']
    dsimp only
    rw [if_pos]
    · rw [eqv_T d d' n n']
    · unfold SeqAt.shaped
      rw [lay_T d o, lay_T d' o', dep_T, dep_T]
      simp
      omega
/-! ### more reckoning -/
def appL (n : Nat) (xs : List AV) (v : AV) (A : AHp) : Option (AV × AHp) := if xs.length < sizeLine then some (.non, A.set n (.lst (xs ++ [v]) false)) else none
@[simp] theorem appL_ok {n : Nat} {xs : List AV} {v : AV} {A : AHp} (h : xs.length < 16777216) : appL n xs v A = some (.non, A.set n (.lst (xs ++ [v]) false)) := if_pos h
@[simp] theorem e_append (n : Nat) (v : AV) (A : AHp) : mAppend (.ref n) [v] A = (match gt A n with
    | some (.lst xs false) => appL n xs v A
    | _ => none) := (rfl)
def extL (n : Nat) (xs ys : List AV) (A : AHp) : Option (AV × AHp) := if xs.length + ys.length ≤ sizeLine then some (.non, A.set n (.lst (xs ++ ys) false)) else none
@[simp] theorem extL_ok {n : Nat} {xs ys : List AV} {A : AHp} (h : xs.length + ys.length ≤ 16777216) : extL n xs ys A = some (.non, A.set n (.lst (xs ++ ys) false)) := if_pos h
@[simp] theorem e_extend (n m : Nat) (A : AHp) : mExtend (.ref n) [.ref m] A = (match gt A n, gt A m with
    | some (.lst xs false), some (.lst ys false) => extL n xs ys A
    | _, _ => none) := (rfl)
@[simp] theorem e_Neg (f : Den AV) (σ : ASt) (A : AHp) : dNeg f σ A = (f σ A).bind fun v A1 => match v with
  | .int i => .ok (.int (-i)) A1
  | _ => .bad := (rfl)
@[simp] theorem e_putRI (n : Nat) (i : Int) (z : AV) (A : AHp) : pPut (.ref n) (.int i) z A = (match gt A n with
    | some (.dict kvs false) => if kindA kvs (.k (.inl i)) = true ∧ kvs.length < 16777216 then some (A.set n (.dict (putA kvs (.k (.inl i)) z) false)) else none
    | some (.lst xs false) => (ixN xs.length i).map fun j => A.set n (.lst (xs.set j z) false)
    | _ => none) := (rfl)
theorem ixN_nn {n : Nat} {i : Int} (h : 0 ≤ i) (h2 : i < n) : ixN n i = some i.toNat := by
  unfold ixN
  rw [if_pos h, if_pos h2]
theorem ixN_last {n : Nat} (h : 0 < n) : ixN n (-1) = some (n - 1) := by
  unfold ixN
  rw [if_neg (by omega), if_pos (by omega)]
  congr 1
  omega
@[simp] theorem e_notin1 (a : List Nat) (c : Nat) (A : AHp) : pNotIn (.str (S [c])) (.str (S a)) A = some (.bl (!decide (c ∈ a)), A) := (rfl)
@[simp] theorem cut_mid {α : Type} (xs : List α) {i j : Int} (h : 0 ≤ i) (h2 : i ≤ j) : cutA xs (some i) (some j) = (xs.drop i.toNat).take (j.toNat - i.toNat) := by
  unfold cutA HT.sIx
  dsimp only
  rw [if_neg (by omega), if_neg (by omega)]
  by_cases h3 : i.toNat ≤ xs.length
  · rw [Nat.min_eq_left h3]
    by_cases h4 : j.toNat ≤ xs.length
    · rw [Nat.min_eq_left h4]
    · rw [Nat.min_eq_right (by omega), List.take_of_length_le (by simp), List.take_of_length_le (by simp; omega)]
  · rw [show min i.toNat xs.length = xs.length by omega, List.drop_length, List.drop_of_length_le (by omega)]
    simp
end Ev
end
section
namespace Law
open PySem PySem.Spec L2 Ev
set_option autoImplicit false
def tSub : Nat → Nat → Option Bool := fun _ _ => none
def tSubB : Nat → String → Option Bool := fun _ _ => none
def tBsub : String → Nat → Option Bool := fun _ _ => none
/-- parent_of(path); slots ['path'] -/
def f15_0 (r : Rt) : SDen := (sRet (dSl (dVar 0) dNoPart (dPart (dNeg (dC (.int 1))))))
/-- is_beneath(path, other); slots ['path', 'other'] -/
def f16_0 (r : Rt) : SDen := (sRet (dAndV (dBin pGt (dCB fLen (dCons (dVar 0) dNil)) (dCB fLen (dCons (dVar 1) dNil))) (dBin pEq (dSl (dVar 0) dNoPart (dPart (dCB fLen (dCons (dVar 1) dNil)))) (dVar 1))))
/-- moved_path(path, old, new); slots ['path', 'old', 'new'] -/
def f17_0 (r : Rt) : SDen := (sSeq (sIf (dOrT (dTB (dBin pEq (dVar 0) (dVar 1))) (dTru (dCall 2 (r 16) (dCons (dVar 0) (dCons (dVar 1) dNil))))) (sRet (dBin pAdd (dVar 2) (dSl (dVar 0) (dPart (dCB fLen (dCons (dVar 1) dNil))) dNoPart))) sNil) (sRet (dVar 0)))
/-- _law_drawn(_law_script); slots ['_law_script'] -/
def f1_0 (r : Rt) : SDen := (sRet (dDict [((dC (.str (S [99, 101, 108, 108, 115]))), (dBin pAdd (dCB fList (dCons (dVar 0) dNil)) (dBin pMul (dLst (dCons (dC (.int 0)) dNil)) (dCB fInt (dCons (dBin pEq (dCB fLen (dCons (dVar 0) dNil)) (dC (.int 0))) dNil))))), ((dC (.str (S [97, 116]))), (dC (.int 0))), ((dC (.str (S [114, 101, 115, 116]))), (dC (.int 0)))]))
/-- _law_pick(_law_draw, _law_many); slots ['_law_draw', '_law_many', '_law_found', '_law_at', '_law_cell', '_law_m'] -/
def f2_0 (r : Rt) : SDen := (sSeq (sIf (dTB (dBin pGt (dBin pIx (dVar 0) (dC (.str (S [114, 101, 115, 116])))) (dC (.int 0)))) (sSeq (sAsg (dBin pMod (dBin pIx (dVar 0) (dC (.str (S [114, 101, 115, 116])))) (dVar 1)) (gNm 2)) (sSeq (sPut pPut (dBin pFdiv (dBin pIx (dVar 0) (dC (.str (S [114, 101, 115, 116])))) (dVar 1)) (dVar 0) (dC (.str (S [114, 101, 115, 116])))) (sRet (dVar 2)))) sNil) (sSeq (sAsg (dBin pIx (dVar 0) (dC (.str (S [97, 116])))) (gNm 3)) (sSeq (sAsg (dBin pIx (dBin pIx (dVar 0) (dC (.str (S [99, 101, 108, 108, 115])))) (dBin pMod (dVar 3) (dCB fLen (dCons (dBin pIx (dVar 0) (dC (.str (S [99, 101, 108, 108, 115])))) dNil)))) (gNm 4)) (sSeq (sPut pPut (dBin pAdd (dVar 3) (dC (.int 1))) (dVar 0) (dC (.str (S [97, 116])))) (sSeq (sIf (dAndT (dTB (dBin pLt (dVar 3) (dCB fLen (dCons (dBin pIx (dVar 0) (dC (.str (S [99, 101, 108, 108, 115])))) dNil)))) (dTB (dBin pGe (dVar 4) (dBin pPow (dC (.int 10)) (dC (.int 18)))))) (sSeq (sPut pPut (dBin pFdiv (dVar 4) (dVar 1)) (dVar 0) (dC (.str (S [114, 101, 115, 116])))) (sRet (dBin pMod (dVar 4) (dVar 1)))) sNil) (sSeq (sAsg (dBin pMod (dBin pMul (dBin pAdd (dBin pAdd (dBin pMod (dVar 4) (dC (.int 2147483629))) (dBin pMul (dBin pMul (dVar 3) (dVar 3)) (dC (.int 7919)))) (dC (.int 11))) (dC (.int 48271))) (dC (.int 2147483647))) (gNm 5)) (sSeq (sAsg (dBin pAdd (dBin pMod (dBin pMul (dVar 5) (dVar 5)) (dC (.int 1999999973))) (dVar 3)) (gNm 5)) (sRet (dBin pMod (dBin pFdiv (dBin pMod (dBin pMul (dVar 5) (dBin pAdd (dBin pFdiv (dVar 5) (dC (.int 3))) (dC (.int 48271)))) (dC (.int 2147483587))) (dC (.int 7))) (dVar 1))))))))))
/-- _law_name(_law_draw); slots ['_law_draw', '_law_way', '_law_k'] -/
def f10_0 (r : Rt) : SDen := (sSeq (sAsg (dCall 2 (r 2) (dCons (dVar 0) (dCons (dC (.int 4)) dNil))) (gNm 1)) (sSeq (sIf (dTB (dBin pEq (dVar 1) (dC (.int 0)))) (sRet (dBin pIx (dLst (dCons (dC (.str (S [97]))) (dCons (dC (.str (S [98]))) (dCons (dC (.str (S [97, 97]))) (dCons (dC (.str (S [97, 98]))) (dCons (dC (.str (S [122]))) (dCons (dC (.str (S [122, 122, 122, 122, 122, 122, 122, 122]))) (dCons (dC (.str (S [97, 97, 97, 97, 97, 97, 97, 98]))) (dCons (dC (.str (S [98, 97, 97, 97, 97, 97, 97, 97]))) (dCons (dC (.str (S [111, 118, 101, 114]))) (dCons (dC (.str (S [97, 108, 111, 110, 101]))) dNil))))))))))) (dCall 2 (r 2) (dCons (dVar 0) (dCons (dC (.int 10)) dNil))))) sNil) (sSeq (sIf (dTB (dBin pEq (dVar 1) (dC (.int 1)))) (sRet (dBin pAdd (dC (.str (S [107]))) (dBin pIx (dC (.str (S [97, 98, 99, 100, 101, 102, 103, 104, 105, 106, 107, 108, 109, 110, 111, 112, 113, 114, 115, 116, 117, 118, 119, 120, 121, 122]))) (dCall 2 (r 2) (dCons (dVar 0) (dCons (dC (.int 26)) dNil)))))) sNil) (sSeq (sIf (dTB (dBin pEq (dVar 1) (dC (.int 2)))) (sRet (dBin pIx (dC (.str (S [97, 98, 99, 100, 101, 102, 103]))) (dCall 2 (r 2) (dCons (dVar 0) (dCons (dC (.int 7)) dNil))))) sNil) (sRet (dBM "str" mJoin (dC (.str (S []))) (dCons (dLc (iR1 (dCons (dBin pAdd (dC (.int 1)) (dCall 2 (r 2) (dCons (dVar 0) (dCons (dC (.int 8)) dNil)))) dNil)) (gNm 2) dYes (dBin pIx (dC (.str (S [97, 98, 99, 100, 101, 102, 103, 104, 105, 106, 107, 108, 109, 110, 111, 112, 113, 114, 115, 116, 117, 118, 119, 120, 121, 122]))) (dCall 2 (r 2) (dCons (dVar 0) (dCons (dC (.int 26)) dNil)))) [2]) dNil)))))))
/-- _law_path(_law_draw); slots ['_law_draw', '_law_k'] -/
def f11_0 (r : Rt) : SDen := (sRet (dCB fTuple (dCons (dLc (iR1 (dCons (dBin pIx (dLst (dCons (dC (.int 0)) (dCons (dC (.int 1)) (dCons (dC (.int 2)) (dCons (dC (.int 3)) (dCons (dC (.int 4)) (dCons (dC (.int 8)) (dCons (dCall 2 (r 2) (dCons (dVar 0) (dCons (dC (.int 9)) dNil))) dNil)))))))) (dCall 2 (r 2) (dCons (dVar 0) (dCons (dC (.int 7)) dNil)))) dNil)) (gNm 1) dYes (dCall 1 (r 10) (dCons (dVar 0) dNil)) [1]) dNil)))
/-- _law_same(_law_found, _law_due); slots ['_law_found', '_law_due', '_law_one', '_law_two'] -/
def f12_0 (r : Rt) : SDen := (sSeq (sIf (dOrT (dTru (dCB (fIsi tSub tSubB tBsub) (dCons (dVar 1) (dCons (dC (.ty "list")) dNil)))) (dTru (dCB (fIsi tSub tSubB tBsub) (dCons (dVar 1) (dCons (dC (.ty "tuple")) dNil))))) (sSeq (sIf (dTB (dBin pNe (dCB (fIsi tSub tSubB tBsub) (dCons (dVar 1) (dCons (dC (.ty "list")) dNil))) (dCB (fIsi tSub tSubB tBsub) (dCons (dVar 0) (dCons (dC (.ty "list")) dNil))))) (sRet (dC (.bl false))) sNil) (sSeq (sIf (dTB (dBin pNe (dCB (fIsi tSub tSubB tBsub) (dCons (dVar 1) (dCons (dC (.ty "tuple")) dNil))) (dCB (fIsi tSub tSubB tBsub) (dCons (dVar 0) (dCons (dC (.ty "tuple")) dNil))))) (sRet (dC (.bl false))) sNil) (sSeq (sIf (dTB (dBin pNe (dCB fLen (dCons (dVar 0) dNil)) (dCB fLen (dCons (dVar 1) dNil)))) (sRet (dC (.bl false))) sNil) (sSeq (sFor (iZp (dCons (dVar 0) (dCons (dVar 1) dNil))) (gTp 2 (gsCons (gNm 2) (gsCons (gNm 3) gsNil))) (sIf (dNotT (dTru (dCall 2 (r 12) (dCons (dVar 2) (dCons (dVar 3) dNil))))) (sRet (dC (.bl false))) sNil)) (sRet (dC (.bl true))))))) sNil) (sSeq (sIf (dTB (dBin pIs (dVar 1) (dC .non))) (sRet (dBin pIs (dVar 0) (dC .non))) sNil) (sSeq (sIf (dTru (dCB (fIsi tSub tSubB tBsub) (dCons (dVar 1) (dCons (dC (.ty "str")) dNil)))) (sRet (dAndV (dCB (fIsi tSub tSubB tBsub) (dCons (dVar 0) (dCons (dC (.ty "str")) dNil))) (dBin pEq (dVar 0) (dVar 1)))) sNil) (sRet (dAndV (dCB (fIsi tSub tSubB tBsub) (dCons (dVar 0) (dCons (dC (.ty "int")) dNil))) (dAndV (dNotV (dCB (fIsi tSub tSubB tBsub) (dCons (dVar 0) (dCons (dC (.ty "bool")) dNil)))) (dBin pEq (dVar 0) (dVar 1))))))))
/-- _law_near(_law_draw, _law_path_here); slots ['_law_draw', '_law_path_here', '_law_way', '_law_at'] -/
def f18_0 (r : Rt) : SDen := (sSeq (sAsg (dCall 2 (r 2) (dCons (dVar 0) (dCons (dC (.int 5)) dNil))) (gNm 2)) (sSeq (sAsg (dCall 2 (r 2) (dCons (dVar 0) (dCons (dBin pAdd (dCB fLen (dCons (dVar 1) dNil)) (dC (.int 1))) dNil))) (gNm 3)) (sSeq (sIf (dTB (dBin pEq (dVar 2) (dC (.int 0)))) (sRet (dSl (dVar 1) dNoPart (dPart (dVar 3)))) sNil) (sSeq (sIf (dAndT (dTB (dBin pEq (dVar 2) (dC (.int 1)))) (dTB (dBin pLt (dCB fLen (dCons (dVar 1) dNil)) (dC (.int 8))))) (sRet (dBin pAdd (dVar 1) (dTup (dCons (dCall 1 (r 10) (dCons (dVar 0) dNil)) dNil)))) sNil) (sSeq (sIf (dAndT (dTB (dBin pEq (dVar 2) (dC (.int 2)))) (dTB (dBin pLt (dVar 3) (dCB fLen (dCons (dVar 1) dNil))))) (sRet (dBin pAdd (dBin pAdd (dSl (dVar 1) dNoPart (dPart (dVar 3))) (dTup (dCons (dCall 1 (r 10) (dCons (dVar 0) dNil)) dNil))) (dSl (dVar 1) (dPart (dBin pAdd (dVar 3) (dC (.int 1)))) dNoPart))) sNil) (sSeq (sIf (dTB (dBin pEq (dVar 2) (dC (.int 3)))) (sRet (dVar 1)) sNil) (sRet (dCall 1 (r 11) (dCons (dVar 0) dNil)))))))))
/-- _law_starts(_law_path_here, _law_other); slots ['_law_path_here', '_law_other'] -/
def f19_0 (r : Rt) : SDen := (sRet (dBin pEq (dSl (dCB fList (dCons (dVar 0) dNil)) dNoPart (dPart (dCB fLen (dCons (dVar 1) dNil)))) (dCB fList (dCons (dVar 1) dNil))))
/-- law(_law_script); slots ['_law_script', '_law_draw', '_law_k', '_law_path_here', '_law_old', '_law_new', '_law_due', '_law_j', '_law_found'] -/
def f7_3 (r : Rt) : SDen := (sSeq (sAsg (dCall 1 (r 1) (dCons (dVar 0) dNil)) (gNm 1)) (sSeq (sFor (iR1 (dCons (dBin pAdd (dCB fLen (dCons (dVar 0) dNil)) (dC (.int 1))) dNil)) (gNm 2) (sSeq (sAsg (dCall 1 (r 11) (dCons (dVar 1) dNil)) (gNm 3)) (sSeq (sAsg (dCall 2 (r 18) (dCons (dVar 1) (dCons (dVar 3) dNil))) (gNm 4)) (sSeq (sAsg (dCall 2 (r 18) (dCons (dVar 1) (dCons (dBin pIx (dLst (dCons (dVar 3) (dCons (dVar 4) dNil))) (dCall 2 (r 2) (dCons (dVar 1) (dCons (dC (.int 2)) dNil)))) dNil))) (gNm 5)) (sSeq (sAsg (dCB fTuple (dCons (dLc (iR1 (dCons (dBin pSub (dCB fLen (dCons (dVar 3) dNil)) (dC (.int 1))) dNil)) (gNm 7) dYes (dBin pIx (dVar 3) (dVar 7)) [7]) dNil)) (gNm 6)) (sSeq (sIf (dNotT (dTru (dCall 2 (r 12) (dCons (dCall 1 (r 15) (dCons (dVar 3) dNil)) (dCons (dVar 6) dNil))))) (sRet (dC (.bl false))) sNil) (sSeq (sAsg (dCall 2 (r 16) (dCons (dVar 3) (dCons (dVar 4) dNil))) (gNm 8)) (sSeq (sIf (dOrT (dNotT (dTru (dCB (fIsi tSub tSubB tBsub) (dCons (dVar 8) (dCons (dC (.ty "bool")) dNil))))) (dTB (dBin pNe (dVar 8) (dAndV (dCall 2 (r 19) (dCons (dVar 3) (dCons (dVar 4) dNil))) (dBin pLt (dCB fLen (dCons (dVar 4) dNil)) (dCB fLen (dCons (dVar 3) dNil))))))) (sRet (dC (.bl false))) sNil) (sSeq (sAsg (dVar 3) (gNm 6)) (sSeq (sIf (dTru (dCall 2 (r 19) (dCons (dVar 3) (dCons (dVar 4) dNil)))) (sAsg (dCB fTuple (dCons (dBin pAdd (dCB fList (dCons (dVar 5) dNil)) (dSl (dCB fList (dCons (dVar 3) dNil)) (dPart (dCB fLen (dCons (dVar 4) dNil))) dNoPart)) dNil)) (gNm 6)) sNil) (sSeq (sIf (dNotT (dTru (dCall 2 (r 12) (dCons (dCall 3 (r 17) (dCons (dVar 3) (dCons (dVar 4) (dCons (dVar 5) dNil)))) (dCons (dVar 6) dNil))))) (sRet (dC (.bl false))) sNil) (sIf (dAndT (dTru (dCall 2 (r 19) (dCons (dVar 3) (dCons (dVar 4) dNil)))) (dNotT (dTru (dCall 2 (r 12) (dCons (dCall 3 (r 17) (dCons (dVar 6) (dCons (dVar 5) (dCons (dVar 4) dNil)))) (dCons (dVar 3) dNil)))))) (sRet (dC (.bl false))) sNil)))))))))))) (sRet (dC (.bl true)))))
def tbl (i : Nat) (r : Rt) : List AV → M AV := match i with
  | 15 => runBody (f15_0 r) 1
  | 16 => runBody (f16_0 r) 2
  | 17 => runBody (f17_0 r) 3
  | 1 => runBody (f1_0 r) 1
  | 2 => runBody (f2_0 r) 6
  | 10 => runBody (f10_0 r) 3
  | 11 => runBody (f11_0 r) 2
  | 12 => runBody (f12_0 r) 4
  | 18 => runBody (f18_0 r) 4
  | 19 => runBody (f19_0 r) 2
  | 7 => runBody (f7_3 r) 9
  | _ => fun _ _ => .bad
def R : Nat → Rt
  | 0 => fun _ _ _ => .bad
  | k + 1 => fun i => tbl i (R k)
end Law
end
section
namespace Law
open PySem PySem.Spec L2 Ev
set_option autoImplicit false
def kCells : List Nat := [99, 101, 108, 108, 115]
def kAt : List Nat := [97, 116]
def kRest : List Nat := [114, 101, 115, 116]
def drw (c : Nat) (a r : Int) : AO := .dict [(.k (.inr (S kCells)), .ref c), (.k (.inr (S kAt)), .int a), (.k (.inr (S kRest)), .int r)] false
/-- a draw at n, its cells at c, told at most t times -/
def Drw (A : AHp) (n c : Nat) (t : Int) : Prop := ∃ (a q : Int) (cs : List Int), gt A n = some (drw c a q) ∧ gt A c = some (.lst (cs.map .int) false) ∧ cs ≠ [] ∧ 0 ≤ a ∧ a ≤ t
theorem Drw.nc {A : AHp} {n c : Nat} {t : Int} (h : Drw A n c t) : n ≠ c ∧ n < A.length ∧ c < A.length := by
  obtain ⟨a, q, cs, h1, h2, _⟩ := h
  exact ⟨(by rintro rfl; rw [h1] at h2; cases h2), gt_lt h1, gt_lt h2⟩
theorem Drw.fr {A B : AHp} {n c : Nat} {t : Int} (h : Drw A n c t) {l : List Nat} (k : Fr l A B) (hn : n ∉ l) (hc : c ∉ l) : Drw B n c t := by
  obtain ⟨a, q, cs, h1, h2, h3⟩ := h
  exact ⟨a, q, cs, k.gt h1 hn, k.gt h2 hc, h3⟩
theorem Drw.mono {A : AHp} {n c : Nat} {t t' : Int} (h : Drw A n c t) (k : t ≤ t') : Drw A n c t' := by
  obtain ⟨a, q, cs, h1, h2, h3, h4, h5⟩ := h
  exact ⟨a, q, cs, h1, h2, h3, h4, by omega⟩
theorem Drw.app {A : AHp} {n c : Nat} {t : Int} (h : Drw A n c t) (B : AHp) : Drw (A ++ B) n c t := h.fr (Fr.app [] A B) (by simp) (by simp)
theorem Drw.set {A : AHp} {n c d : Nat} {t : Int} {o : AO} (h : Drw A n c t) (hn : n ≠ d) (hc : c ≠ d) : Drw (A.set d o) n c t := h.fr (Fr.set (l := [d]) (by simp)) (by simpa using hn) (by simpa using hc)
def PickS (g : List AV → M AV) : Prop := ∀ (A : AHp) (n c : Nat) (t m : Int), Drw A n c t → 0 < m → m < 1073741824 → t < 1073741824 → ∃ i A', g [.ref n, .int m] A = .ok (.int i) A' ∧ 0 ≤ i ∧ i < m ∧ Drw A' n c (t + 1) ∧ Fr [n] A A'
theorem pick_ok (r : Rt) : PickS (runBody (f2_0 r) 6) := by
  intro A n c t m ⟨a, q, cs, h1, h2, hc, ha, hat⟩ hm hm2 ht
  have hn := gt_lt h1
  have hnc : n ≠ c := by rintro rfl; rw [h1] at h2; cases h2
  have hl : 0 < cs.length := List.length_pos_iff.mpr hc
  obtain ⟨x, ex, _⟩ := atI_at (xs := cs) (i := a % cs.length) (Int.emod_nonneg _ (by omega)) (Int.emod_lt_of_pos _ (by omega))
  have main : ∃ i a' q', runBody (f2_0 r) 6 [.ref n, .int m] A = .ok (.int i) (A.set n (drw c a' q')) ∧ 0 ≤ i ∧ i < m ∧ 0 ≤ a' ∧ a' ≤ a + 1 := by
    simp (disch := omega) [runBody_eq, f2_0, h1, h2, drw, getK_cons, kCells, kAt, kRest, atI_map, ex, putA, hc]
    repeat' split
    all_goals exact ⟨_, _, ⟨_, rfl⟩, Int.emod_nonneg _ (by omega), Int.emod_lt_of_pos _ hm, by omega, by omega⟩
  obtain ⟨i, a', q', e, h3, h4, h5, h6⟩ := main
  exact ⟨i, _, e, h3, h4, ⟨a', q', cs, gt_set hn, by rw [gt_set_ne hnc]; exact h2, hc, h5, by omega⟩, Fr.set (by simp)⟩
theorem drawn_ok (r : Rt) (ns : List Int) (hl : ns.length ≤ 63) (A : AHp) : ∃ A' n c, runBody (f1_0 r) 1 [scriptV ns] A = .ok (.ref n) A' ∧ Drw A' n c 0 ∧ A.length ≤ n ∧ A.length ≤ c ∧ Fr [] A A' := by
  have hr : (if ns = [] then (1 : Int) else 0) < 1073741824 ∧ -1 < (if ns = [] then (1 : Int) else 0) ∧ (if ns = [] then (1 : Int) else 0).toNat < 2 := by split <;> omega
  generalize hq : (if ns = [] then (1 : Int) else 0) = q at hr
  simp (disch := first | omega | (simp; omega) | decide) [runBody_eq, f1_0, scriptV, putA, hq, Nat.add_assoc]
  refine ⟨_, _, ⟨rfl, rfl⟩, A.length + 4, ⟨0, 0, ns ++ List.replicate q.toNat 0, by simp [drw, kCells, kAt, kRest], by simp, ?_, by omega, by omega⟩, Nat.le_refl _, by omega, Fr.app _ _ _⟩
  subst hq
  cases ns <;> simp
end Law
end
section
namespace Law
open PySem PySem.Spec L2 Ev
set_option autoImplicit false
def lowB (c : Nat) : Bool := decide (97 ≤ c) && decide (c ≤ 122)
def nameB (l : List Nat) : Bool := decide (1 ≤ l.length) && decide (l.length ≤ 8) && l.all lowB
end Law
end
section
namespace Law
open PySem PySem.Spec L2 Ev
set_option autoImplicit false
def SameS (n : Nat) (g : List AV → M AV) : Prop := ∀ (A : AHp) (d d' : T) (v v' : AV), Rep A d v → Rep A d' v' → noB d' = true → dep d' ≤ n → g [v, v'] A = .ok (.bl (sameT d d')) A
theorem same_loop {r : Rt} {n : Nat} (h : SameS n (r 12)) {A : AHp} {ds ds' : List T} {xs ys : List AV} {src : Src} {v v' : AV} (h1 : Reps A ds xs) (h2 : Reps A ds' ys) (hb : noBs ds' = true) (hd : deps ds' ≤ n) (hl : ds.length = ds'.length) (hs : ∀ i, src i A = some (zipL xs ys)[i]?) :
    SR.bind (loopS src (gTp 2 (gsCons (gNm 2) (gsCons (gNm 3) gsNil))) (sIf (dNotT (dTru (dCall 2 (r 12) (dCons (dVar 2) (dCons (dVar 3) dNil))))) (sRet (dC (.bl false))) sNil) (min xs.length ys.length + 1) 0 [some v, some v', none, none] A) (sRet (dC (.bl true))) = .rt (.bl (sameL ds ds')) A := by
  have lr := loop_run (src := src) (g := gTp 2 (gsCons (gNm 2) (gsCons (gNm 3) gsNil))) (body := sIf (dNotT (dTru (dCall 2 (r 12) (dCons (dVar 2) (dCons (dVar 3) dNil))))) (sRet (dC (.bl false))) sNil)
    (zipL xs ys) (fun i τ B => B = A ∧ (∃ a b, τ = [some v, some v', a, b]) ∧ ∀ j x y, j < i → ds[j]? = some x → ds'[j]? = some y → sameT x y = true)
    (fun q => (∃ σ, q = .nx σ A ∧ sameL ds ds' = true) ∨ (q = .rt (.bl false) A ∧ sameL ds ds' = false)) (fun i τ B hi ⟨hB, ⟨a, b, hτ⟩, hI⟩ => by
      subst hB hτ
      refine ⟨hs i, fun x hx => ?_⟩
      unfold zipL at hx
      rw [List.getElem?_map, List.zip, List.getElem?_zipWith] at hx
      cases e1 : xs[i]? with
      | none => rw [e1] at hx; simp at hx
      | some x1 => cases e2 : ys[i]? with
        | none => rw [e1, e2] at hx; simp at hx
        | some y1 =>
          rw [e1, e2] at hx
          simp at hx
          subst hx
          obtain ⟨t1, g1, q1⟩ := h1.get e1
          obtain ⟨t2, g2, q2⟩ := h2.get e2
          have e3 := h B t1 t2 x1 y1 q1 q2 (noBs_get hb g2) (Nat.le_trans (deps_get g2) hd)
          refine ⟨_, by simp; rfl, ?_⟩
          simp [e3]
          cases e4 : sameT t1 t2 with
          | true =>
            simp
            intro j x y hj g3 g4
            by_cases hji : j = i
            · subst hji
              rw [g1] at g3; rw [g2] at g4
              cases g3; cases g4
              exact e4
            · exact hI j x y (by omega) g3 g4
          | false =>
            simp
            exact sameL_fail g1 g2 e4) (fun τ B ⟨hB, _, hI⟩ => by
      subst hB
      refine .inl ⟨τ, rfl, sameL_step hl fun j x y g3 g4 => hI j x y ?_ g3 g4⟩
      rw [zipL_length, h1.length, h2.length]
      have l1 := (List.getElem?_eq_some_iff.mp g3).1
      omega) (A0 := A) (τ := [some v, some v', none, none]) ⟨rfl, ⟨_, _, rfl⟩, fun j x y hj => absurd hj (by omega)⟩
  rw [zipL_length] at lr
  rcases lr with ⟨σ, e, e2⟩ | ⟨e, e2⟩
  · rw [e, e2]; simp
  · rw [e, e2]; simp
theorem same_ok (r : Rt) (n : Nat) (h : ∀ m, n = m + 1 → SameS m (r 12)) : SameS n (runBody (f12_0 r) 4) := by
  intro A d d' v v' h1 h2 hb hd
  cases d' with
  | non => cases h2; cases d with
    | tup ts => obtain ⟨xs, rfl, _⟩ := h1; simp [runBody_eq, f12_0, sameT]
    | lst ts => obtain ⟨m, xs, rfl, _, _⟩ := h1; simp [runBody_eq, f12_0, sameT]
    | _ => cases h1; simp [runBody_eq, f12_0, sameT]
  | bl b => simp [noB] at hb
  | int i => cases h2; cases d with
    | tup ts => obtain ⟨xs, rfl, _⟩ := h1; simp [runBody_eq, f12_0, sameT]
    | lst ts => obtain ⟨m, xs, rfl, hg, _⟩ := h1; simp [runBody_eq, f12_0, sameT, hg]
    | _ => cases h1; simp [runBody_eq, f12_0, sameT]
  | str l => cases h2; cases d with
    | tup ts => obtain ⟨xs, rfl, _⟩ := h1; simp [runBody_eq, f12_0, sameT]
    | lst ts => obtain ⟨m, xs, rfl, hg, _⟩ := h1; simp [runBody_eq, f12_0, sameT, hg]
    | _ => cases h1; simp [runBody_eq, f12_0, sameT]
  | tup ts' =>
    rw [dep] at hd
    rw [noB] at hb
    obtain ⟨ys, rfl, r2⟩ := h2
    cases d with
    | tup ts =>
      obtain ⟨xs, rfl, r1⟩ := h1
      by_cases hl : ts.length = ts'.length
      · have lp := same_loop (h (n - 1) (by omega)) r1 r2 hb (by omega) hl (src := srcZ (srcC xs) (srcC ys)) (fun i => src_Z (src_C _ _ _) (src_C _ _ _)) (v := .tup xs) (v' := .tup ys)
        simp [runBody_eq, f12_0, sameT, r1.length, r2.length, hl] at lp ⊢
        simp [lp]
      · have hl' : ¬ ((ts.length : Int) = ts'.length) := by omega
        rw [sameT, sameL_len hl]
        simp [runBody_eq, f12_0, r1.length, r2.length, hl']
    | lst ts => obtain ⟨m, xs, rfl, hg, _⟩ := h1; simp [runBody_eq, f12_0, sameT, hg]
    | _ => cases h1; simp [runBody_eq, f12_0, sameT]
  | lst ts' =>
    rw [dep] at hd
    rw [noB] at hb
    obtain ⟨m', ys, rfl, hg', r2⟩ := h2
    cases d with
    | lst ts =>
      obtain ⟨m, xs, rfl, hg, r1⟩ := h1
      by_cases hl : ts.length = ts'.length
      · have lp := same_loop (h (n - 1) (by omega)) r1 r2 hb (by omega) hl (src := srcZ (srcL m) (srcL m')) (fun i => src_Z (src_L hg i) (src_L hg' i)) (v := .ref m) (v' := .ref m')
        simp [runBody_eq, f12_0, sameT, r1.length, r2.length, hl, hg, hg'] at lp ⊢
        simp [lp]
      · have hl' : ¬ ((ts.length : Int) = ts'.length) := by omega
        rw [sameT, sameL_len hl]
        simp [runBody_eq, f12_0, r1.length, r2.length, hl', hg, hg']
    | tup ts => obtain ⟨xs, rfl, _⟩ := h1; simp [runBody_eq, f12_0, sameT, hg']
    | _ => cases h1; simp [runBody_eq, f12_0, sameT, hg']
end Law
end
section
namespace Law
open PySem PySem.Spec L2 Ev
set_option autoImplicit false
theorem pick_fun {g : List AV → M AV} (hp : PickS g) {A : AHp} {n c : Nat} {t m : Int} (h : Drw A n c t) (h1 : 0 < m) (h2 : m < 1073741824) (h3 : t < 1073741824) :
    ∃ (fi : AHp → Int) (fA : AHp → AHp), (∀ B, g [.ref n, .int m] (A ++ B) = .ok (.int (fi B)) (fA B)) ∧ ∀ B, 0 ≤ fi B ∧ fi B < m ∧ Drw (fA B) n c (t + 1) ∧ Fr [n] (A ++ B) (fA B) ∧ ∀ o B', B = o :: B' → gt (fA B) A.length = some o := by
  have hn := h.nc
  have hq := fun B => hp (A ++ B) n c t m (h.app B) h1 h2 h3
  refine ⟨fun B => Classical.choose (hq B), fun B => Classical.choose (Classical.choose_spec (hq B)), fun B => (Classical.choose_spec (Classical.choose_spec (hq B))).1, fun B => ?_⟩
  obtain ⟨_, z1, z2, z3, z4⟩ := Classical.choose_spec (Classical.choose_spec (hq B))
  refine ⟨z1, z2, z3, z4, fun o B' e => z4.gt (by rw [e]; simp) (by simp; omega)⟩
def strV (ws : List (List Nat)) : List AV := ws.map fun w => .str (S w)
@[simp] theorem strV_length (ws : List (List Nat)) : (strV ws).length = ws.length := by simp [strV]
@[simp] theorem strV_append (a b : List (List Nat)) : strV a ++ strV b = strV (a ++ b) := by simp [strV]
def IsNameS (g : List AV → M AV) : Prop := ∀ (A : AHp) (l : List Nat), l.length < 16777216 → ∃ B, g [.str (S l)] A = .ok (.bl (nameB l)) (A ++ B)
def NameS (g : List AV → M AV) : Prop := ∀ (A : AHp) (n c : Nat) (t : Int), Drw A n c t → t < 1000000000 → ∃ w A', g [.ref n] A = .ok (.str (S w)) A' ∧ nameB w = true ∧ Drw A' n c (t + 10) ∧ Fr [n] A A'
def PathS (g : List AV → M AV) : Prop := ∀ (A : AHp) (n c : Nat) (t : Int), Drw A n c t → t < 900000000 → ∃ ws A', g [.ref n] A = .ok (.tup (strV ws)) A' ∧ (∀ w ∈ ws, nameB w = true) ∧ ws.length ≤ 8 ∧ Drw A' n c (t + 100) ∧ Fr [n] A A'
def abc : List Nat := [97, 98, 99, 100, 101, 102, 103, 104, 105, 106, 107, 108, 109, 110, 111, 112, 113, 114, 115, 116, 117, 118, 119, 120, 121, 122]
theorem mem_abc (c : Nat) : c ∈ abc ↔ lowB c = true := by
  unfold abc lowB
  simp
  omega
theorem nameB_len {w : List Nat} (h : nameB w = true) : 1 ≤ w.length ∧ w.length ≤ 8 := by
  unfold nameB at h
  simp at h
  omega
theorem nameB_low {w : List Nat} (h : nameB w = true) : ∀ c ∈ w, lowB c = true := by
  unfold nameB at h
  simp at h
  exact h.2
theorem nameB_mk {w : List Nat} (h1 : 1 ≤ w.length) (h2 : w.length ≤ 8) (h : ∀ c ∈ w, lowB c = true) : nameB w = true := by
  unfold nameB
  simp
  exact ⟨⟨h1, h2⟩, h⟩
theorem name_ok (r : Rt) (hp : PickS (r 2)) : NameS (runBody (f10_0 r) 3) := by
  intro A n c t h ht
  obtain ⟨m, A1, e1, h10, h11, h12, h13⟩ := hp A n c t 4 h (by omega) (by omega) (by omega)
  by_cases w0 : m = 0
  · subst w0
    obtain ⟨fi, fA, f1, f2⟩ := pick_fun hp (m := 10) h12 (by omega) (by omega) (by omega)
    have key : ∀ B, ∃ w, atI [AV.str (S [97]), .str (S [98]), .str (S [97, 97]), .str (S [97, 98]), .str (S [122]), .str (S [122, 122, 122, 122, 122, 122, 122, 122]), .str (S [97, 97, 97, 97, 97, 97, 97, 98]), .str (S [98, 97, 97, 97, 97, 97, 97, 97]), .str (S [111, 118, 101, 114]), .str (S [97, 108, 111, 110, 101])] (fi B) = some (.str (S w)) ∧ nameB w = true := fun B => by
      obtain ⟨v, ev, hv⟩ := atI_at (xs := [AV.str (S [97]), .str (S [98]), .str (S [97, 97]), .str (S [97, 98]), .str (S [122]), .str (S [122, 122, 122, 122, 122, 122, 122, 122]), .str (S [97, 97, 97, 97, 97, 97, 97, 98]), .str (S [98, 97, 97, 97, 97, 97, 97, 97]), .str (S [111, 118, 101, 114]), .str (S [97, 108, 111, 110, 101])]) (f2 B).1 (f2 B).2.1
      rw [ev]
      simp at hv
      rcases hv with rfl | rfl | rfl | rfl | rfl | rfl | rfl | rfl | rfl | rfl <;> exact ⟨_, rfl, by decide⟩
    have f3 : ∀ o B, gt (fA (o :: B)) A1.length = some o := fun o B => (f2 (o :: B)).2.2.2.2 o B rfl
    obtain ⟨w, ew, hw⟩ := key [AO.lst [AV.str (S [97]), .str (S [98]), .str (S [97, 97]), .str (S [97, 98]), .str (S [122]), .str (S [122, 122, 122, 122, 122, 122, 122, 122]), .str (S [97, 97, 97, 97, 97, 97, 97, 98]), .str (S [98, 97, 97, 97, 97, 97, 97, 97]), .str (S [111, 118, 101, 114]), .str (S [97, 108, 111, 110, 101])] false]
    simp (disch := first | omega | decide | (simp; done) | (simp; omega)) [runBody_eq, f10_0, e1, f1, f3, ew]
    obtain ⟨_, _, g1, g2, _⟩ := f2 [AO.lst [AV.str (S [97]), .str (S [98]), .str (S [97, 97]), .str (S [97, 98]), .str (S [122]), .str (S [122, 122, 122, 122, 122, 122, 122, 122]), .str (S [97, 97, 97, 97, 97, 97, 97, 98]), .str (S [98, 97, 97, 97, 97, 97, 97, 97]), .str (S [111, 118, 101, 114]), .str (S [97, 108, 111, 110, 101])] false]
    exact ⟨_, _, ⟨rfl, rfl⟩, hw, g1.mono (by omega), (h13.trans (Fr.app _ _ _)).trans g2⟩
  · by_cases w1 : m = 1
    · subst w1
      obtain ⟨i, A2, e2, q0, q1, q2, q3⟩ := hp A1 n c (t + 1) 26 h12 (by omega) (by omega) (by omega)
      obtain ⟨x, ex, hx⟩ := atI_at (xs := abc) (i := i) q0 (by simpa [abc] using q1)
      unfold abc at ex
      simp (disch := first | omega | decide | (simp; done) | (simp; omega)) [runBody_eq, f10_0, e1, e2, ex]
      refine ⟨_, _, ⟨rfl, rfl⟩, ?_, q2.mono (by omega), h13.trans q3⟩
      have hx2 := (mem_abc x).mp hx
      simp [nameB, lowB] at hx2 ⊢
      exact hx2
    · by_cases w2 : m = 2
      · subst w2
        obtain ⟨i, A2, e2, q0, q1, q2, q3⟩ := hp A1 n c (t + 1) 7 h12 (by omega) (by omega) (by omega)
        obtain ⟨x, ex, hx⟩ := atI_at (xs := [97, 98, 99, 100, 101, 102, 103]) (i := i) q0 q1
        simp (disch := first | omega | decide | (simp; done) | (simp; omega)) [runBody_eq, f10_0, e1, e2, ex]
        refine ⟨_, _, ⟨rfl, rfl⟩, ?_, q2.mono (by omega), h13.trans q3⟩
        simp at hx
        rcases hx with rfl | rfl | rfl | rfl | rfl | rfl | rfl <;> decide
      · obtain ⟨m2, A2, e2, q0, q1, q2, q3⟩ := hp A1 n c (t + 1) 8 h12 (by omega) (by omega) (by omega)
        obtain ⟨hnc, hn, hc⟩ := q2.nc
        obtain ⟨vs, A3, e3, h31, h32, h33, h34, ls, h35, h36, h37⟩ := comp_run (src := srcR 0 (1 + m2).toNat) (g := gNm 2) (t := dYes) (e := dBin pIx (dC (.str (S abc))) (dCall 2 (r 2) (dCons (dVar 0) (dCons (dC (.int 26)) dNil)))) (d := A2.length) (τ := [some (.ref n), some (.int m), none]) (rngL 0 (1 + m2).toNat)
          (fun i acc B => Drw B n c (t + 2 + i) ∧ Fr [n] A2 B ∧ A2.length < B.length ∧ ∃ ls : List Nat, acc = ls.map (fun c => AV.str (S [c])) ∧ ls.length = i ∧ ∀ x ∈ ls, lowB x = true) (by rw [rngL_length]; omega) (fun i acc B hi hd ⟨hI1, hI2, hI3, ls, hI4, hI5, hI6⟩ => by
            refine ⟨src_R _ _ _ _, fun x hx => ?_⟩
            obtain ⟨rfl, hi2⟩ := rngL_get hx
            obtain ⟨j, B1, p1, p2, p3, p4, p5⟩ := hp B n c (t + 2 + i) 26 hI1 (by omega) (by omega) (by omega)
            obtain ⟨y, ey, hy⟩ := atI_at (xs := abc) (i := j) p2 (by simpa [abc] using p3)
            refine ⟨_, true, _, rfl, rfl, ?_⟩
            rw [if_pos rfl]
            have hd2 : gt B1 A2.length = some (.lst acc false) := p5.gt hd (by simp; omega)
            refine ⟨.str (S [y]), B1, ?_, hd2, ?_, ?_, ?_, ?_⟩
            · simp (disch := first | omega | decide | (simp; done) | (simp; omega)) [p1, ey]
            · exact (p4.set (by omega) (by omega)).mono (by omega)
            · exact (hI2.trans p5).setNew (Nat.le_refl _)
            · rw [List.length_set]; have := p5.len; omega
            · refine ⟨ls ++ [y], by simp [hI4], by simp [hI5], fun x hx => ?_⟩
              rcases List.mem_append.mp hx with z | z
              · exact hI6 x z
              · simp at z
                subst z
                exact (mem_abc _).mp hy) (A0 := A2 ++ [.lst [] false]) gt_new ⟨(q2.app _).mono (by omega), Fr.app _ _ _, by simp, [], rfl, rfl, by simp⟩
        rw [rngL_length] at e3 h32 h36
        have hj := joinA_ok A3 (a := []) (ls := ls.map fun c => [c]) (by simp; omega)
        rw [List.map_map] at hj
        have hj2 : joinA [] vs A3 = some (AV.str (S ls), A3) := by
          rw [h35]
          refine hj.trans ?_
          simp
        unfold abc at e3
        simp (disch := first | omega | decide | (simp; done) | (simp; omega)) [runBody_eq, f10_0, e1, e2, e3, h31, hj2, w0, w1, w2]
        exact ⟨_, _, ⟨rfl, rfl⟩, nameB_mk (by omega) (by omega) h37, h32.mono (by omega), (h13.trans q3).trans h33⟩

theorem path_ok (r : Rt) (hp : PickS (r 2)) (hn : NameS (r 10)) : PathS (runBody (f11_0 r) 2) := by
  intro A n c t h ht
  obtain ⟨m, A1, e1, h10, h11, h12, h13⟩ := hp A n c t 9 h (by omega) (by omega) (by omega)
  obtain ⟨fi, fA, f1, f2⟩ := pick_fun hp (m := 7) h12 (by omega) (by omega) (by omega)
  obtain ⟨g0, g1, g2, g3, g4⟩ := f2 [.lst [.int 0, .int 1, .int 2, .int 3, .int 4, .int 8, .int m] false]
  have e2 := f1 [.lst [.int 0, .int 1, .int 2, .int 3, .int 4, .int 8, .int m] false]
  have e3 := g4 _ _ rfl
  obtain ⟨v, ev, hv⟩ := atI_at (xs := [AV.int 0, .int 1, .int 2, .int 3, .int 4, .int 8, .int m]) g0 g1
  generalize hB : fA [.lst [.int 0, .int 1, .int 2, .int 3, .int 4, .int 8, .int m] false] = A2 at e2 e3 g2 g3
  have hk : ∃ k : Int, v = .int k ∧ 0 ≤ k ∧ k ≤ 8 := by
    simp at hv
    rcases hv with rfl | rfl | rfl | rfl | rfl | rfl | rfl <;> exact ⟨_, rfl, by omega, by omega⟩
  obtain ⟨k, rfl, hk0, hk8⟩ := hk
  obtain ⟨hnc, hn2, hc2⟩ := g2.nc
  obtain ⟨vs, A3, e4, h31, h32, h33, h34, ws, h35, h36, h37⟩ := comp_run (src := srcR 0 k.toNat) (g := gNm 1) (t := dYes) (e := dCall 1 (r 10) (dCons (dVar 0) dNil)) (d := A2.length) (τ := [some (.ref n), none]) (rngL 0 k.toNat)
    (fun i acc B => Drw B n c (t + 2 + 10 * i) ∧ Fr [n] A2 B ∧ A2.length < B.length ∧ ∃ ws : List (List Nat), acc = strV ws ∧ ws.length = i ∧ ∀ w ∈ ws, nameB w = true) (by rw [rngL_length]; omega) (fun i acc B hi hd ⟨hI1, hI2, hI3, ws, hI4, hI5, hI6⟩ => by
      refine ⟨src_R _ _ _ _, fun x hx => ?_⟩
      obtain ⟨rfl, hi2⟩ := rngL_get hx
      obtain ⟨w, B1, p1, p2, p3, p4⟩ := hn B n c (t + 2 + 10 * i) hI1 (by omega)
      refine ⟨_, true, _, rfl, rfl, ?_⟩
      rw [if_pos rfl]
      have hd2 : gt B1 A2.length = some (.lst acc false) := p4.gt hd (by simp; omega)
      refine ⟨.str (S w), B1, by simp [p1], hd2, (p3.set (by omega) (by omega)).mono (by omega), (hI2.trans p4).setNew (Nat.le_refl _), ?_, ws ++ [w], by simp [hI4, strV], by simp [hI5], fun x hx => ?_⟩
      · rw [List.length_set]; have := p4.len; omega
      · rcases List.mem_append.mp hx with z | z
        · exact hI6 x z
        · simp at z
          subst z
          exact p2) (A0 := A2 ++ [.lst [] false]) gt_new ⟨(g2.app _).mono (by omega), Fr.app _ _ _, by simp, [], rfl, rfl, by simp⟩
  rw [rngL_length] at e4 h32 h36
  simp (disch := first | omega | decide | (simp; done) | (simp; omega)) [runBody_eq, f11_0, e1, e2, e3, ev, e4, h31, h35]
  refine ⟨ws, A3, ⟨rfl, rfl⟩, h37, by omega, h32.mono (by omega), ((h13.trans (Fr.app _ _ _)).trans g3).trans h33⟩
theorem lenSum_names {ws : List (List Nat)} (h : ∀ w ∈ ws, nameB w = true) : lenSum ws ≤ 8 * ws.length := by
  induction ws with
  | nil => simp [lenSum]
  | cons w ws ih =>
    have h1 := (nameB_len (h w (by simp))).2
    have h2 := ih fun x hx => h x (by simp [hx])
    simp [lenSum] at h2 ⊢
    omega
end Law
end
section
namespace Law
open PySem PySem.Spec L2 Ev
set_option autoImplicit false
@[simp] theorem e_addT (xs ys : List AV) (A : AHp) (h : xs.length + ys.length ≤ 16777216) : pAdd (.tup xs) (.tup ys) A = some (.tup (xs ++ ys), A) := if_pos h
@[simp] theorem strV_take (ws : List (List Nat)) (n : Nat) : (strV ws).take n = strV (ws.take n) := by simp [strV, List.map_take]
@[simp] theorem strV_drop (ws : List (List Nat)) (n : Nat) : (strV ws).drop n = strV (ws.drop n) := by simp [strV, List.map_drop]
@[simp] theorem strV_one (w : List Nat) : [AV.str (S w)] = strV [w] := (rfl)
@[simp] theorem strV_snoc (ws : List (List Nat)) (w : List Nat) : strV ws ++ [AV.str (S w)] = strV (ws ++ [w]) := by simp only [strV, List.map_append, List.map_cons, List.map_nil]
@[simp] theorem strV_mid (ws vs : List (List Nat)) (w : List Nat) : strV ws ++ AV.str (S w) :: strV vs = strV (ws ++ w :: vs) := by simp only [strV, List.map_append, List.map_cons]
theorem strV_at {ws : List (List Nat)} {i : Nat} {w : List Nat} (h : ws[i]? = some w) : atI (strV ws) i = some (.str (S w)) := by
  rw [atI_nn _ (by omega)]
  unfold strV
  rw [List.getElem?_map, Int.toNat_natCast, h]
  rfl
def okSs (ws : List (List Nat)) : Prop := ∀ w ∈ ws, okS w = true
theorem okSs_name {ws : List (List Nat)} (h : ∀ w ∈ ws, nameB w = true) : okSs ws := fun w hw => by
  unfold okS
  rw [List.all_eq_true]
  intro c hc
  have := nameB_low (h w hw) c hc
  simp [lowB] at this ⊢
  omega
theorem reps_strV (A : AHp) : ∀ ws : List (List Nat), Reps A (ws.map T.str) (strV ws)
  | [] => by rw [List.map_nil, Reps]; rfl
  | w :: r => by
    rw [List.map_cons, Reps]
    exact ⟨.str (S w), strV r, rfl, by rw [Rep], reps_strV A r⟩
theorem noBs_strV : ∀ ws : List (List Nat), noBs (ws.map T.str) = true
  | [] => rfl
  | w :: r => by rw [List.map_cons, noBs, noBs_strV r]; simp [noB]
theorem deps_strV : ∀ ws : List (List Nat), deps (ws.map T.str) = 0
  | [] => rfl
  | w :: r => by rw [List.map_cons, deps, deps_strV r]; simp [dep]
theorem okTs_strV : ∀ {ws : List (List Nat)}, okSs ws → okTs (ws.map T.str) = true
  | [], _ => rfl
  | w :: r, h => by rw [List.map_cons, okTs, okTs_strV fun x hx => h x (by simp [hx])]; simp [okT, h w (by simp)]
theorem sameL_strV : ∀ a b : List (List Nat), sameL (a.map T.str) (b.map T.str) = decide (a = b)
  | [], [] => rfl
  | [], _ :: _ => rfl
  | _ :: _, [] => rfl
  | x :: a, y :: b => by
    rw [List.map_cons, List.map_cons, sameL, sameL_strV a b]
    by_cases h : x = y <;> by_cases h2 : a = b <;> simp [sameT, h, h2]
theorem eq_tup (A : AHp) {a b : List (List Nat)} (ha : okSs a) (hb : okSs b) : eqB (.tup (strV a)) (.tup (strV b)) A = some (decide (a = b)) := by
  have e := eqB_T (A := A) (d := .tup (a.map T.str)) (d' := .tup (b.map T.str)) (v := .tup (strV a)) (v' := .tup (strV b)) (by rw [Rep]; exact ⟨_, rfl, reps_strV A a⟩) (by rw [Rep]; exact ⟨_, rfl, reps_strV A b⟩) (by rw [noB]; exact noBs_strV a) (by rw [noB]; exact noBs_strV b) (by rw [okT]; exact okTs_strV ha) (by rw [okT]; exact okTs_strV hb) (by rw [dep, deps_strV]; omega) (by rw [dep, deps_strV]; omega)
  rw [e, sameT, sameL_strV]
theorem eq_lst {A : AHp} {n m : Nat} {a b : List (List Nat)} (h1 : gt A n = some (.lst (strV a) false)) (h2 : gt A m = some (.lst (strV b) false)) (ha : okSs a) (hb : okSs b) : eqB (.ref n) (.ref m) A = some (decide (a = b)) := by
  have e := eqB_T (A := A) (d := .lst (a.map T.str)) (d' := .lst (b.map T.str)) (v := .ref n) (v' := .ref m) (by rw [Rep]; exact ⟨n, _, rfl, h1, reps_strV A a⟩) (by rw [Rep]; exact ⟨m, _, rfl, h2, reps_strV A b⟩) (by rw [noB]; exact noBs_strV a) (by rw [noB]; exact noBs_strV b) (by rw [okT]; exact okTs_strV ha) (by rw [okT]; exact okTs_strV hb) (by rw [dep, deps_strV]; omega) (by rw [dep, deps_strV]; omega)
  rw [e, sameT, sameL_strV]
theorem same_tup {g : List AV → M AV} {n : Nat} (h : SameS (n + 1) g) (A : AHp) (a b : List (List Nat)) : g [.tup (strV a), .tup (strV b)] A = .ok (.bl (decide (a = b))) A := by
  have e := h A (.tup (a.map T.str)) (.tup (b.map T.str)) (.tup (strV a)) (.tup (strV b)) (by rw [Rep]; exact ⟨_, rfl, reps_strV A a⟩) (by rw [Rep]; exact ⟨_, rfl, reps_strV A b⟩) (by rw [noB]; exact noBs_strV b) (by rw [dep, deps_strV]; omega)
  rw [e, sameT, sameL_strV]
theorem same_all (k n : Nat) : SameS n (R (k + n + 1) 12) := by
  induction n with
  | zero => exact same_ok (R k) 0 fun m e => by omega
  | succ n ih =>
    exact same_ok (R (k + n + 1)) (n + 1) fun m e => by
      have e2 : m = n := by omega
      subst e2
      exact ih
end Law
end
section
namespace Law
open PySem PySem.Spec L2 Ev
set_option autoImplicit false
def Ps (ws : List (List Nat)) : Prop := ∀ w ∈ ws, nameB w = true
theorem Ps.take {ws : List (List Nat)} (h : Ps ws) (n : Nat) : Ps (ws.take n) := fun w hw => h w (List.mem_of_mem_take hw)
theorem Ps.drop {ws : List (List Nat)} (h : Ps ws) (n : Nat) : Ps (ws.drop n) := fun w hw => h w (List.mem_of_mem_drop hw)
theorem Ps.app {ws vs : List (List Nat)} (h : Ps ws) (k : Ps vs) : Ps (ws ++ vs) := fun w hw => (List.mem_append.mp hw).elim (h w) (k w)
theorem Ps.cons {w : List Nat} {vs : List (List Nat)} (h : nameB w = true) (k : Ps vs) : Ps (w :: vs) := fun x hx => by
  rcases List.mem_cons.mp hx with z | z
  · rw [z]; exact h
  · exact k x z
theorem Ps.nil : Ps [] := fun w hw => by simp at hw
def startsF (a b : List (List Nat)) : Bool := decide (a.take b.length = b)
def benF (a b : List (List Nat)) : Bool := decide (b.length < a.length) && startsF a b
def movF (a o n : List (List Nat)) : List (List Nat) := if startsF a o = true then n ++ a.drop o.length else a
theorem parent_ok (r : Rt) (A : AHp) (ws : List (List Nat)) : runBody (f15_0 r) 1 [.tup (strV ws)] A = .ok (.tup (strV ws.dropLast)) A := by
  have hc : cutA (strV ws) none (some (-1)) = strV ws.dropLast := by
    unfold cutA HT.sIx
    dsimp only
    rw [if_pos (by omega), strV_length]
    have e : ((-1 : Int) + (ws.length : Int)).toNat = ws.length - 1 := by omega
    rw [e, Nat.sub_zero, List.drop_zero, strV_take, List.dropLast_eq_take]
  simp [runBody_eq, f15_0, hc]
theorem ben_ok (r : Rt) (A : AHp) {a b : List (List Nat)} (ha : okSs a) (hb : okSs b) : runBody (f16_0 r) 2 [.tup (strV a), .tup (strV b)] A = .ok (.bl (benF a b)) A := by
  have hq := eq_tup A (a := a.take b.length) (b := b) (fun w hw => ha w (List.mem_of_mem_take hw)) hb
  simp (disch := first | omega | decide | (simp; done) | (simp; omega)) [runBody_eq, f16_0, hq, benF, startsF]
  by_cases h : b.length < a.length <;> simp [h]
theorem starts_ok (r : Rt) (A : AHp) {a b : List (List Nat)} (ha : okSs a) (hb : okSs b) : ∃ B, runBody (f19_0 r) 2 [.tup (strV a), .tup (strV b)] A = .ok (.bl (startsF a b)) (A ++ B) := by
  have hq := eq_lst (A := A ++ [.lst (strV a) false, .lst (strV (a.take b.length)) false, .lst (strV b) false]) (n := A.length + 1) (m := A.length + 2) (a := a.take b.length) (b := b) (by simp) (by simp) (fun w hw => ha w (List.mem_of_mem_take hw)) hb
  simp (disch := first | omega | decide | (simp; done) | (simp; omega)) [runBody_eq, f19_0, hq, startsF]
theorem startsF_or (a o : List (List Nat)) : (a = o ∨ benF a o = true) ↔ startsF a o = true := by
  unfold benF startsF
  simp
  constructor
  · rintro (h | h)
    · subst h; simp
    · exact h.2
  · intro h
    by_cases hl : o.length < a.length
    · exact .inr ⟨hl, h⟩
    · left
      rw [List.take_of_length_le (by omega)] at h
      exact h
theorem mov_ok (r : Rt) (hb : ∀ (A : AHp) (a b : List (List Nat)), okSs a → okSs b → r 16 [.tup (strV a), .tup (strV b)] A = .ok (.bl (benF a b)) A) (A : AHp) {a o n : List (List Nat)} (ha : okSs a) (ho : okSs o) (hl : n.length + a.length ≤ 16777216) :
    runBody (f17_0 r) 3 [.tup (strV a), .tup (strV o), .tup (strV n)] A = .ok (.tup (strV (movF a o n))) A := by
  have h1 := eq_tup A ha ho
  have h2 := hb A a o ha ho
  have h3 := startsF_or a o
  unfold movF
  by_cases h : a = o
  · subst h
    have e : startsF a a = true := h3.mp (.inl rfl)
    simp (disch := first | omega | decide | (simp; done) | (simp; omega)) [runBody_eq, f17_0, h1, e]
  · cases hq : benF a o with
    | true =>
      have e : startsF a o = true := h3.mp (.inr hq)
      simp (disch := first | omega | decide | (simp; done) | (simp; omega)) [runBody_eq, f17_0, h1, h2, hq, h, e]
    | false =>
      have e : ¬ startsF a o = true := fun z => (h3.mpr z).elim h (by rw [hq]; decide)
      simp (disch := first | omega | decide | (simp; done) | (simp; omega)) [runBody_eq, f17_0, h1, h2, hq, h, e]
def NearS (g : List AV → M AV) : Prop := ∀ (A : AHp) (n c : Nat) (t : Int) (ws : List (List Nat)), Drw A n c t → t < 800000000 → Ps ws → ws.length ≤ 8 → ∃ vs A', g [.ref n, .tup (strV ws)] A = .ok (.tup (strV vs)) A' ∧ Ps vs ∧ vs.length ≤ 8 ∧ Drw A' n c (t + 200) ∧ Fr [n] A A'
theorem near_ok (r : Rt) (hp : PickS (r 2)) (hn : NameS (r 10)) (hpath : PathS (r 11)) : NearS (runBody (f18_0 r) 4) := by
  intro A n c t ws h ht hP h8
  obtain ⟨m, A1, e1, h10, h11, h12, h13⟩ := hp A n c t 5 h (by omega) (by omega) (by omega)
  obtain ⟨k, A2, e2, h20, h21, h22, h23⟩ := hp A1 n c (t + 1) (ws.length + 1) h12 (by omega) (by omega) (by omega)
  have hF := h13.trans h23
  have last : ∃ vs A', r 11 [.ref n] A2 = .ok (.tup (strV vs)) A' ∧ Ps vs ∧ vs.length ≤ 8 ∧ Drw A' n c (t + 200) ∧ Fr [n] A A' := by
    obtain ⟨vs, A3, q1, q2, q3, q4, q5⟩ := hpath A2 n c _ h22 (by omega)
    exact ⟨vs, A3, q1, q2, q3, q4.mono (by omega), hF.trans q5⟩
  obtain ⟨w, A3, e3, h30, h31, h32⟩ := hn A2 n c _ h22 (by omega)
  have hd2 : Drw A2 n c (t + 200) := h22.mono (by omega)
  have hd3 : Drw A3 n c (t + 200) := h31.mono (by omega)
  by_cases w0 : m = 0
  · subst w0
    simp (disch := first | omega | decide | (simp; done) | (simp; omega)) [runBody_eq, f18_0, e1, e2]
    exact ⟨_, _, ⟨rfl, rfl⟩, hP.take _, by simp; omega, hd2, hF⟩
  · by_cases w1 : m = 1
    · subst w1
      by_cases hl : ws.length < 8
      · have hl2 : (ws.length : Int) < 8 := by omega
        simp (disch := first | omega | decide | (simp; done) | (simp; omega)) [runBody_eq, f18_0, e1, e2, e3, hl, hl2]
        exact ⟨_, _, ⟨rfl, rfl⟩, hP.app (Ps.cons h30 Ps.nil), by simp; omega, hd3, hF.trans h32⟩
      · have hl2 : ¬ (ws.length : Int) < 8 := by omega
        obtain ⟨vs, A4, q1, q2⟩ := last
        simp (disch := first | omega | decide | (simp; done) | (simp; omega)) [runBody_eq, f18_0, e1, e2, q1, hl, hl2]
        exact ⟨_, _, ⟨rfl, rfl⟩, q2⟩
    · by_cases w2 : m = 2
      · subst w2
        by_cases hl : k < ws.length
        · simp (disch := first | omega | decide | (simp; done) | (simp; omega)) [runBody_eq, f18_0, e1, e2, e3, hl]
          exact ⟨_, _, ⟨rfl, rfl⟩, (hP.take _).app (Ps.cons h30 (hP.drop _)), by simp; omega, hd3, hF.trans h32⟩
        · obtain ⟨vs, A4, q1, q2⟩ := last
          simp (disch := first | omega | decide | (simp; done) | (simp; omega)) [runBody_eq, f18_0, e1, e2, q1, hl]
          exact ⟨_, _, ⟨rfl, rfl⟩, q2⟩
      · by_cases w3 : m = 3
        · subst w3
          simp (disch := first | omega | decide | (simp; done) | (simp; omega)) [runBody_eq, f18_0, e1, e2]
          exact ⟨_, _, ⟨rfl, rfl⟩, hP, h8, hd2, hF⟩
        · obtain ⟨vs, A4, q1, q2⟩ := last
          simp (disch := first | omega | decide | (simp; done) | (simp; omega)) [runBody_eq, f18_0, e1, e2, q1, w0, w1, w2, w3]
          exact ⟨_, _, ⟨rfl, rfl⟩, q2⟩
end Law
end
section
namespace Law
open PySem PySem.Spec L2 Ev
set_option autoImplicit false
structure AllS (r : Rt) : Prop where
  pick : PickS (r 2)
  path : PathS (r 11)
  near : NearS (r 18)
  drawn : ∀ (ns : List Int) (A : AHp), ns.length ≤ 63 → ∃ A' n c, r 1 [scriptV ns] A = .ok (.ref n) A' ∧ Drw A' n c 0 ∧ A.length ≤ n ∧ A.length ≤ c ∧ Fr [] A A'
  parent : ∀ (A : AHp) (ws : List (List Nat)), r 15 [.tup (strV ws)] A = .ok (.tup (strV ws.dropLast)) A
  ben : ∀ (A : AHp) (a b : List (List Nat)), okSs a → okSs b → r 16 [.tup (strV a), .tup (strV b)] A = .ok (.bl (benF a b)) A
  starts : ∀ (A : AHp) (a b : List (List Nat)), okSs a → okSs b → ∃ B, r 19 [.tup (strV a), .tup (strV b)] A = .ok (.bl (startsF a b)) (A ++ B)
  mov : ∀ (A : AHp) (a o n : List (List Nat)), okSs a → okSs o → n.length + a.length ≤ 16777216 → r 17 [.tup (strV a), .tup (strV o), .tup (strV n)] A = .ok (.tup (strV (movF a o n))) A
  same : SameS 1 (r 12)
theorem mov_back {a o n : List (List Nat)} (h : startsF a o = true) : movF (n ++ a.drop o.length) n o = a := by
  have e : startsF (n ++ a.drop o.length) n = true := by simp [startsF]
  unfold movF
  rw [if_pos e]
  unfold startsF at h
  simp at h ⊢
  calc o ++ a.drop o.length = a.take o.length ++ a.drop o.length := by rw [h]
    _ = a := List.take_append_drop _ _
theorem range_strV (ws : List (List Nat)) (m : Nat) (hm : m ≤ ws.length) : (List.range m).map (fun i => AV.str (S (ws[i]?.getD []))) = strV (ws.take m) := by
  refine List.ext_getElem? fun i => ?_
  unfold strV
  rw [List.getElem?_map, List.getElem?_map, List.getElem?_take]
  by_cases h : i < m
  · have h2 : i < ws.length := by omega
    simp [h, h2]
  · simp [h]
def bodyL (r : Rt) : SDen := sSeq (sAsg (dCall 1 (r 11) (dCons (dVar 1) dNil)) (gNm 3)) (sSeq (sAsg (dCall 2 (r 18) (dCons (dVar 1) (dCons (dVar 3) dNil))) (gNm 4)) (sSeq (sAsg (dCall 2 (r 18) (dCons (dVar 1) (dCons (dBin pIx (dLst (dCons (dVar 3) (dCons (dVar 4) dNil))) (dCall 2 (r 2) (dCons (dVar 1) (dCons (dC (.int 2)) dNil)))) dNil))) (gNm 5)) (sSeq (sAsg (dCB fTuple (dCons (dLc (iR1 (dCons (dBin pSub (dCB fLen (dCons (dVar 3) dNil)) (dC (.int 1))) dNil)) (gNm 7) dYes (dBin pIx (dVar 3) (dVar 7)) [7]) dNil)) (gNm 6)) (sSeq (sIf (dNotT (dTru (dCall 2 (r 12) (dCons (dCall 1 (r 15) (dCons (dVar 3) dNil)) (dCons (dVar 6) dNil))))) (sRet (dC (.bl false))) sNil) (sSeq (sAsg (dCall 2 (r 16) (dCons (dVar 3) (dCons (dVar 4) dNil))) (gNm 8)) (sSeq (sIf (dOrT (dNotT (dTru (dCB (fIsi tSub tSubB tBsub) (dCons (dVar 8) (dCons (dC (.ty "bool")) dNil))))) (dTB (dBin pNe (dVar 8) (dAndV (dCall 2 (r 19) (dCons (dVar 3) (dCons (dVar 4) dNil))) (dBin pLt (dCB fLen (dCons (dVar 4) dNil)) (dCB fLen (dCons (dVar 3) dNil))))))) (sRet (dC (.bl false))) sNil) (sSeq (sAsg (dVar 3) (gNm 6)) (sSeq (sIf (dTru (dCall 2 (r 19) (dCons (dVar 3) (dCons (dVar 4) dNil)))) (sAsg (dCB fTuple (dCons (dBin pAdd (dCB fList (dCons (dVar 5) dNil)) (dSl (dCB fList (dCons (dVar 3) dNil)) (dPart (dCB fLen (dCons (dVar 4) dNil))) dNoPart)) dNil)) (gNm 6)) sNil) (sSeq (sIf (dNotT (dTru (dCall 2 (r 12) (dCons (dCall 3 (r 17) (dCons (dVar 3) (dCons (dVar 4) (dCons (dVar 5) dNil)))) (dCons (dVar 6) dNil))))) (sRet (dC (.bl false))) sNil) (sIf (dAndT (dTru (dCall 2 (r 19) (dCons (dVar 3) (dCons (dVar 4) dNil)))) (dNotT (dTru (dCall 2 (r 12) (dCons (dCall 3 (r 17) (dCons (dVar 6) (dCons (dVar 5) (dCons (dVar 4) dNil)))) (dCons (dVar 3) dNil)))))) (sRet (dC (.bl false))) sNil))))))))))
theorem body_ok {r : Rt} (h : AllS r) {B : AHp} {n c : Nat} {t : Int} (hI : Drw B n c t) (ht : t < 100000000) (s k a1 a2 a3 a4 a5 a6 : Option AV) :
    ∃ x1 x2 x3 x4 x5 x6 A', bodyL r [s, some (.ref n), k, a1, a2, a3, a4, a5, a6] B = .nx [s, some (.ref n), k, x1, x2, x3, x4, x5, x6] A' ∧ Drw A' n c (t + 1000) := by
  unfold bodyL
  obtain ⟨ws, B1, p1, p2, p3, p4, p5⟩ := h.path B n c t hI (by omega)
  obtain ⟨o, B2, q1, q2, q3, q4, q5⟩ := h.near B1 n c _ ws p4 (by omega) p2 p3
  obtain ⟨i, B3, s1, s2, s3, s4, s5⟩ := h.pick (B2 ++ [.lst [.tup (strV ws), .tup (strV o)] false]) n c _ 2 (q4.app _) (by omega) (by omega) (by omega)
  have hn2 := q4.nc
  have s6 : gt B3 B2.length = some (.lst [.tup (strV ws), .tup (strV o)] false) := s5.gt (by simp) (by simp; omega)
  have hy : ∃ y, atI [AV.tup (strV ws), .tup (strV o)] i = some (.tup (strV y)) ∧ Ps y ∧ y.length ≤ 8 := by
    have hi : i = 0 ∨ i = 1 := by omega
    rcases hi with rfl | rfl
    · exact ⟨ws, by simp, p2, p3⟩
    · exact ⟨o, by simp, q2, q3⟩
  obtain ⟨y, y1, y2, y3⟩ := hy
  obtain ⟨nw, B4, t1, t2, t3, t4, t5⟩ := h.near B3 n c _ y s4 (by omega) y2 y3
  have hm : ((ws.length : Int) - 1).toNat = ws.length - 1 := by omega
  have hc := comp_pure (g := gNm 7) (t := dYes) (e := dBin pIx (dVar 3) (dVar 7)) (τ := [s, some (.ref n), k, some (.tup (strV ws)), some (.tup (strV o)), some (.tup (strV nw)), a4, none, a6]) (l := List.range (ws.length - 1)) (src := srcR 0 (ws.length - 1)) (fun i => .int (0 + i)) (fun i => .str (S (ws[i]?.getD []))) (A := B4) (by simp; omega) (fun acc i => by rw [src_R]; rfl) (fun acc j hj => by
    have hj2 : j < ws.length - 1 := by simpa using hj
    have hg : ws[j]? = some ws[j] := List.getElem?_eq_getElem (by omega)
    have ha := strV_at hg
    refine ⟨_, rfl, rfl, ?_⟩
    simp [ha, hg])
  rw [List.length_range, range_strV ws (ws.length - 1) (by omega), ← List.dropLast_eq_take] at hc
  have oW := okSs_name p2
  have oO := okSs_name q2
  have oN := okSs_name t2
  have e1 := fun A => same_tup (n := 0) h.same A
  have e2 := fun A => h.parent A ws
  have e3 := fun A => h.ben A ws o oW oO
  obtain ⟨gS, e4, hG⟩ : ∃ gS : AHp → AHp, (∀ A, r 19 [.tup (strV ws), .tup (strV o)] A = .ok (.bl (startsF ws o)) (gS A)) ∧ ∀ A, Fr [] A (gS A) := ⟨fun A => A ++ Classical.choose (h.starts A ws o oW oO), fun A => Classical.choose_spec (h.starts A ws o oW oO), fun A => Fr.app _ _ _⟩
  have e5 := fun A => h.mov A ws o nw oW oO (by omega)
  have e6 := fun A (hk : startsF ws o = true) => h.mov A (nw ++ ws.drop o.length) nw o (okSs_name (t2.app (Ps.drop p2 _))) oN (by simp; omega)
  have hd : ∀ G, Drw (B4 ++ G) n c (t + 1000) := fun G => (t4.app G).mono (by omega)
  have hg : ∀ G, Drw G n c (t + 1000) → Drw (gS G) n c (t + 1000) := fun G z => z.fr (hG G) (by simp) (by simp)
  have hben : benF ws o = (decide (o.length < ws.length) && startsF ws o) := rfl
  cases hs : startsF ws o with
  | false =>
    have hb : benF ws o = false := by rw [hben, hs, Bool.and_false]
    have hmv : movF ws o nw = ws := by unfold movF; rw [hs]; rfl
    rw [hs] at e4
    rw [hb] at e3
    rw [hmv] at e5
    simp (disch := first | omega | decide | (simp; done) | (simp; omega)) [p1, q1, s1, s6, y1, t1, hm, hc, e1, e2, e3, e4, e5]
    exact ⟨_, _, _, _, _, _, _, ⟨⟨rfl, rfl, rfl, rfl, rfl, rfl⟩, rfl⟩, hg _ (hg _ (hg _ (hd _)))⟩
  | true =>
    have hmv : movF ws o nw = nw ++ ws.drop o.length := by unfold movF; rw [hs]; rfl
    have hbk := fun A => (e6 A hs).trans (congrArg (fun z => Res.ok (AV.tup (strV z)) A) (mov_back (n := nw) hs))
    rw [hs] at e4
    rw [hmv] at e5
    rw [hben, hs, Bool.and_true] at e3
    simp (disch := first | omega | decide | (simp; done) | (simp; omega)) [p1, q1, s1, s6, y1, t1, hm, hc, e1, e2, e3, e4, e5, hbk, Nat.add_assoc]
    exact ⟨_, _, _, _, _, _, _, ⟨⟨rfl, rfl, rfl, rfl, rfl, rfl⟩, rfl⟩, hg _ ((hg _ (hg _ (hd _))).app _)⟩
theorem law_ok (r : Rt) (h : AllS r) (ns : List Int) (hl : ns.length ≤ 63) : ∃ A', runBody (f7_3 r) 9 [scriptV ns] [] = .ok (.bl true) A' := by
  obtain ⟨A1, n, c, e1, h1, _, _, _⟩ := h.drawn ns [] hl
  have hlen : ∀ A, fLen [scriptV ns] A = some (.int ns.length, A) := fun A => by simp [scriptV]
  have hf : f7_3 r = sSeq (sAsg (dCall 1 (r 1) (dCons (dVar 0) dNil)) (gNm 1)) (sSeq (sFor (iR1 (dCons (dBin pAdd (dCB fLen (dCons (dVar 0) dNil)) (dC (.int 1))) dNil)) (gNm 2) (bodyL r)) (sRet (dC (.bl true)))) := rfl
  have lr := loop_run (src := srcR 0 (ns.length + 1)) (g := gNm 2) (body := bodyL r) (rngL 0 (ns.length + 1)) (fun i τ B => Drw B n c (1000 * i) ∧ ∃ k a1 a2 a3 a4 a5 a6, τ = [some (scriptV ns), some (.ref n), k, a1, a2, a3, a4, a5, a6]) (fun q => ∃ σ A', q = .nx σ A') (fun i τ B hi ⟨hI, k, a1, a2, a3, a4, a5, a6, hτ⟩ => by
      refine ⟨src_R _ _ _ _, fun x hx => ?_⟩
      obtain ⟨rfl, hi2⟩ := rngL_get hx
      subst hτ
      obtain ⟨x1, x2, x3, x4, x5, x6, A', e, hd⟩ := body_ok h hI (by omega) (some (scriptV ns)) (some (.int (0 + i))) a1 a2 a3 a4 a5 a6
      refine ⟨_, rfl, ?_⟩
      have e2 : bodyL r ([some (scriptV ns), some (.ref n), k, a1, a2, a3, a4, a5, a6].set 2 (some (.int (0 + i)))) B = _ := e
      rw [e2]
      exact ⟨hd.mono (by omega), _, _, _, _, _, _, _, rfl⟩) (fun τ B _ => ⟨τ, B, rfl⟩) (A0 := A1) (τ := [some (scriptV ns), some (.ref n), none, none, none, none, none, none, none]) ⟨h1.mono (by omega), _, _, _, _, _, _, _, rfl⟩
  obtain ⟨σ, A', e⟩ := lr
  rw [rngL_length] at e
  simp (disch := omega) [runBody_eq, hf, e1, hlen, e]
theorem all_s (k : Nat) : AllS (R (k + 5)) := by
  have p1 : ∀ k, PickS (R (k + 1) 2) := fun k => pick_ok (R k)
  have p2 : ∀ k, NameS (R (k + 2) 10) := fun k => name_ok (R (k + 1)) (p1 k)
  have p3 : ∀ k, PathS (R (k + 3) 11) := fun k => path_ok (R (k + 2)) (p1 (k + 1)) (p2 k)
  exact ⟨p1 (k + 4), p3 (k + 2), near_ok (R (k + 4)) (p1 (k + 3)) (p2 (k + 2)) (p3 (k + 1)), fun ns A hl => drawn_ok (R (k + 4)) ns hl A, fun A ws => parent_ok (R (k + 4)) A ws, fun A a b ha hb => ben_ok (R (k + 4)) A ha hb, fun A a b ha hb => starts_ok (R (k + 4)) A ha hb, fun A a o n ha ho hl => mov_ok (R (k + 4)) (fun A a b ha hb => ben_ok (R (k + 3)) A ha hb) A ha ho hl, same_all (k + 3) 1⟩
theorem htrue (ns : List Int) (hl : ns.length ≤ 63) : ∃ A', R 12 7 [scriptV ns] [] = .ok (.bl true) A' := law_ok (R 11) (all_s 6) ns hl
end Law
end
section
namespace Law
open PySem PySem.Spec L2 Ev
set_option autoImplicit false
def top (i : Nat) : Stmt := PySem.Challenge.pw_overfold_k04_parents_and_beginnings.main.body.getD i (.Pass ⟨0, 0, 0, 0⟩)
abbrev s0 : Stmt := top 1
abbrev s1 : Stmt := top 2
abbrev s2 : Stmt := top 3
abbrev s3 : Stmt := top 5
abbrev s4 : Stmt := top 6
abbrev s5 : Stmt := top 7
abbrev s6 : Stmt := top 8
abbrev s7 : Stmt := top 9
abbrev s8 : Stmt := top 10
abbrev s9 : Stmt := top 11
abbrev s10 : Stmt := top 12
def nms : List (String × Nat) := [("parent_of", 1), ("is_beneath", 2), ("moved_path", 3), ("_law_drawn", 1), ("_law_pick", 2), ("_law_name", 1), ("_law_path", 1), ("_law_same", 2), ("_law_near", 2), ("_law_starts", 2), ("law", 1)]
def fids : List Nat := [15, 16, 17, 1, 2, 10, 11, 12, 18, 19, 7]
def frees : List String := ["bool", "int", "isinstance", "len", "list", "range", "str", "tuple", "zip"]
def intsL : List (String × Int) := []
def strsL : List (String × String) := []
section
variable {E : En} {P : Program} {w : World} {K : PySem.W.Frag} {mg : Str → Option Value} {base : Heap} {k : Nat} {r : Rt} {fad : Nat → Addr}
theorem sc0 : FnScope ["path"] ["path"] (defScope s0) := ⟨rfl, rfl, rfl, by decide +kernel, rfl, by decide +kernel, by decide +kernel⟩
theorem w0 (T : TT E P w K mg base k r nms fids fad frees intsL strsL) (hE : tSub = E.sub ∧ tSubB = E.subB ∧ tBsub = E.bsub) (cdv : Value) (A : Around) (outer : List Env) (s : Shared) (H : Hp) (Ex : XK) {f : Addr} (c : Ctx E k (cxD P w K mg base ["path"] "parent_of" (defScope s0) f cdv A outer s H Ex) (WD Ex)) :
    SSs E (cxD P w K mg base ["path"] "parent_of" (defScope s0) f cdv A outer s H Ex) (WD Ex) (defBody s0) (f15_0 r) := by
  have S := sc0
  unfold f15_0
  obtain ⟨e1, e2, e3⟩ := hE
  try rw [e1, e2, e3]
  exact (sss_one (ss_ret (se_sl c.hK (se_var (i := 0) rfl (vis_of rfl) rfl rfl) so_none (so_some (se_neg se_int)))))
theorem sc1 : FnScope ["path", "other"] ["path", "other"] (defScope s1) := ⟨rfl, rfl, rfl, by decide +kernel, rfl, by decide +kernel, by decide +kernel⟩
theorem w1 (T : TT E P w K mg base k r nms fids fad frees intsL strsL) (hE : tSub = E.sub ∧ tSubB = E.subB ∧ tBsub = E.bsub) (cdv : Value) (A : Around) (outer : List Env) (s : Shared) (H : Hp) (Ex : XK) {f : Addr} (c : Ctx E k (cxD P w K mg base ["path", "other"] "is_beneath" (defScope s1) f cdv A outer s H Ex) (WD Ex)) :
    SSs E (cxD P w K mg base ["path", "other"] "is_beneath" (defScope s1) f cdv A outer s H Ex) (WD Ex) (defBody s1) (f16_0 r) := by
  have S := sc1
  unfold f16_0
  obtain ⟨e1, e2, e3⟩ := hE
  try rw [e1, e2, e3]
  exact (sss_one (ss_ret (se_and c (se_cmp os_gt (se_callB (cs_len c) rfl (T.fr "len" rfl) PySem.boot_len (sa_cons (se_var (i := 0) rfl (vis_of rfl) rfl rfl) sa_nil rfl) (by decide) rfl rfl rfl) (se_callB (cs_len c) rfl (T.fr "len" rfl) PySem.boot_len (sa_cons (se_var (i := 1) rfl (vis_of rfl) rfl rfl) sa_nil rfl) (by decide) rfl rfl rfl) (nobehind _ (by decide) (by decide))) (se_one (se_cmp (os_eq c.hK c.hu) (se_sl c.hK (se_var (i := 0) rfl (vis_of rfl) rfl rfl) so_none (so_some (se_callB (cs_len c) rfl (T.fr "len" rfl) PySem.boot_len (sa_cons (se_var (i := 1) rfl (vis_of rfl) rfl rfl) sa_nil rfl) (by decide) rfl rfl rfl))) (se_var (i := 1) rfl (vis_of rfl) rfl rfl) (nobehind _ (by decide) (by decide)))))))
theorem sc2 : FnScope ["path", "old", "new"] ["path", "old", "new"] (defScope s2) := ⟨rfl, rfl, rfl, by decide +kernel, rfl, by decide +kernel, by decide +kernel⟩
theorem w2 (T : TT E P w K mg base k r nms fids fad frees intsL strsL) (hE : tSub = E.sub ∧ tSubB = E.subB ∧ tBsub = E.bsub) (cdv : Value) (A : Around) (outer : List Env) (s : Shared) (H : Hp) (Ex : XK) {f : Addr} (c : Ctx E k (cxD P w K mg base ["path", "old", "new"] "moved_path" (defScope s2) f cdv A outer s H Ex) (WD Ex)) :
    SSs E (cxD P w K mg base ["path", "old", "new"] "moved_path" (defScope s2) f cdv A outer s H Ex) (WD Ex) (defBody s2) (f17_0 r) := by
  have S := sc2
  unfold f17_0
  obtain ⟨e1, e2, e3⟩ := hE
  try rw [e1, e2, e3]
  exact (sss_cons (ss_if (st_w (sw_or (st_cmp (os_eq c.hK c.hu) (se_var (i := 0) rfl (vis_of rfl) rfl rfl) (se_var (i := 1) rfl (vis_of rfl) rfl rfl) (nobehind _ (by decide) (by decide))) (sw_or1 (st_tru c (se_call c (T.fn 1 (by decide)) rfl (T.gf 1 "is_beneath" rfl (by decide)) (sa_cons (se_var (i := 0) rfl (vis_of rfl) rfl rfl) (sa_cons (se_var (i := 1) rfl (vis_of rfl) rfl rfl) sa_nil rfl) rfl) rfl rfl rfl) (fun _ => rfl))))) (sss_one (ss_ret (se_bin (os_add c.hK) (se_var (i := 2) rfl (vis_of rfl) rfl rfl) (se_sl c.hK (se_var (i := 0) rfl (vis_of rfl) rfl rfl) (so_some (se_callB (cs_len c) rfl (T.fr "len" rfl) PySem.boot_len (sa_cons (se_var (i := 1) rfl (vis_of rfl) rfl rfl) sa_nil rfl) (by decide) rfl rfl rfl)) so_none)))) sss_nil) (sss_one (ss_ret (se_var (i := 0) rfl (vis_of rfl) rfl rfl))))
theorem sc3 : FnScope ["_law_script"] ["_law_script"] (defScope s3) := ⟨rfl, rfl, rfl, by decide +kernel, rfl, by decide +kernel, by decide +kernel⟩
theorem w3 (T : TT E P w K mg base k r nms fids fad frees intsL strsL) (hE : tSub = E.sub ∧ tSubB = E.subB ∧ tBsub = E.bsub) (cdv : Value) (A : Around) (outer : List Env) (s : Shared) (H : Hp) (Ex : XK) {f : Addr} (c : Ctx E k (cxD P w K mg base ["_law_script"] "_law_drawn" (defScope s3) f cdv A outer s H Ex) (WD Ex)) :
    SSs E (cxD P w K mg base ["_law_script"] "_law_drawn" (defScope s3) f cdv A outer s H Ex) (WD Ex) (defBody s3) (f1_0 r) := by
  have S := sc3
  unfold f1_0
  obtain ⟨e1, e2, e3⟩ := hE
  try rw [e1, e2, e3]
  exact (sss_one (ss_ret (se_dict (sp_cons (se_strL (by kernel_rfl)) (se_bin (os_add c.hK) (se_callT (cs_list c) rfl (T.fr "list" rfl) (by decide +kernel) (sa_cons (se_var (i := 0) rfl (vis_of rfl) rfl rfl) sa_nil rfl) (by decide) rfl rfl rfl) (se_bin os_mul (se_lst (sa_cons se_int sa_nil rfl)) (se_callT cs_int rfl (T.fr "int" rfl) (by decide +kernel) (sa_cons (se_cmp (os_eq c.hK c.hu) (se_callB (cs_len c) rfl (T.fr "len" rfl) PySem.boot_len (sa_cons (se_var (i := 0) rfl (vis_of rfl) rfl rfl) sa_nil rfl) (by decide) rfl rfl rfl) se_int (nobehind _ (by decide) (by decide))) sa_nil rfl) (by decide) rfl rfl rfl))) (sp_cons (se_strL (by kernel_rfl)) se_int (sp_cons (se_strL (by kernel_rfl)) se_int sp_nil))) rfl rfl (by intro z; cases z) (by decide))))
theorem sc4 : FnScope ["_law_draw", "_law_many", "_law_found", "_law_at", "_law_cell", "_law_m"] ["_law_draw", "_law_many"] (defScope s4) := ⟨rfl, rfl, rfl, by decide +kernel, rfl, by decide +kernel, by decide +kernel⟩
theorem w4 (T : TT E P w K mg base k r nms fids fad frees intsL strsL) (hE : tSub = E.sub ∧ tSubB = E.subB ∧ tBsub = E.bsub) (cdv : Value) (A : Around) (outer : List Env) (s : Shared) (H : Hp) (Ex : XK) {f : Addr} (c : Ctx E k (cxD P w K mg base ["_law_draw", "_law_many", "_law_found", "_law_at", "_law_cell", "_law_m"] "_law_pick" (defScope s4) f cdv A outer s H Ex) (WD Ex)) :
    SSs E (cxD P w K mg base ["_law_draw", "_law_many", "_law_found", "_law_at", "_law_cell", "_law_m"] "_law_pick" (defScope s4) f cdv A outer s H Ex) (WD Ex) (defBody s4) (f2_0 r) := by
  have S := sc4
  unfold f2_0
  obtain ⟨e1, e2, e3⟩ := hE
  try rw [e1, e2, e3]
  exact (sss_cons (ss_if (st_cmp os_gt (se_ix (ix_all c) (se_var (i := 0) rfl (vis_of rfl) rfl rfl) (se_strL (by kernel_rfl)) (fun _ _ => rfl)) se_int (nobehind _ (by decide) (by decide))) (sss_cons (ss_set (i := 2) S.nd rfl (loc_of rfl) (se_bin os_mod (se_ix (ix_all c) (se_var (i := 0) rfl (vis_of rfl) rfl rfl) (se_strL (by kernel_rfl)) (fun _ _ => rfl)) (se_var (i := 1) rfl (vis_of rfl) rfl rfl)) rfl (.inl rfl)) (sss_cons (ss_sput (ss_put c) (se_bin os_fdiv (se_ix (ix_all c) (se_var (i := 0) rfl (vis_of rfl) rfl rfl) (se_strL (by kernel_rfl)) (fun _ _ => rfl)) (se_var (i := 1) rfl (vis_of rfl) rfl rfl)) (se_var (i := 0) rfl (vis_of rfl) rfl rfl) (se_strL (by kernel_rfl)) (fun _ => rfl) rfl rfl rfl) (sss_one (ss_ret (se_var (i := 2) rfl (vis_of rfl) rfl rfl))))) sss_nil) (sss_cons (ss_set (i := 3) S.nd rfl (loc_of rfl) (se_ix (ix_all c) (se_var (i := 0) rfl (vis_of rfl) rfl rfl) (se_strL (by kernel_rfl)) (fun _ _ => rfl)) rfl (.inl rfl)) (sss_cons (ss_set (i := 4) S.nd rfl (loc_of rfl) (se_ix (ix_all c) (se_ix (ix_all c) (se_var (i := 0) rfl (vis_of rfl) rfl rfl) (se_strL (by kernel_rfl)) (fun _ _ => rfl)) (se_bin os_mod (se_var (i := 3) rfl (vis_of rfl) rfl rfl) (se_callB (cs_len c) rfl (T.fr "len" rfl) PySem.boot_len (sa_cons (se_ix (ix_all c) (se_var (i := 0) rfl (vis_of rfl) rfl rfl) (se_strL (by kernel_rfl)) (fun _ _ => rfl)) sa_nil rfl) (by decide) rfl rfl rfl)) (fun _ _ => rfl)) rfl (.inl rfl)) (sss_cons (ss_sput (ss_put c) (se_bin (os_add c.hK) (se_var (i := 3) rfl (vis_of rfl) rfl rfl) se_int) (se_var (i := 0) rfl (vis_of rfl) rfl rfl) (se_strL (by kernel_rfl)) (fun _ => rfl) rfl rfl rfl) (sss_cons (ss_if (st_w (sw_and (st_cmp os_lt (se_var (i := 3) rfl (vis_of rfl) rfl rfl) (se_callB (cs_len c) rfl (T.fr "len" rfl) PySem.boot_len (sa_cons (se_ix (ix_all c) (se_var (i := 0) rfl (vis_of rfl) rfl rfl) (se_strL (by kernel_rfl)) (fun _ _ => rfl)) sa_nil rfl) (by decide) rfl rfl rfl) (nobehind _ (by decide) (by decide))) (sw_and1 (st_cmp os_ge (se_var (i := 4) rfl (vis_of rfl) rfl rfl) (se_bin os_pow se_int se_int) (nobehind _ (by decide) (by decide)))))) (sss_cons (ss_sput (ss_put c) (se_bin os_fdiv (se_var (i := 4) rfl (vis_of rfl) rfl rfl) (se_var (i := 1) rfl (vis_of rfl) rfl rfl)) (se_var (i := 0) rfl (vis_of rfl) rfl rfl) (se_strL (by kernel_rfl)) (fun _ => rfl) rfl rfl rfl) (sss_one (ss_ret (se_bin os_mod (se_var (i := 4) rfl (vis_of rfl) rfl rfl) (se_var (i := 1) rfl (vis_of rfl) rfl rfl))))) sss_nil) (sss_cons (ss_set (i := 5) S.nd rfl (loc_of rfl) (se_bin os_mod (se_bin os_mul (se_bin (os_add c.hK) (se_bin (os_add c.hK) (se_bin os_mod (se_var (i := 4) rfl (vis_of rfl) rfl rfl) se_int) (se_bin os_mul (se_bin os_mul (se_var (i := 3) rfl (vis_of rfl) rfl rfl) (se_var (i := 3) rfl (vis_of rfl) rfl rfl)) se_int)) se_int) se_int) se_int) rfl (.inl rfl)) (sss_cons (ss_set (i := 5) S.nd rfl (loc_of rfl) (se_bin (os_add c.hK) (se_bin os_mod (se_bin os_mul (se_var (i := 5) rfl (vis_of rfl) rfl rfl) (se_var (i := 5) rfl (vis_of rfl) rfl rfl)) se_int) (se_var (i := 3) rfl (vis_of rfl) rfl rfl)) rfl (.inl rfl)) (sss_one (ss_ret (se_bin os_mod (se_bin os_fdiv (se_bin os_mod (se_bin os_mul (se_var (i := 5) rfl (vis_of rfl) rfl rfl) (se_bin (os_add c.hK) (se_bin os_fdiv (se_var (i := 5) rfl (vis_of rfl) rfl rfl) se_int) se_int)) se_int) se_int) (se_var (i := 1) rfl (vis_of rfl) rfl rfl)))))))))))
theorem sc5 : FnScope ["_law_draw", "_law_way", "_law_k"] ["_law_draw"] (defScope s5) := ⟨rfl, rfl, rfl, by decide +kernel, rfl, by decide +kernel, by decide +kernel⟩
theorem w5 (T : TT E P w K mg base k r nms fids fad frees intsL strsL) (hE : tSub = E.sub ∧ tSubB = E.subB ∧ tBsub = E.bsub) (cdv : Value) (A : Around) (outer : List Env) (s : Shared) (H : Hp) (Ex : XK) {f : Addr} (c : Ctx E k (cxD P w K mg base ["_law_draw", "_law_way", "_law_k"] "_law_name" (defScope s5) f cdv A outer s H Ex) (WD Ex)) :
    SSs E (cxD P w K mg base ["_law_draw", "_law_way", "_law_k"] "_law_name" (defScope s5) f cdv A outer s H Ex) (WD Ex) (defBody s5) (f10_0 r) := by
  have S := sc5
  unfold f10_0
  obtain ⟨e1, e2, e3⟩ := hE
  try rw [e1, e2, e3]
  exact (sss_cons (ss_set (i := 1) S.nd rfl (loc_of rfl) (se_call c (T.fn 4 (by decide)) rfl (T.gf 4 "_law_pick" rfl (by decide)) (sa_cons (se_var (i := 0) rfl (vis_of rfl) rfl rfl) (sa_cons se_int sa_nil rfl) rfl) rfl rfl rfl) rfl (.inl rfl)) (sss_cons (ss_if (st_cmp (os_eq c.hK c.hu) (se_var (i := 1) rfl (vis_of rfl) rfl rfl) se_int (nobehind _ (by decide) (by decide))) (sss_one (ss_ret (se_ix (ix_all c) (se_lst (sa_cons (se_strL (by kernel_rfl)) (sa_cons (se_strL (by kernel_rfl)) (sa_cons (se_strL (by kernel_rfl)) (sa_cons (se_strL (by kernel_rfl)) (sa_cons (se_strL (by kernel_rfl)) (sa_cons (se_strL (by kernel_rfl)) (sa_cons (se_strL (by kernel_rfl)) (sa_cons (se_strL (by kernel_rfl)) (sa_cons (se_strL (by kernel_rfl)) (sa_cons (se_strL (by kernel_rfl)) sa_nil rfl) rfl) rfl) rfl) rfl) rfl) rfl) rfl) rfl) rfl)) (se_call c (T.fn 4 (by decide)) rfl (T.gf 4 "_law_pick" rfl (by decide)) (sa_cons (se_var (i := 0) rfl (vis_of rfl) rfl rfl) (sa_cons se_int sa_nil rfl) rfl) rfl rfl rfl) (fun _ _ => rfl)))) sss_nil) (sss_cons (ss_if (st_cmp (os_eq c.hK c.hu) (se_var (i := 1) rfl (vis_of rfl) rfl rfl) se_int (nobehind _ (by decide) (by decide))) (sss_one (ss_ret (se_bin (os_add c.hK) (se_strL (by kernel_rfl)) (se_ix (ix_all c) (se_strL (by kernel_rfl)) (se_call c (T.fn 4 (by decide)) rfl (T.gf 4 "_law_pick" rfl (by decide)) (sa_cons (se_var (i := 0) rfl (vis_of rfl) rfl rfl) (sa_cons se_int sa_nil rfl) rfl) rfl rfl rfl) (fun _ _ => rfl))))) sss_nil) (sss_cons (ss_if (st_cmp (os_eq c.hK c.hu) (se_var (i := 1) rfl (vis_of rfl) rfl rfl) se_int (nobehind _ (by decide) (by decide))) (sss_one (ss_ret (se_ix (ix_all c) (se_strL (by kernel_rfl)) (se_call c (T.fn 4 (by decide)) rfl (T.gf 4 "_law_pick" rfl (by decide)) (sa_cons (se_var (i := 0) rfl (vis_of rfl) rfl rfl) (sa_cons se_int sa_nil rfl) rfl) rfl rfl rfl) (fun _ _ => rfl)))) sss_nil) (sss_one (ss_ret (se_bm PySem.F.plainAttrs_str PySem.F.slot_str_join PySem.F.type_str_join (ms_join c.hK) (se_strL (by kernel_rfl)) (sa_cons (se_lc (own := [("_law_k", 2)]) c S.nd (si_r1 rfl (T.fr "range" rfl) (sa_cons (se_bin (os_add c.hK) se_int (se_call c (T.fn 4 (by decide)) rfl (T.gf 4 "_law_pick" rfl (by decide)) (sa_cons (se_var (i := 0) rfl (vis_of rfl) rfl rfl) (sa_cons se_int sa_nil rfl) rfl) rfl rfl rfl)) sa_nil rfl) rfl) (blkOk_by (by kernel_rfl)) (fun s H C cl fp c => (sgw_name (i := 2) (by decide) S.nd rfl (loc_of rfl) (.inr rfl))) (fun s H C cl fp c => sts_nil) (fun s H C cl fp c => (se_ix (ix_all c) (se_strL (by kernel_rfl)) (se_call c (T.fn 4 (by decide)) rfl (T.gf 4 "_law_pick" rfl (by decide)) (sa_cons (se_var (i := 0) rfl (vis_of rfl) rfl rfl) (sa_cons se_int sa_nil rfl) rfl) rfl rfl rfl) (fun _ _ => rfl))) (fun _ => rfl)) sa_nil rfl) rfl rfl rfl rfl rfl)))))))
theorem sc6 : FnScope ["_law_draw", "_law_k"] ["_law_draw"] (defScope s6) := ⟨rfl, rfl, rfl, by decide +kernel, rfl, by decide +kernel, by decide +kernel⟩
theorem w6 (T : TT E P w K mg base k r nms fids fad frees intsL strsL) (hE : tSub = E.sub ∧ tSubB = E.subB ∧ tBsub = E.bsub) (cdv : Value) (A : Around) (outer : List Env) (s : Shared) (H : Hp) (Ex : XK) {f : Addr} (c : Ctx E k (cxD P w K mg base ["_law_draw", "_law_k"] "_law_path" (defScope s6) f cdv A outer s H Ex) (WD Ex)) :
    SSs E (cxD P w K mg base ["_law_draw", "_law_k"] "_law_path" (defScope s6) f cdv A outer s H Ex) (WD Ex) (defBody s6) (f11_0 r) := by
  have S := sc6
  unfold f11_0
  obtain ⟨e1, e2, e3⟩ := hE
  try rw [e1, e2, e3]
  exact (sss_one (ss_ret (se_callT cs_tuple rfl (T.fr "tuple" rfl) (by decide +kernel) (sa_cons (se_lc (own := [("_law_k", 1)]) c S.nd (si_r1 rfl (T.fr "range" rfl) (sa_cons (se_ix (ix_all c) (se_lst (sa_cons se_int (sa_cons se_int (sa_cons se_int (sa_cons se_int (sa_cons se_int (sa_cons se_int (sa_cons (se_call c (T.fn 4 (by decide)) rfl (T.gf 4 "_law_pick" rfl (by decide)) (sa_cons (se_var (i := 0) rfl (vis_of rfl) rfl rfl) (sa_cons se_int sa_nil rfl) rfl) rfl rfl rfl) sa_nil rfl) rfl) rfl) rfl) rfl) rfl) rfl)) (se_call c (T.fn 4 (by decide)) rfl (T.gf 4 "_law_pick" rfl (by decide)) (sa_cons (se_var (i := 0) rfl (vis_of rfl) rfl rfl) (sa_cons se_int sa_nil rfl) rfl) rfl rfl rfl) (fun _ _ => rfl)) sa_nil rfl) rfl) (blkOk_by (by kernel_rfl)) (fun s H C cl fp c => (sgw_name (i := 1) (by decide) S.nd rfl (loc_of rfl) (.inr rfl))) (fun s H C cl fp c => sts_nil) (fun s H C cl fp c => (se_call c (T.fn 5 (by decide)) rfl (T.gf 5 "_law_name" rfl (by decide)) (sa_cons (se_var (i := 0) rfl (vis_of rfl) rfl rfl) sa_nil rfl) rfl rfl rfl)) (fun _ => rfl)) sa_nil rfl) (by decide) rfl rfl rfl)))
theorem sc7 : FnScope ["_law_found", "_law_due", "_law_one", "_law_two"] ["_law_found", "_law_due"] (defScope s7) := ⟨rfl, rfl, rfl, by decide +kernel, rfl, by decide +kernel, by decide +kernel⟩
theorem w7 (T : TT E P w K mg base k r nms fids fad frees intsL strsL) (hE : tSub = E.sub ∧ tSubB = E.subB ∧ tBsub = E.bsub) (cdv : Value) (A : Around) (outer : List Env) (s : Shared) (H : Hp) (Ex : XK) {f : Addr} (c : Ctx E k (cxD P w K mg base ["_law_found", "_law_due", "_law_one", "_law_two"] "_law_same" (defScope s7) f cdv A outer s H Ex) (WD Ex)) :
    SSs E (cxD P w K mg base ["_law_found", "_law_due", "_law_one", "_law_two"] "_law_same" (defScope s7) f cdv A outer s H Ex) (WD Ex) (defBody s7) (f12_0 r) := by
  have S := sc7
  unfold f12_0
  obtain ⟨e1, e2, e3⟩ := hE
  try rw [e1, e2, e3]
  exact (sss_cons (ss_if (st_w (sw_or (st_tru c (se_callB (cs_isi c.hK) rfl (T.fr "isinstance" rfl) (by decide +kernel) (sa_cons (se_var (i := 1) rfl (vis_of rfl) rfl rfl) (sa_cons (se_ty rfl (T.fr "list" rfl) (by decide +kernel) (by decide) rfl) sa_nil rfl) rfl) (by decide) rfl rfl rfl) (fun _ => rfl)) (sw_or1 (st_tru c (se_callB (cs_isi c.hK) rfl (T.fr "isinstance" rfl) (by decide +kernel) (sa_cons (se_var (i := 1) rfl (vis_of rfl) rfl rfl) (sa_cons (se_ty rfl (T.fr "tuple" rfl) (by decide +kernel) (by decide) rfl) sa_nil rfl) rfl) (by decide) rfl rfl rfl) (fun _ => rfl))))) (sss_cons (ss_if (st_cmp (os_ne c.hK c.hu) (se_callB (cs_isi c.hK) rfl (T.fr "isinstance" rfl) (by decide +kernel) (sa_cons (se_var (i := 1) rfl (vis_of rfl) rfl rfl) (sa_cons (se_ty rfl (T.fr "list" rfl) (by decide +kernel) (by decide) rfl) sa_nil rfl) rfl) (by decide) rfl rfl rfl) (se_callB (cs_isi c.hK) rfl (T.fr "isinstance" rfl) (by decide +kernel) (sa_cons (se_var (i := 0) rfl (vis_of rfl) rfl rfl) (sa_cons (se_ty rfl (T.fr "list" rfl) (by decide +kernel) (by decide) rfl) sa_nil rfl) rfl) (by decide) rfl rfl rfl) (nobehind _ (by decide) (by decide))) (sss_one (ss_ret se_bl)) sss_nil) (sss_cons (ss_if (st_cmp (os_ne c.hK c.hu) (se_callB (cs_isi c.hK) rfl (T.fr "isinstance" rfl) (by decide +kernel) (sa_cons (se_var (i := 1) rfl (vis_of rfl) rfl rfl) (sa_cons (se_ty rfl (T.fr "tuple" rfl) (by decide +kernel) (by decide) rfl) sa_nil rfl) rfl) (by decide) rfl rfl rfl) (se_callB (cs_isi c.hK) rfl (T.fr "isinstance" rfl) (by decide +kernel) (sa_cons (se_var (i := 0) rfl (vis_of rfl) rfl rfl) (sa_cons (se_ty rfl (T.fr "tuple" rfl) (by decide +kernel) (by decide) rfl) sa_nil rfl) rfl) (by decide) rfl rfl rfl) (nobehind _ (by decide) (by decide))) (sss_one (ss_ret se_bl)) sss_nil) (sss_cons (ss_if (st_cmp (os_ne c.hK c.hu) (se_callB (cs_len c) rfl (T.fr "len" rfl) PySem.boot_len (sa_cons (se_var (i := 0) rfl (vis_of rfl) rfl rfl) sa_nil rfl) (by decide) rfl rfl rfl) (se_callB (cs_len c) rfl (T.fr "len" rfl) PySem.boot_len (sa_cons (se_var (i := 1) rfl (vis_of rfl) rfl rfl) sa_nil rfl) (by decide) rfl rfl rfl) (nobehind _ (by decide) (by decide))) (sss_one (ss_ret se_bl)) sss_nil) (sss_cons (ss_for c (si_zip rfl (T.fr "zip" rfl) (sa_cons (se_var (i := 0) rfl (vis_of rfl) rfl rfl) (sa_cons (se_var (i := 1) rfl (vis_of rfl) rfl rfl) sa_nil rfl) rfl) rfl rfl) (sg_tup c.calm (sgs_cons (sg_name (i := 2) S.nd rfl (loc_of rfl) (.inl rfl)) (sgs_cons (sg_name (i := 3) S.nd rfl (loc_of rfl) (.inl rfl)) sgs_nil rfl) rfl) rfl rfl) (sss_one (ss_if (st_not (st_tru c (se_call c (T.fn 7 (by decide)) rfl (T.gf 7 "_law_same" rfl (by decide)) (sa_cons (se_var (i := 2) rfl (vis_of rfl) rfl rfl) (sa_cons (se_var (i := 3) rfl (vis_of rfl) rfl rfl) sa_nil rfl) rfl) rfl rfl rfl) (fun _ => rfl))) (sss_one (ss_ret se_bl)) sss_nil)) (fun _ => rfl)) (sss_one (ss_ret se_bl)))))) sss_nil) (sss_cons (ss_if (st_cmp os_is (se_var (i := 1) rfl (vis_of rfl) rfl rfl) se_non (nobehind _ (by decide) (by decide))) (sss_one (ss_ret (se_cmp os_is (se_var (i := 0) rfl (vis_of rfl) rfl rfl) se_non (nobehind _ (by decide) (by decide))))) sss_nil) (sss_cons (ss_if (st_tru c (se_callB (cs_isi c.hK) rfl (T.fr "isinstance" rfl) (by decide +kernel) (sa_cons (se_var (i := 1) rfl (vis_of rfl) rfl rfl) (sa_cons (se_ty rfl (T.fr "str" rfl) (by decide +kernel) (by decide) rfl) sa_nil rfl) rfl) (by decide) rfl rfl rfl) (fun _ => rfl)) (sss_one (ss_ret (se_and c (se_callB (cs_isi c.hK) rfl (T.fr "isinstance" rfl) (by decide +kernel) (sa_cons (se_var (i := 0) rfl (vis_of rfl) rfl rfl) (sa_cons (se_ty rfl (T.fr "str" rfl) (by decide +kernel) (by decide) rfl) sa_nil rfl) rfl) (by decide) rfl rfl rfl) (se_one (se_cmp (os_eq c.hK c.hu) (se_var (i := 0) rfl (vis_of rfl) rfl rfl) (se_var (i := 1) rfl (vis_of rfl) rfl rfl) (nobehind _ (by decide) (by decide))))))) sss_nil) (sss_one (ss_ret (se_and c (se_callB (cs_isi c.hK) rfl (T.fr "isinstance" rfl) (by decide +kernel) (sa_cons (se_var (i := 0) rfl (vis_of rfl) rfl rfl) (sa_cons (se_ty rfl (T.fr "int" rfl) (by decide +kernel) (by decide) rfl) sa_nil rfl) rfl) (by decide) rfl rfl rfl) (se_and c (se_not c (se_callB (cs_isi c.hK) rfl (T.fr "isinstance" rfl) (by decide +kernel) (sa_cons (se_var (i := 0) rfl (vis_of rfl) rfl rfl) (sa_cons (se_ty rfl (T.fr "bool" rfl) (by decide +kernel) (by decide) rfl) sa_nil rfl) rfl) (by decide) rfl rfl rfl)) (se_one (se_cmp (os_eq c.hK c.hu) (se_var (i := 0) rfl (vis_of rfl) rfl rfl) (se_var (i := 1) rfl (vis_of rfl) rfl rfl) (nobehind _ (by decide) (by decide)))))))))))
theorem sc8 : FnScope ["_law_draw", "_law_path_here", "_law_way", "_law_at"] ["_law_draw", "_law_path_here"] (defScope s8) := ⟨rfl, rfl, rfl, by decide +kernel, rfl, by decide +kernel, by decide +kernel⟩
theorem w8 (T : TT E P w K mg base k r nms fids fad frees intsL strsL) (hE : tSub = E.sub ∧ tSubB = E.subB ∧ tBsub = E.bsub) (cdv : Value) (A : Around) (outer : List Env) (s : Shared) (H : Hp) (Ex : XK) {f : Addr} (c : Ctx E k (cxD P w K mg base ["_law_draw", "_law_path_here", "_law_way", "_law_at"] "_law_near" (defScope s8) f cdv A outer s H Ex) (WD Ex)) :
    SSs E (cxD P w K mg base ["_law_draw", "_law_path_here", "_law_way", "_law_at"] "_law_near" (defScope s8) f cdv A outer s H Ex) (WD Ex) (defBody s8) (f18_0 r) := by
  have S := sc8
  unfold f18_0
  obtain ⟨e1, e2, e3⟩ := hE
  try rw [e1, e2, e3]
  exact (sss_cons (ss_set (i := 2) S.nd rfl (loc_of rfl) (se_call c (T.fn 4 (by decide)) rfl (T.gf 4 "_law_pick" rfl (by decide)) (sa_cons (se_var (i := 0) rfl (vis_of rfl) rfl rfl) (sa_cons se_int sa_nil rfl) rfl) rfl rfl rfl) rfl (.inl rfl)) (sss_cons (ss_set (i := 3) S.nd rfl (loc_of rfl) (se_call c (T.fn 4 (by decide)) rfl (T.gf 4 "_law_pick" rfl (by decide)) (sa_cons (se_var (i := 0) rfl (vis_of rfl) rfl rfl) (sa_cons (se_bin (os_add c.hK) (se_callB (cs_len c) rfl (T.fr "len" rfl) PySem.boot_len (sa_cons (se_var (i := 1) rfl (vis_of rfl) rfl rfl) sa_nil rfl) (by decide) rfl rfl rfl) se_int) sa_nil rfl) rfl) rfl rfl rfl) rfl (.inl rfl)) (sss_cons (ss_if (st_cmp (os_eq c.hK c.hu) (se_var (i := 2) rfl (vis_of rfl) rfl rfl) se_int (nobehind _ (by decide) (by decide))) (sss_one (ss_ret (se_sl c.hK (se_var (i := 1) rfl (vis_of rfl) rfl rfl) so_none (so_some (se_var (i := 3) rfl (vis_of rfl) rfl rfl))))) sss_nil) (sss_cons (ss_if (st_w (sw_and (st_cmp (os_eq c.hK c.hu) (se_var (i := 2) rfl (vis_of rfl) rfl rfl) se_int (nobehind _ (by decide) (by decide))) (sw_and1 (st_cmp os_lt (se_callB (cs_len c) rfl (T.fr "len" rfl) PySem.boot_len (sa_cons (se_var (i := 1) rfl (vis_of rfl) rfl rfl) sa_nil rfl) (by decide) rfl rfl rfl) se_int (nobehind _ (by decide) (by decide)))))) (sss_one (ss_ret (se_bin (os_add c.hK) (se_var (i := 1) rfl (vis_of rfl) rfl rfl) (se_tup (sa_cons (se_call c (T.fn 5 (by decide)) rfl (T.gf 5 "_law_name" rfl (by decide)) (sa_cons (se_var (i := 0) rfl (vis_of rfl) rfl rfl) sa_nil rfl) rfl rfl rfl) sa_nil rfl))))) sss_nil) (sss_cons (ss_if (st_w (sw_and (st_cmp (os_eq c.hK c.hu) (se_var (i := 2) rfl (vis_of rfl) rfl rfl) se_int (nobehind _ (by decide) (by decide))) (sw_and1 (st_cmp os_lt (se_var (i := 3) rfl (vis_of rfl) rfl rfl) (se_callB (cs_len c) rfl (T.fr "len" rfl) PySem.boot_len (sa_cons (se_var (i := 1) rfl (vis_of rfl) rfl rfl) sa_nil rfl) (by decide) rfl rfl rfl) (nobehind _ (by decide) (by decide)))))) (sss_one (ss_ret (se_bin (os_add c.hK) (se_bin (os_add c.hK) (se_sl c.hK (se_var (i := 1) rfl (vis_of rfl) rfl rfl) so_none (so_some (se_var (i := 3) rfl (vis_of rfl) rfl rfl))) (se_tup (sa_cons (se_call c (T.fn 5 (by decide)) rfl (T.gf 5 "_law_name" rfl (by decide)) (sa_cons (se_var (i := 0) rfl (vis_of rfl) rfl rfl) sa_nil rfl) rfl rfl rfl) sa_nil rfl))) (se_sl c.hK (se_var (i := 1) rfl (vis_of rfl) rfl rfl) (so_some (se_bin (os_add c.hK) (se_var (i := 3) rfl (vis_of rfl) rfl rfl) se_int)) so_none)))) sss_nil) (sss_cons (ss_if (st_cmp (os_eq c.hK c.hu) (se_var (i := 2) rfl (vis_of rfl) rfl rfl) se_int (nobehind _ (by decide) (by decide))) (sss_one (ss_ret (se_var (i := 1) rfl (vis_of rfl) rfl rfl))) sss_nil) (sss_one (ss_ret (se_call c (T.fn 6 (by decide)) rfl (T.gf 6 "_law_path" rfl (by decide)) (sa_cons (se_var (i := 0) rfl (vis_of rfl) rfl rfl) sa_nil rfl) rfl rfl rfl)))))))))
theorem sc9 : FnScope ["_law_path_here", "_law_other"] ["_law_path_here", "_law_other"] (defScope s9) := ⟨rfl, rfl, rfl, by decide +kernel, rfl, by decide +kernel, by decide +kernel⟩
theorem w9 (T : TT E P w K mg base k r nms fids fad frees intsL strsL) (hE : tSub = E.sub ∧ tSubB = E.subB ∧ tBsub = E.bsub) (cdv : Value) (A : Around) (outer : List Env) (s : Shared) (H : Hp) (Ex : XK) {f : Addr} (c : Ctx E k (cxD P w K mg base ["_law_path_here", "_law_other"] "_law_starts" (defScope s9) f cdv A outer s H Ex) (WD Ex)) :
    SSs E (cxD P w K mg base ["_law_path_here", "_law_other"] "_law_starts" (defScope s9) f cdv A outer s H Ex) (WD Ex) (defBody s9) (f19_0 r) := by
  have S := sc9
  unfold f19_0
  obtain ⟨e1, e2, e3⟩ := hE
  try rw [e1, e2, e3]
  exact (sss_one (ss_ret (se_cmp (os_eq c.hK c.hu) (se_sl c.hK (se_callT (cs_list c) rfl (T.fr "list" rfl) (by decide +kernel) (sa_cons (se_var (i := 0) rfl (vis_of rfl) rfl rfl) sa_nil rfl) (by decide) rfl rfl rfl) so_none (so_some (se_callB (cs_len c) rfl (T.fr "len" rfl) PySem.boot_len (sa_cons (se_var (i := 1) rfl (vis_of rfl) rfl rfl) sa_nil rfl) (by decide) rfl rfl rfl))) (se_callT (cs_list c) rfl (T.fr "list" rfl) (by decide +kernel) (sa_cons (se_var (i := 1) rfl (vis_of rfl) rfl rfl) sa_nil rfl) (by decide) rfl rfl rfl) (nobehind _ (by decide) (by decide)))))
theorem sc10 : FnScope ["_law_script", "_law_draw", "_law_k", "_law_path_here", "_law_old", "_law_new", "_law_due", "_law_j", "_law_found"] ["_law_script"] (defScope s10) := ⟨rfl, rfl, rfl, by decide +kernel, rfl, by decide +kernel, by decide +kernel⟩
theorem w10 (T : TT E P w K mg base k r nms fids fad frees intsL strsL) (hE : tSub = E.sub ∧ tSubB = E.subB ∧ tBsub = E.bsub) (cdv : Value) (A : Around) (outer : List Env) (s : Shared) (H : Hp) (Ex : XK) {f : Addr} (c : Ctx E k (cxD P w K mg base ["_law_script", "_law_draw", "_law_k", "_law_path_here", "_law_old", "_law_new", "_law_due", "_law_j", "_law_found"] "law" (defScope s10) f cdv A outer s H Ex) (WD Ex)) :
    SSs E (cxD P w K mg base ["_law_script", "_law_draw", "_law_k", "_law_path_here", "_law_old", "_law_new", "_law_due", "_law_j", "_law_found"] "law" (defScope s10) f cdv A outer s H Ex) (WD Ex) (defBody s10) (f7_3 r) := by
  have S := sc10
  unfold f7_3
  obtain ⟨e1, e2, e3⟩ := hE
  try rw [e1, e2, e3]
  exact (sss_cons (ss_set (i := 1) S.nd rfl (loc_of rfl) (se_call c (T.fn 3 (by decide)) rfl (T.gf 3 "_law_drawn" rfl (by decide)) (sa_cons (se_var (i := 0) rfl (vis_of rfl) rfl rfl) sa_nil rfl) rfl rfl rfl) rfl (.inl rfl)) (sss_cons (ss_for c (si_r1 rfl (T.fr "range" rfl) (sa_cons (se_bin (os_add c.hK) (se_callB (cs_len c) rfl (T.fr "len" rfl) PySem.boot_len (sa_cons (se_var (i := 0) rfl (vis_of rfl) rfl rfl) sa_nil rfl) (by decide) rfl rfl rfl) se_int) sa_nil rfl) rfl) (sg_name (i := 2) S.nd rfl (loc_of rfl) (.inl rfl)) (sss_cons (ss_set (i := 3) S.nd rfl (loc_of rfl) (se_call c (T.fn 6 (by decide)) rfl (T.gf 6 "_law_path" rfl (by decide)) (sa_cons (se_var (i := 1) rfl (vis_of rfl) rfl rfl) sa_nil rfl) rfl rfl rfl) rfl (.inl rfl)) (sss_cons (ss_set (i := 4) S.nd rfl (loc_of rfl) (se_call c (T.fn 8 (by decide)) rfl (T.gf 8 "_law_near" rfl (by decide)) (sa_cons (se_var (i := 1) rfl (vis_of rfl) rfl rfl) (sa_cons (se_var (i := 3) rfl (vis_of rfl) rfl rfl) sa_nil rfl) rfl) rfl rfl rfl) rfl (.inl rfl)) (sss_cons (ss_set (i := 5) S.nd rfl (loc_of rfl) (se_call c (T.fn 8 (by decide)) rfl (T.gf 8 "_law_near" rfl (by decide)) (sa_cons (se_var (i := 1) rfl (vis_of rfl) rfl rfl) (sa_cons (se_ix (ix_all c) (se_lst (sa_cons (se_var (i := 3) rfl (vis_of rfl) rfl rfl) (sa_cons (se_var (i := 4) rfl (vis_of rfl) rfl rfl) sa_nil rfl) rfl)) (se_call c (T.fn 4 (by decide)) rfl (T.gf 4 "_law_pick" rfl (by decide)) (sa_cons (se_var (i := 1) rfl (vis_of rfl) rfl rfl) (sa_cons se_int sa_nil rfl) rfl) rfl rfl rfl) (fun _ _ => rfl)) sa_nil rfl) rfl) rfl rfl rfl) rfl (.inl rfl)) (sss_cons (ss_set (i := 6) S.nd rfl (loc_of rfl) (se_callT cs_tuple rfl (T.fr "tuple" rfl) (by decide +kernel) (sa_cons (se_lc (own := [("_law_j", 7)]) c S.nd (si_r1 rfl (T.fr "range" rfl) (sa_cons (se_bin os_sub (se_callB (cs_len c) rfl (T.fr "len" rfl) PySem.boot_len (sa_cons (se_var (i := 3) rfl (vis_of rfl) rfl rfl) sa_nil rfl) (by decide) rfl rfl rfl) se_int) sa_nil rfl) rfl) (blkOk_by (by kernel_rfl)) (fun s H C cl fp c => (sgw_name (i := 7) (by decide) S.nd rfl (loc_of rfl) (.inr rfl))) (fun s H C cl fp c => sts_nil) (fun s H C cl fp c => (se_ix (ix_all c) (se_var (i := 3) rfl (vis_of rfl) rfl rfl) (se_var (i := 7) rfl (vis_of rfl) rfl rfl) (fun _ _ => rfl))) (fun _ => rfl)) sa_nil rfl) (by decide) rfl rfl rfl) rfl (.inl rfl)) (sss_cons (ss_if (st_not (st_tru c (se_call c (T.fn 7 (by decide)) rfl (T.gf 7 "_law_same" rfl (by decide)) (sa_cons (se_call c (T.fn 0 (by decide)) rfl (T.gf 0 "parent_of" rfl (by decide)) (sa_cons (se_var (i := 3) rfl (vis_of rfl) rfl rfl) sa_nil rfl) rfl rfl rfl) (sa_cons (se_var (i := 6) rfl (vis_of rfl) rfl rfl) sa_nil rfl) rfl) rfl rfl rfl) (fun _ => rfl))) (sss_one (ss_ret se_bl)) sss_nil) (sss_cons (ss_set (i := 8) S.nd rfl (loc_of rfl) (se_call c (T.fn 1 (by decide)) rfl (T.gf 1 "is_beneath" rfl (by decide)) (sa_cons (se_var (i := 3) rfl (vis_of rfl) rfl rfl) (sa_cons (se_var (i := 4) rfl (vis_of rfl) rfl rfl) sa_nil rfl) rfl) rfl rfl rfl) rfl (.inl rfl)) (sss_cons (ss_if (st_w (sw_or (st_not (st_tru c (se_callB (cs_isi c.hK) rfl (T.fr "isinstance" rfl) (by decide +kernel) (sa_cons (se_var (i := 8) rfl (vis_of rfl) rfl rfl) (sa_cons (se_ty rfl (T.fr "bool" rfl) (by decide +kernel) (by decide) rfl) sa_nil rfl) rfl) (by decide) rfl rfl rfl) (fun _ => rfl))) (sw_or1 (st_cmp (os_ne c.hK c.hu) (se_var (i := 8) rfl (vis_of rfl) rfl rfl) (se_and c (se_call c (T.fn 9 (by decide)) rfl (T.gf 9 "_law_starts" rfl (by decide)) (sa_cons (se_var (i := 3) rfl (vis_of rfl) rfl rfl) (sa_cons (se_var (i := 4) rfl (vis_of rfl) rfl rfl) sa_nil rfl) rfl) rfl rfl rfl) (se_one (se_cmp os_lt (se_callB (cs_len c) rfl (T.fr "len" rfl) PySem.boot_len (sa_cons (se_var (i := 4) rfl (vis_of rfl) rfl rfl) sa_nil rfl) (by decide) rfl rfl rfl) (se_callB (cs_len c) rfl (T.fr "len" rfl) PySem.boot_len (sa_cons (se_var (i := 3) rfl (vis_of rfl) rfl rfl) sa_nil rfl) (by decide) rfl rfl rfl) (nobehind _ (by decide) (by decide))))) (nobehind _ (by decide) (by decide)))))) (sss_one (ss_ret se_bl)) sss_nil) (sss_cons (ss_set (i := 6) S.nd rfl (loc_of rfl) (se_var (i := 3) rfl (vis_of rfl) rfl rfl) rfl (.inl rfl)) (sss_cons (ss_if (st_tru c (se_call c (T.fn 9 (by decide)) rfl (T.gf 9 "_law_starts" rfl (by decide)) (sa_cons (se_var (i := 3) rfl (vis_of rfl) rfl rfl) (sa_cons (se_var (i := 4) rfl (vis_of rfl) rfl rfl) sa_nil rfl) rfl) rfl rfl rfl) (fun _ => rfl)) (sss_one (ss_set (i := 6) S.nd rfl (loc_of rfl) (se_callT cs_tuple rfl (T.fr "tuple" rfl) (by decide +kernel) (sa_cons (se_bin (os_add c.hK) (se_callT (cs_list c) rfl (T.fr "list" rfl) (by decide +kernel) (sa_cons (se_var (i := 5) rfl (vis_of rfl) rfl rfl) sa_nil rfl) (by decide) rfl rfl rfl) (se_sl c.hK (se_callT (cs_list c) rfl (T.fr "list" rfl) (by decide +kernel) (sa_cons (se_var (i := 3) rfl (vis_of rfl) rfl rfl) sa_nil rfl) (by decide) rfl rfl rfl) (so_some (se_callB (cs_len c) rfl (T.fr "len" rfl) PySem.boot_len (sa_cons (se_var (i := 4) rfl (vis_of rfl) rfl rfl) sa_nil rfl) (by decide) rfl rfl rfl)) so_none)) sa_nil rfl) (by decide) rfl rfl rfl) rfl (.inl rfl))) sss_nil) (sss_cons (ss_if (st_not (st_tru c (se_call c (T.fn 7 (by decide)) rfl (T.gf 7 "_law_same" rfl (by decide)) (sa_cons (se_call c (T.fn 2 (by decide)) rfl (T.gf 2 "moved_path" rfl (by decide)) (sa_cons (se_var (i := 3) rfl (vis_of rfl) rfl rfl) (sa_cons (se_var (i := 4) rfl (vis_of rfl) rfl rfl) (sa_cons (se_var (i := 5) rfl (vis_of rfl) rfl rfl) sa_nil rfl) rfl) rfl) rfl rfl rfl) (sa_cons (se_var (i := 6) rfl (vis_of rfl) rfl rfl) sa_nil rfl) rfl) rfl rfl rfl) (fun _ => rfl))) (sss_one (ss_ret se_bl)) sss_nil) (sss_one (ss_if (st_w (sw_and (st_tru c (se_call c (T.fn 9 (by decide)) rfl (T.gf 9 "_law_starts" rfl (by decide)) (sa_cons (se_var (i := 3) rfl (vis_of rfl) rfl rfl) (sa_cons (se_var (i := 4) rfl (vis_of rfl) rfl rfl) sa_nil rfl) rfl) rfl rfl rfl) (fun _ => rfl)) (sw_and1 (st_not (st_tru c (se_call c (T.fn 7 (by decide)) rfl (T.gf 7 "_law_same" rfl (by decide)) (sa_cons (se_call c (T.fn 2 (by decide)) rfl (T.gf 2 "moved_path" rfl (by decide)) (sa_cons (se_var (i := 6) rfl (vis_of rfl) rfl rfl) (sa_cons (se_var (i := 5) rfl (vis_of rfl) rfl rfl) (sa_cons (se_var (i := 4) rfl (vis_of rfl) rfl rfl) sa_nil rfl) rfl) rfl) rfl rfl rfl) (sa_cons (se_var (i := 3) rfl (vis_of rfl) rfl rfl) sa_nil rfl) rfl) rfl rfl rfl) (fun _ => rfl)))))) (sss_one (ss_ret se_bl)) sss_nil)))))))))))) (fun _ => rfl)) (sss_one (ss_ret se_bl))))
end
def fnL : List He.DefD := [⟨("parent_of", none), "parent_of", "parent_of", defArgs s0, defBody s0, defScope s0, [], []⟩,
  ⟨("is_beneath", none), "is_beneath", "is_beneath", defArgs s1, defBody s1, defScope s1, [], []⟩,
  ⟨("moved_path", none), "moved_path", "moved_path", defArgs s2, defBody s2, defScope s2, [], []⟩,
  ⟨("_law_drawn", none), "_law_drawn", "_law_drawn", defArgs s3, defBody s3, defScope s3, [], []⟩,
  ⟨("_law_pick", none), "_law_pick", "_law_pick", defArgs s4, defBody s4, defScope s4, [], []⟩,
  ⟨("_law_name", none), "_law_name", "_law_name", defArgs s5, defBody s5, defScope s5, [], []⟩,
  ⟨("_law_path", none), "_law_path", "_law_path", defArgs s6, defBody s6, defScope s6, [], []⟩,
  ⟨("_law_same", none), "_law_same", "_law_same", defArgs s7, defBody s7, defScope s7, [], []⟩,
  ⟨("_law_near", none), "_law_near", "_law_near", defArgs s8, defBody s8, defScope s8, [], []⟩,
  ⟨("_law_starts", none), "_law_starts", "_law_starts", defArgs s9, defBody s9, defScope s9, [], []⟩,
  ⟨("law", none), "law", "law", defArgs s10, defBody s10, defScope s10, [], []⟩]
def faL : List He.Fa := [.glo "parent_of", .glo "is_beneath", .glo "moved_path", .glo "_law_drawn", .glo "_law_pick", .glo "_law_name", .glo "_law_path", .glo "_law_same", .glo "_law_near", .glo "_law_starts", .glo "law", .free "bool", .free "int", .free "isinstance", .free "len", .free "list", .free "range", .free "str", .free "tuple", .free "zip"]
abbrev RR : PySem.W.OpenRow := PySem.W.OpenLaw.row PySem.Challenge.rw_overfold_k04_parents_and_beginnings
abbrev hk : PySem.W.Hook := He.hookD 5 faL fnL
def ob (s : PySem.W.SharedT) : He.AlD := He.obsDG 5 faL fnL (HandSHeadRun.getT s)
theorem ob_eq (s : PySem.W.SharedT) : ob s = hk.obs s.abs := He.obsDG_eq (HandSHeadRun.getT_eq s)
def loose0 : List PySem.Str := ["parent_of", "is_beneath", "moved_path", "_law_drawn", "_law_pick", "_law_name", "_law_path", "_law_same", "_law_near", "_law_starts"]
def loose : List PySem.Str := loose0
theorem run (w : World) : HandSHeadRun.RunEq RR (PySem.W.view RR.prog [12]) hk ob 6000 loose w := by
  intro os
  kernel_rfl
section
variable {P : Program} {w : World} {K : PySem.W.Frag} {mg : Str → Option Value} {base h : Heap}
def fadK (K : PySem.W.Frag) (i : Nat) : Addr := He.fAd K ((fnL.map (·.at_)).getD i ("", none))
theorem all_ok (hE : tSub = (en0 K).sub ∧ tSubB = (en0 K).subB ∧ tBsub = (en0 K).bsub) (X : K.In h) (G : h.Ns mainGlobals mg) (c : He.SaysD faL fnL K) : ∀ k, TT (en0 K) P w K mg base k (R k) nms fids (fadK K) frees intsL strsL := by
  have gf : ∀ i (x : String), (nms.map (·.1))[i]? = some x → x ≠ "" → mg (x : Str) = some (.ref (fadK K i)) := by
    intro i x hi hx
    match i, hi with
    | 0, hi => cases hi; exact He.glo_ok X G (c.fact 0 (f := .glo "parent_of") rfl)
    | 1, hi => cases hi; exact He.glo_ok X G (c.fact 1 (f := .glo "is_beneath") rfl)
    | 2, hi => cases hi; exact He.glo_ok X G (c.fact 2 (f := .glo "moved_path") rfl)
    | 3, hi => cases hi; exact He.glo_ok X G (c.fact 3 (f := .glo "_law_drawn") rfl)
    | 4, hi => cases hi; exact He.glo_ok X G (c.fact 4 (f := .glo "_law_pick") rfl)
    | 5, hi => cases hi; exact He.glo_ok X G (c.fact 5 (f := .glo "_law_name") rfl)
    | 6, hi => cases hi; exact He.glo_ok X G (c.fact 6 (f := .glo "_law_path") rfl)
    | 7, hi => cases hi; exact He.glo_ok X G (c.fact 7 (f := .glo "_law_same") rfl)
    | 8, hi => cases hi; exact He.glo_ok X G (c.fact 8 (f := .glo "_law_near") rfl)
    | 9, hi => cases hi; exact He.glo_ok X G (c.fact 9 (f := .glo "_law_starts") rfl)
    | 10, hi => cases hi; exact He.glo_ok X G (c.fact 10 (f := .glo "law") rfl)
    | i + 11, hi => cases hi
  have fr : ∀ x : String, frees.contains x = true → mg (x : Str) = none := by
    intro x hx
    have hx := List.contains_iff_mem.mp hx
    unfold frees at hx
    simp only [List.mem_cons, List.not_mem_nil, or_false] at hx
    rcases hx with rfl | rfl | rfl | rfl | rfl | rfl | rfl | rfl | rfl
    · exact He.free_ok X G (c.fact 11 (f := .free "bool") rfl)
    · exact He.free_ok X G (c.fact 12 (f := .free "int") rfl)
    · exact He.free_ok X G (c.fact 13 (f := .free "isinstance") rfl)
    · exact He.free_ok X G (c.fact 14 (f := .free "len") rfl)
    · exact He.free_ok X G (c.fact 15 (f := .free "list") rfl)
    · exact He.free_ok X G (c.fact 16 (f := .free "range") rfl)
    · exact He.free_ok X G (c.fact 17 (f := .free "str") rfl)
    · exact He.free_ok X G (c.fact 18 (f := .free "tuple") rfl)
    · exact He.free_ok X G (c.fact 19 (f := .free "zip") rfl)
  have ci : ∀ (x : String) (i : Int), intsL.contains (x, i) = true → ∃ t, mg (x : Str) = some (.int i t) := by
    intro x i hx
    have hx := List.contains_iff_mem.mp hx
    unfold intsL at hx
    simp only [List.mem_cons, List.not_mem_nil, or_false, Prod.mk.injEq] at hx
  have cs : ∀ (x z : String), strsL.contains (x, z) = true → ∃ t, mg (x : Str) = some (.str (z : Str) t) := by
    intro x z hx
    have hx := List.contains_iff_mem.mp hx
    unfold strsL at hx
    simp only [List.mem_cons, List.not_mem_nil, or_false, Prod.mk.injEq] at hx
  intro k
  induction k with
  | zero =>
    refine ⟨fun i hi => ?_, gf, fr, ci, cs⟩
    match i, hi with
    | 0, _ => obtain ⟨fd, F⟩ := c.def_ 0 rfl; exact cal_bad F (ps := ["path"]) (F.bindsN fun _ _ _ _ _ _ us hl => match us, hl with | [_], _ => rfl)
    | 1, _ => obtain ⟨fd, F⟩ := c.def_ 1 rfl; exact cal_bad F (ps := ["path", "other"]) (F.bindsN fun _ _ _ _ _ _ us hl => match us, hl with | [_, _], _ => rfl)
    | 2, _ => obtain ⟨fd, F⟩ := c.def_ 2 rfl; exact cal_bad F (ps := ["path", "old", "new"]) (F.bindsN fun _ _ _ _ _ _ us hl => match us, hl with | [_, _, _], _ => rfl)
    | 3, _ => obtain ⟨fd, F⟩ := c.def_ 3 rfl; exact cal_bad F (ps := ["_law_script"]) (F.bindsN fun _ _ _ _ _ _ us hl => match us, hl with | [_], _ => rfl)
    | 4, _ => obtain ⟨fd, F⟩ := c.def_ 4 rfl; exact cal_bad F (ps := ["_law_draw", "_law_many"]) (F.bindsN fun _ _ _ _ _ _ us hl => match us, hl with | [_, _], _ => rfl)
    | 5, _ => obtain ⟨fd, F⟩ := c.def_ 5 rfl; exact cal_bad F (ps := ["_law_draw"]) (F.bindsN fun _ _ _ _ _ _ us hl => match us, hl with | [_], _ => rfl)
    | 6, _ => obtain ⟨fd, F⟩ := c.def_ 6 rfl; exact cal_bad F (ps := ["_law_draw"]) (F.bindsN fun _ _ _ _ _ _ us hl => match us, hl with | [_], _ => rfl)
    | 7, _ => obtain ⟨fd, F⟩ := c.def_ 7 rfl; exact cal_bad F (ps := ["_law_found", "_law_due"]) (F.bindsN fun _ _ _ _ _ _ us hl => match us, hl with | [_, _], _ => rfl)
    | 8, _ => obtain ⟨fd, F⟩ := c.def_ 8 rfl; exact cal_bad F (ps := ["_law_draw", "_law_path_here"]) (F.bindsN fun _ _ _ _ _ _ us hl => match us, hl with | [_, _], _ => rfl)
    | 9, _ => obtain ⟨fd, F⟩ := c.def_ 9 rfl; exact cal_bad F (ps := ["_law_path_here", "_law_other"]) (F.bindsN fun _ _ _ _ _ _ us hl => match us, hl with | [_, _], _ => rfl)
    | 10, _ => obtain ⟨fd, F⟩ := c.def_ 10 rfl; exact cal_bad F (ps := ["_law_script"]) (F.bindsN fun _ _ _ _ _ _ us hl => match us, hl with | [_], _ => rfl)
    | i + 11, hi => exact absurd hi (by show ¬ (i + 11 < 11); omega)
  | succ k ih =>
    refine ⟨fun i hi => ?_, gf, fr, ci, cs⟩
    match i, hi with
    | 0, _ => obtain ⟨fd, F⟩ := c.def_ 0 rfl; exact cal_of (ps := ["path"]) rfl F sc0 (F.bindsN fun _ _ _ _ _ _ us hl => match us, hl with | [_], _ => rfl) (fun cdv A outer s H Ex cc => w0 ih hE cdv A outer s H Ex cc)
    | 1, _ => obtain ⟨fd, F⟩ := c.def_ 1 rfl; exact cal_of (ps := ["path", "other"]) rfl F sc1 (F.bindsN fun _ _ _ _ _ _ us hl => match us, hl with | [_, _], _ => rfl) (fun cdv A outer s H Ex cc => w1 ih hE cdv A outer s H Ex cc)
    | 2, _ => obtain ⟨fd, F⟩ := c.def_ 2 rfl; exact cal_of (ps := ["path", "old", "new"]) rfl F sc2 (F.bindsN fun _ _ _ _ _ _ us hl => match us, hl with | [_, _, _], _ => rfl) (fun cdv A outer s H Ex cc => w2 ih hE cdv A outer s H Ex cc)
    | 3, _ => obtain ⟨fd, F⟩ := c.def_ 3 rfl; exact cal_of (ps := ["_law_script"]) rfl F sc3 (F.bindsN fun _ _ _ _ _ _ us hl => match us, hl with | [_], _ => rfl) (fun cdv A outer s H Ex cc => w3 ih hE cdv A outer s H Ex cc)
    | 4, _ => obtain ⟨fd, F⟩ := c.def_ 4 rfl; exact cal_of (ps := ["_law_draw", "_law_many"]) rfl F sc4 (F.bindsN fun _ _ _ _ _ _ us hl => match us, hl with | [_, _], _ => rfl) (fun cdv A outer s H Ex cc => w4 ih hE cdv A outer s H Ex cc)
    | 5, _ => obtain ⟨fd, F⟩ := c.def_ 5 rfl; exact cal_of (ps := ["_law_draw"]) rfl F sc5 (F.bindsN fun _ _ _ _ _ _ us hl => match us, hl with | [_], _ => rfl) (fun cdv A outer s H Ex cc => w5 ih hE cdv A outer s H Ex cc)
    | 6, _ => obtain ⟨fd, F⟩ := c.def_ 6 rfl; exact cal_of (ps := ["_law_draw"]) rfl F sc6 (F.bindsN fun _ _ _ _ _ _ us hl => match us, hl with | [_], _ => rfl) (fun cdv A outer s H Ex cc => w6 ih hE cdv A outer s H Ex cc)
    | 7, _ => obtain ⟨fd, F⟩ := c.def_ 7 rfl; exact cal_of (ps := ["_law_found", "_law_due"]) rfl F sc7 (F.bindsN fun _ _ _ _ _ _ us hl => match us, hl with | [_, _], _ => rfl) (fun cdv A outer s H Ex cc => w7 ih hE cdv A outer s H Ex cc)
    | 8, _ => obtain ⟨fd, F⟩ := c.def_ 8 rfl; exact cal_of (ps := ["_law_draw", "_law_path_here"]) rfl F sc8 (F.bindsN fun _ _ _ _ _ _ us hl => match us, hl with | [_, _], _ => rfl) (fun cdv A outer s H Ex cc => w8 ih hE cdv A outer s H Ex cc)
    | 9, _ => obtain ⟨fd, F⟩ := c.def_ 9 rfl; exact cal_of (ps := ["_law_path_here", "_law_other"]) rfl F sc9 (F.bindsN fun _ _ _ _ _ _ us hl => match us, hl with | [_, _], _ => rfl) (fun cdv A outer s H Ex cc => w9 ih hE cdv A outer s H Ex cc)
    | 10, _ => obtain ⟨fd, F⟩ := c.def_ 10 rfl; exact cal_of (ps := ["_law_script"]) rfl F sc10 (F.bindsN fun _ _ _ _ _ _ us hl => match us, hl with | [_], _ => rfl) (fun cdv A outer s H Ex cc => w10 ih hE cdv A outer s H Ex cc)
    | i + 11, hi => exact absurd hi (by show ¬ (i + 11 < 11); omega)
end
theorem facts (htrue : ∀ ns : List Int, ns.length ≤ 63 → ∃ A', R 12 7 [scriptV ns] [] = .ok (.bl true) A') {P : Program} {w : World} {K : PySem.W.Frag} {h : Heap} {mg : Str → Option Value} {f : Addr} (X : K.In h) (G : h.Ns mainGlobals mg) (hfa : mg ("law" : Str) = some (.ref f)) (c : He.SaysD faL fnL K) :
    ∃ (fd : FuncData) (sp : Sp), (∀ (s : Shared) (u : Value), BindsTo s fd ⟨[u], []⟩ [("_law_script", u)]) ∧
      (∀ (H : Hp) (a : Addr) (ns : List Int), ns.length ≤ 63 → Only H → SqL K H a (ns.map V.int) → sp [.ref a] H (fun v _ => v = .bl true) fun _ _ _ => False) ∧
      ∀ base : Heap, K.In base → base.Ns mainGlobals mg → FnOk P w K mg base (fun _ _ _ _ _ _ => False) 12 f fd ["_law_script"] sp := by
  obtain ⟨fd, F⟩ := c.def_ 10 rfl
  have hE : tSub = (en0 K).sub ∧ tSubB = (en0 K).subB ∧ tBsub = (en0 K).bsub := ⟨rfl, rfl, rfl⟩
  have hf : f = fadK K 10 := by
    have e := hfa.symm.trans ((all_ok (P := P) (w := w) (base := h) hE X G c 0).gf 10 "law" rfl (by decide))
    cases e
    rfl
  subst hf
  have b := FunD.bindsA (ps := ["_law_script"]) F fun _ _ _ _ _ _ us hl => match us, hl with | [_], _ => rfl
  refine ⟨fd, fun vs H Q _ => spOf (en0 K) 1 (R 12 7) vs H Q fun _ _ _ => False, fun s v => b s [v] rfl, fun H a ns hl hO hS => sp_law rfl hO hS (htrue ns hl), fun base X2 G2 => ?_⟩
  have T := all_ok (P := P) (w := w) (base := base) hE X G c 11
  exact fn_cx0 (fn_at (E := en0 K) (ps := ["_law_script"]) rfl F sc10 (fun cdv A outer s H Ex cc => w10 T ⟨rfl, rfl, rfl⟩ cdv A outer s H Ex cc))
end Law
open PySem PySem.W PySem.Calls PyProof.Rows
theorem holds_of (htrue : ∀ ns : List Int, ns.length ≤ 63 → ∃ A', Law.R 12 7 [Ev.scriptV ns] [] = .ok (.bl true) A') : PySem.Challenge.rw_overfold_k04_parents_and_beginnings.Holds := by
  w_on; o_law
  refine HandSHeadRun.head_any (r := OpenLaw.row PySem.Challenge.rw_overfold_k04_parents_and_beginnings) (q := view (OpenLaw.row PySem.Challenge.rw_overfold_k04_parents_and_beginnings).prog [12]) (H := Law.hk) (ob := Law.ob) (M := 6000) (loose := Law.loose) (d := HandSHeadRun.topDef (OpenLaw.row PySem.Challenge.rw_overfold_k04_parents_and_beginnings).prog 12) (kwd := []) Law.ob_eq
    (by kernel_rfl) (fun s => by kernel_rfl) Law.run (by kernel_rfl) (by kernel_rfl) (by kernel_rfl) (by rfl) (by first | assumption | decide +kernel) (by decide +kernel) ⟨rfl, rfl, rfl, rfl, rfl, by decide +kernel⟩ ?hw ?hc
  case hw => w_witness2
  case hc =>
    refine L2.walk_ofE (l := PySem.Challenge.rw_overfold_k04_parents_and_beginnings) (n := 63) (k := 12) (x := "_law_script") (CX := fun _ _ _ _ _ _ => False) rfl (by decide) (by kernel_rfl) ⟨rfl, by decide, by decide⟩ ?F (fun _ _ _ _ z => z)
    intro w mg fa h Y G hmg0
    obtain ⟨K, KX, c⟩ := Y
    have hmg : mg ("law" : PySem.Str) = some (.ref fa) := by
      have e : (HandSHeadRun.topDef (OpenLaw.row PySem.Challenge.rw_overfold_k04_parents_and_beginnings).prog 12).name = ("law" : PySem.Str) := by kernel_rfl
      rw [← e]
      exact hmg0
    obtain ⟨fd, sp, hb, h1, hF⟩ := Law.facts htrue (P := (PySem.Challenge.rw_overfold_k04_parents_and_beginnings).prog) (w := w) KX G hmg c
    exact ⟨K, fd, sp, KX, hb, h1, hF⟩
end
theorem PySem.Challenge.cw_overfold_k04_parents_and_beginnings_holds : PySem.Challenge.rw_overfold_k04_parents_and_beginnings.Holds := by
  exact holds_of Law.htrue
