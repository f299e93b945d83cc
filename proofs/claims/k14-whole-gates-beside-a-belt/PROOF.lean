import PyProof.Rows.All
import Wide.All
import OpenK.AllK
import Wide.FinOn
import HandS.ForMost
import HandS.Exc
import HandS.ExcOwn
import HandS.WordsExc
import HandS.Defaults
import HandS.Walk
import HandS.IsInst
import HandS.HeadHook2
import HandS.Flow
import HandS.TupAny
import HandS.TupLe
import HandS.TupMul
import KE.GoesMore
import KE.GoesEnum
import HandS.Head0
import HandS.Head1
import HandS.Head2
import HandS.HeadEnd
import PySem.Challenge.RW_lanesgraded_k14_whole_gates_beside_a_bel
import KE.KStateDown
import Lean
import HandS.Base
import HandS.Call
import HandS.Ends
import HandS.More
import HandS.Words
import HandS.HeadHook1
set_option Elab.async false
set_option linter.all false
set_option maxRecDepth 1000000
set_option maxHeartbeats 0
set_option autoImplicit false
/-! DL1: values as trees (D), a store of handles, what represents what; the readings of expressions and statements as functions. -/
namespace DL
open PySem PySem.Spec L2

/-- the tests of a reading are left alone by unfolding -/
@[irreducible] def hdec (p : Prop) (h : Decidable p) : Decidable p := h
instance (priority := high) hAnd {p q : Prop} [h1 : Decidable p] [h2 : Decidable q] : Decidable (p ∧ q) := hdec _ (instDecidableAnd (dp := h1) (dq := h2))
instance (priority := high) hOr {p q : Prop} [h1 : Decidable p] [h2 : Decidable q] : Decidable (p ∨ q) := hdec _ (instDecidableOr (dp := h1) (dq := h2))

/-- a value as a tree: lst is a list that nobody writes any more (ro: the script's, a module's), hnd a handle to a cell that may be written, ty a built-in class -/
inductive D where
  | non | bl (b : Bool) | int (i : Int) | str (x : Str)
  | tup (ds : List D) | lst (ds : List D) | ro (ds : List D)
  | hnd (n : Nat) | ty (n : String)
  deriving Inhabited
/-- a cell that may be written -/
inductive Cell where
  | lst (ds : List D)
abbrev Sto := List Cell
abbrev En := List (Option D)

/-- a module's own list, tuple -/
def KL (K : PySem.W.Frag) (a : Addr) (xs : List V) : Prop :=
  ∃ (o : Obj) (its : Array Value) (n : Nat), K.lookup a = some o ∧ o.cls = .type "list" ∧ o.dict = none ∧ o.data = .seq its n ∧ its.size ≤ sizeLine ∧ Vals xs its.toList
def KT (K : PySem.W.Frag) (a : Addr) (xs : List V) : Prop :=
  ∃ (o : Obj) (its : Array Value) (n : Nat), K.lookup a = some o ∧ o.cls = .type "tuple" ∧ o.data = .seq its n ∧ its.size ≤ sizeLine ∧ Vals xs its.toList
/-- what is read and never written: it stands apart from the handles φ -/
def FzL (φ : List Addr) (H : Hp) (a : Addr) (xs : List V) : Prop := H a = some (.lst xs) ∧ a ∉ φ
def RoL (K : PySem.W.Frag) (φ : List Addr) (H : Hp) (a : Addr) (xs : List V) : Prop := ((∃ o, H a = some (.frz o (.lst xs))) ∧ a ∉ φ) ∨ KL K a xs
def FzT (K : PySem.W.Frag) (φ : List Addr) (H : Hp) (a : Addr) (xs : List V) : Prop := (H a = some (.tup xs) ∧ a ∉ φ) ∨ KT K a xs

mutual
inductive Rep (K : PySem.W.Frag) (φ : List Addr) (H : Hp) : D → V → Prop
  | non : Rep K φ H .non .non
  | bl (b : Bool) : Rep K φ H (.bl b) (.bl b)
  | int (i : Int) : Rep K φ H (.int i) (.int i)
  | str (x : Str) : Rep K φ H (.str x) (.str x)
  | tup {a : Addr} {xs : List V} {ds : List D} : FzT K φ H a xs → Reps K φ H ds xs → Rep K φ H (.tup ds) (.ref a)
  | lst {a : Addr} {xs : List V} {ds : List D} : FzL φ H a xs → Reps K φ H ds xs → Rep K φ H (.lst ds) (.ref a)
  | ro {a : Addr} {xs : List V} {ds : List D} : RoL K φ H a xs → Reps K φ H ds xs → Rep K φ H (.ro ds) (.ref a)
  | hnd {n : Nat} {a : Addr} : φ[n]? = some a → Rep K φ H (.hnd n) (.ref a)
  | ty (n : String) : Rep K φ H (.ty n) (.ty n)
inductive Reps (K : PySem.W.Frag) (φ : List Addr) (H : Hp) : List D → List V → Prop
  | nil : Reps K φ H [] []
  | cons {d : D} {ds : List D} {v : V} {vs : List V} : Rep K φ H d v → Reps K φ H ds vs → Reps K φ H (d :: ds) (v :: vs)
end

/-- what a later state keeps of an earlier one -/
structure Keep (φ φ' : List Addr) (H H' : Hp) : Prop where
  pre : φ <+: φ'
  old : ∀ a o, H a = some o → a ∉ φ → H' a = some o ∧ a ∉ φ'
section
variable {K : PySem.W.Frag} {φ φ' φ1 φ2 : List Addr} {H H' H1 H2 : Hp}
theorem Keep.refl : Keep φ φ H H := ⟨List.prefix_refl _, fun _ _ h n => ⟨h, n⟩⟩
theorem Keep.trans (k : Keep φ φ1 H H1) (k' : Keep φ1 φ2 H1 H2) : Keep φ φ2 H H2 :=
  ⟨k.pre.trans k'.pre, fun a o h n => let ⟨h1, n1⟩ := k.old a o h n; k'.old a o h1 n1⟩
theorem Keep.at (k : Keep φ φ' H H') {n : Nat} {a : Addr} (h : φ[n]? = some a) : φ'[n]? = some a := by
  obtain ⟨t, e⟩ := k.pre
  rw [← e]
  exact List.getElem?_append_left (List.getElem?_eq_some_iff.mp h).1 ▸ h
theorem FzL.keep {a : Addr} {xs : List V} (k : Keep φ φ' H H') (h : FzL φ H a xs) : FzL φ' H' a xs := k.old _ _ h.1 h.2
theorem RoL.keep {a : Addr} {xs : List V} (k : Keep φ φ' H H') (h : RoL K φ H a xs) : RoL K φ' H' a xs := h.elim (fun ⟨⟨o, z⟩, n⟩ => .inl ⟨⟨o, (k.old _ _ z n).1⟩, (k.old _ _ z n).2⟩) .inr
theorem FzT.keep {a : Addr} {xs : List V} (k : Keep φ φ' H H') (h : FzT K φ H a xs) : FzT K φ' H' a xs := h.elim (fun z => .inl (k.old _ _ z.1 z.2)) .inr
theorem FzL.sq {a : Addr} {xs : List V} (h : FzL φ H a xs) : SqL K H a xs := .inl (.inl h.1)
theorem RoL.sq {a : Addr} {xs : List V} (h : RoL K φ H a xs) : SqL K H a xs := h.elim (fun z => .inl (.inr z.1)) .inr
theorem FzT.sq {a : Addr} {xs : List V} (h : FzT K φ H a xs) : SqT K H a xs := h.elim (fun z => .inl (.inl z.1)) .inr
mutual
theorem Rep.keep (k : Keep φ φ' H H') : ∀ {d : D} {v : V}, Rep K φ H d v → Rep K φ' H' d v
  | _, _, .non => .non
  | _, _, .bl b => .bl b
  | _, _, .int i => .int i
  | _, _, .str x => .str x
  | _, _, .tup h r => .tup (h.keep k) (Reps.keep k r)
  | _, _, .lst h r => .lst (h.keep k) (Reps.keep k r)
  | _, _, .ro h r => .ro (h.keep k) (Reps.keep k r)
  | _, _, .hnd h => .hnd (k.at h)
  | _, _, .ty n => .ty n
theorem Reps.keep (k : Keep φ φ' H H') : ∀ {ds : List D} {vs : List V}, Reps K φ H ds vs → Reps K φ' H' ds vs
  | _, _, .nil => .nil
  | _, _, .cons h r => .cons (Rep.keep k h) (Reps.keep k r)
end
theorem Reps.length : ∀ {ds : List D} {vs : List V}, Reps K φ H ds vs → ds.length = vs.length
  | _, _, .nil => rfl
  | _, _, .cons _ r => congrArg Nat.succ r.length
theorem Reps.append : ∀ {ds es : List D} {vs ws : List V}, Reps K φ H ds vs → Reps K φ H es ws → Reps K φ H (ds ++ es) (vs ++ ws)
  | _, _, _, _, .nil, s => s
  | _, _, _, _, .cons h r, s => .cons h (r.append s)
theorem Reps.get : ∀ {ds : List D} {vs : List V} {i : Nat} {d : D}, Reps K φ H ds vs → ds[i]? = some d → ∃ v, vs[i]? = some v ∧ Rep K φ H d v
  | _, _, _, _, .nil, e => by simp at e
  | _, _, 0, _, .cons h _, e => by simp at e; subst e; exact ⟨_, rfl, h⟩
  | _, _, i + 1, _, .cons _ r, e => by
    obtain ⟨v, e1, h⟩ := r.get (i := i) (by simpa using e)
    exact ⟨v, by simpa using e1, h⟩
theorem Reps.getV : ∀ {ds : List D} {vs : List V} {i : Nat} {v : V}, Reps K φ H ds vs → vs[i]? = some v → ∃ d, ds[i]? = some d ∧ Rep K φ H d v
  | _, _, _, _, .nil, e => by simp at e
  | _, _, 0, _, .cons h _, e => by simp at e; subst e; exact ⟨_, rfl, h⟩
  | _, _, i + 1, _, .cons _ r, e => by
    obtain ⟨v, e1, h⟩ := r.getV (i := i) (by simpa using e)
    exact ⟨v, by simpa using e1, h⟩
theorem Reps.set {d : D} {v : V} (h : Rep K φ H d v) : ∀ {ds : List D} {vs : List V} (i : Nat), Reps K φ H ds vs → Reps K φ H (ds.set i d) (vs.set i v)
  | _, _, _, .nil => .nil
  | _, _, 0, .cons _ r => .cons h r
  | _, _, i + 1, .cons q r => .cons q (r.set h i)
theorem Reps.take : ∀ {ds : List D} {vs : List V} (n : Nat), Reps K φ H ds vs → Reps K φ H (ds.take n) (vs.take n)
  | _, _, 0, _ => .nil
  | _, _, _ + 1, .nil => .nil
  | _, _, n + 1, .cons h r => .cons h (r.take n)
theorem Reps.drop : ∀ {ds : List D} {vs : List V} (n : Nat), Reps K φ H ds vs → Reps K φ H (ds.drop n) (vs.drop n)
  | _, _, 0, r => r
  | _, _, _ + 1, .nil => .nil
  | _, _, n + 1, .cons _ r => r.drop n
theorem Reps.eraseIdx : ∀ {ds : List D} {vs : List V} (i : Nat), Reps K φ H ds vs → Reps K φ H (ds.eraseIdx i) (vs.eraseIdx i)
  | _, _, _, .nil => .nil
  | _, _, 0, .cons _ r => r
  | _, _, i + 1, .cons h r => .cons h (r.eraseIdx i)
theorem Reps.one {d : D} {vs : List V} (r : Reps K φ H [d] vs) : ∃ v, vs = [v] ∧ Rep K φ H d v := by
  cases r with
  | cons h r => cases r; exact ⟨_, rfl, h⟩
theorem Reps.two {d e : D} {vs : List V} (r : Reps K φ H [d, e] vs) : ∃ v u, vs = [v, u] ∧ Rep K φ H d v ∧ Rep K φ H e u := by
  cases r with
  | cons h r => obtain ⟨u, rfl, h2⟩ := r.one; exact ⟨_, u, rfl, h, h2⟩
theorem Reps.rep {ds : List D} {vs : List V} (r : Reps K φ H ds vs) : ∀ k : Nat, Reps K φ H (List.replicate k ds).flatten (List.replicate k vs).flatten
  | 0 => .nil
  | k + 1 => by rw [List.replicate_succ, List.replicate_succ, List.flatten_cons, List.flatten_cons]; exact r.append (r.rep k)
end

/-- a cell at its address -/
def CellR (K : PySem.W.Frag) (φ : List Addr) (H : Hp) (a : Addr) : Cell → Prop
  | .lst ds => ∃ xs, H a = some (.lst xs) ∧ Reps K φ H ds xs
/-- the store -/
structure SR (K : PySem.W.Frag) (φ : List Addr) (st : Sto) (H : Hp) : Prop where
  nd : φ.Nodup
  len : st.length = φ.length
  cell : ∀ (i : Nat) (c : Cell), st[i]? = some c → ∃ a, φ[i]? = some a ∧ CellR K φ H a c
/-- the slots -/
structure EnvR (K : PySem.W.Frag) (φ : List Addr) (H : Hp) (ρ : En) (σ : St) : Prop where
  len : ρ.length = σ.length
  val : ∀ (i : Nat) (d : D), ρ[i]? = some (some d) → ∃ v, σ[i]? = some (some v) ∧ Rep K φ H d v
section
variable {K : PySem.W.Frag} {φ φ' : List Addr} {H H' : Hp} {st st' : Sto} {ρ : En} {σ : St}
theorem EnvR.keep (k : Keep φ φ' H H') (e : EnvR K φ H ρ σ) : EnvR K φ' H' ρ σ := ⟨e.len, fun i d h => let ⟨v, h1, r⟩ := e.val i d h; ⟨v, h1, r.keep k⟩⟩
theorem EnvR.set {d : D} {v : V} (i : Nat) (r : Rep K φ H d v) (e : EnvR K φ H ρ σ) : EnvR K φ H (ρ.set i (some d)) (σ.set i (some v)) := by
  refine ⟨by rw [List.length_set, List.length_set, e.len], fun j d' h => ?_⟩
  by_cases hj : i = j
  · subst hj
    rw [List.getElem?_set] at h
    by_cases hl : i < ρ.length
    · simp [hl] at h
      subst h
      exact ⟨v, by rw [List.getElem?_set]; simp [← e.len, hl], r⟩
    · simp [hl] at h
  · rw [List.getElem?_set_ne hj] at h
    obtain ⟨v', h1, r'⟩ := e.val j d' h
    exact ⟨v', by rw [List.getElem?_set_ne hj]; exact h1, r'⟩
theorem SR.tracked (s : SR K φ st H) {a : Addr} (h : a ∈ φ) : ∃ xs, H a = some (.lst xs) := by
  obtain ⟨i, hi⟩ := List.getElem?_of_mem h
  have hl : i < st.length := by rw [s.len]; exact (List.getElem?_eq_some_iff.mp hi).1
  obtain ⟨a', h1, h2⟩ := s.cell i st[i] (List.getElem?_eq_getElem hl)
  rw [hi] at h1; cases h1
  cases hc : st[i] with
  | lst ds => rw [hc] at h2; obtain ⟨xs, e, _⟩ := h2; exact ⟨xs, e⟩
theorem SR.notin (s : SR K φ st H) {p : Addr} (h : H p = none) : p ∉ φ := fun z => by
  obtain ⟨xs, e⟩ := s.tracked z
  rw [h] at e; cases e
theorem CellR.keep {a : Addr} {c : Cell} (k : Keep φ φ' H H') (e : H' a = H a) (h : CellR K φ H a c) : CellR K φ' H' a c := by
  cases c with
  | lst ds =>
    obtain ⟨xs, h1, r⟩ := h
    exact ⟨xs, e.trans h1, r.keep k⟩
/-- a new object beside -/
theorem Keep.fresh {p : Addr} {o : HO} (h : H p = none) : Keep φ φ H (upd H p o) := ⟨List.prefix_refl _, fun a u e n => ⟨by rw [upd_ne (ne_of_none e h)]; exact e, n⟩⟩
theorem SR.fresh {p : Addr} {o : HO} (s : SR K φ st H) (h : H p = none) : SR K φ st (upd H p o) := by
  refine ⟨s.nd, s.len, fun i c e => ?_⟩
  obtain ⟨a, h1, h2⟩ := s.cell i c e
  refine ⟨a, h1, h2.keep (Keep.fresh h) ?_⟩
  exact upd_ne fun z => s.notin h (by rw [← z]; exact List.mem_of_getElem? h1)
theorem Keep.push {p : Addr} {o : HO} (s : SR K φ st H) (h : H p = none) : Keep φ (φ ++ [p]) H (upd H p o) :=
  ⟨List.prefix_append _ _, fun a u e n => ⟨by rw [upd_ne (ne_of_none e h)]; exact e, fun z => by
    rcases List.mem_append.mp z with z | z
    · exact n z
    · rw [List.mem_singleton.mp z, h] at e; cases e⟩⟩
/-- a new object as a handle -/
theorem SR.push {p : Addr} {xs : List V} {ds : List D} (s : SR K φ st H) (h : H p = none) (r : Reps K φ H ds xs) : SR K (φ ++ [p]) (st ++ [.lst ds]) (upd H p (.lst xs)) := by
  have k : Keep φ (φ ++ [p]) H (upd H p (.lst xs)) := Keep.push s h
  refine ⟨?_, by simp [s.len], fun i c e => ?_⟩
  · rw [List.nodup_append]
    refine ⟨s.nd, by simp, fun a ha b hb => ?_⟩
    rw [List.mem_singleton.mp hb]
    exact fun z => s.notin h (by rw [← z]; exact ha)
  · by_cases hi : i < st.length
    · rw [List.getElem?_append_left hi] at e
      obtain ⟨a, h1, h2⟩ := s.cell i c e
      exact ⟨a, k.at h1, h2.keep k (upd_ne fun z => s.notin h (by rw [← z]; exact List.mem_of_getElem? h1))⟩
    · rw [List.getElem?_append_right (by omega)] at e
      have hi2 : i - st.length = 0 := by
        have := (List.getElem?_eq_some_iff.mp e).1
        simp at this
        omega
      rw [hi2] at e
      simp at e
      subst e
      have e2 : i = φ.length := by have := s.len; omega
      subst e2
      exact ⟨p, by simp, xs, upd_same, r.keep k⟩
/-- a handle's cell is written -/
theorem Keep.write {a : Addr} {o : HO} (h : a ∈ φ) : Keep φ φ H (upd H a o) :=
  ⟨List.prefix_refl _, fun b u e n => ⟨by rw [upd_ne (fun z => n (by rw [z]; exact h))]; exact e, n⟩⟩
theorem SR.write {a : Addr} {n : Nat} {xs : List V} {ds : List D} (s : SR K φ st H) (h : φ[n]? = some a) (r : Reps K φ H ds xs) : SR K φ (st.set n (.lst ds)) (upd H a (.lst xs)) := by
  have k : Keep φ φ H (upd H a (.lst xs)) := Keep.write (List.mem_of_getElem? h)
  refine ⟨s.nd, by simp [s.len], fun i c e => ?_⟩
  by_cases hi : n = i
  · subst hi
    rw [List.getElem?_set] at e
    by_cases hl : n < st.length
    · simp [hl] at e
      subst e
      exact ⟨a, h, xs, upd_same, r.keep k⟩
    · simp [hl] at e
  · rw [List.getElem?_set_ne hi] at e
    obtain ⟨b, h1, h2⟩ := s.cell i c e
    refine ⟨b, h1, h2.keep k (upd_ne fun z => ?_)⟩
    subst z
    obtain ⟨l1, e1⟩ := List.getElem?_eq_some_iff.mp h
    obtain ⟨l2, e2⟩ := List.getElem?_eq_some_iff.mp h1
    exact hi ((List.getElem_inj s.nd).mp (e1.trans e2.symm))
end

/-! ### results -/
/-- an exception: its class by its name (of one's own, with its fields; a built-in one) -/
inductive Ex where
  | own (n : Str) (ks : List Str) (vs : List D)
  | bi (n : String)
inductive Res (α : Type) where
  | ok (a : α) (st : Sto) | err (x : Ex) (st : Sto) | stuck
def Res.bind {α β : Type} : Res α → (α → Sto → Res β) → Res β
  | .ok a st, f => f a st
  | .err x st, _ => .err x st
  | .stuck, _ => .stuck
@[simp] theorem Res.bind_ok {α β : Type} {a : α} {st : Sto} {f : α → Sto → Res β} : (Res.ok a st).bind f = f a st := rfl
@[simp] theorem Res.bind_err {α β : Type} {x : Ex} {st : Sto} {f : α → Sto → Res β} : (Res.err x st : Res α).bind f = .err x st := rfl
@[simp] theorem Res.bind_stuck {α β : Type} {f : α → Sto → Res β} : (Res.stuck : Res α).bind f = .stuck := rfl
def ExR (K : PySem.W.Frag) (φ : List Addr) (H : Hp) : Ex → Value → Option Addr → Prop
  | .own n ks ds, c, dx => c = .ref (He.ga K n) ∧ ∃ d xs, dx = some d ∧ H d = some (.xd (ks.zip xs)) ∧ d ∉ φ ∧ ks.length = xs.length ∧ Reps K φ H ds xs
  | .bi n, c, _ => c = .type n
/-- statements -/
inductive RS where
  | nx (ρ : En) (st : Sto) | rt (d : D) (st : Sto) | bk (ρ : En) (st : Sto) | ct (ρ : En) (st : Sto) | err (x : Ex) (st : Sto) | stuck
/-- what holds behind -/
def PostR {α : Type} (K : PySem.W.Frag) (W : XK) (φ : List Addr) (H : Hp) (Q : α → List Addr → Sto → Hp → Prop) : Res α → Prop
  | .ok a st => ∀ φ' H', Keep φ φ' H H' → SR K φ' st H' → Q a φ' st H'
  | .err x st => ∀ φ' H' c dx, Keep φ φ' H H' → SR K φ' st H' → ExR K φ' H' x c dx → W c dx H'
  | .stuck => False
def PostE (K : PySem.W.Frag) (W : XK) (φ : List Addr) (H : Hp) (Q : VK) : Res D → Prop
  | .ok d st => ∀ φ' H' v, Keep φ φ' H H' → SR K φ' st H' → Rep K φ' H' d v → Q v H'
  | .err x st => ∀ φ' H' c dx, Keep φ φ' H H' → SR K φ' st H' → ExR K φ' H' x c dx → W c dx H'
  | .stuck => False
def PostEs (K : PySem.W.Frag) (W : XK) (φ : List Addr) (H : Hp) (Q : List V → Hp → Prop) : Res (List D) → Prop
  | .ok ds st => ∀ φ' H' vs, Keep φ φ' H H' → SR K φ' st H' → Reps K φ' H' ds vs → Q vs H'
  | .err x st => ∀ φ' H' c dx, Keep φ φ' H H' → SR K φ' st H' → ExR K φ' H' x c dx → W c dx H'
  | .stuck => False
def PostT (K : PySem.W.Frag) (W : XK) (φ : List Addr) (H : Hp) (Q : Bool → Hp → Prop) : Res Bool → Prop
  | .ok b st => ∀ φ' H', Keep φ φ' H H' → SR K φ' st H' → Q b H'
  | .err x st => ∀ φ' H' c dx, Keep φ φ' H H' → SR K φ' st H' → ExR K φ' H' x c dx → W c dx H'
  | .stuck => False
def PostS (K : PySem.W.Frag) (W : XK) (φ : List Addr) (H : Hp) (N : Ends) : RS → Prop
  | .nx ρ st => ∀ φ' H' σ, Keep φ φ' H H' → SR K φ' st H' → EnvR K φ' H' ρ σ → N.nx σ H'
  | .bk ρ st => ∀ φ' H' σ, Keep φ φ' H H' → SR K φ' st H' → EnvR K φ' H' ρ σ → N.bk σ H'
  | .ct ρ st => ∀ φ' H' σ, Keep φ φ' H H' → SR K φ' st H' → EnvR K φ' H' ρ σ → N.ct σ H'
  | .rt d st => ∀ φ' H' v, Keep φ φ' H H' → SR K φ' st H' → Rep K φ' H' d v → N.rt v H'
  | .err x st => ∀ φ' H' c dx, Keep φ φ' H H' → SR K φ' st H' → ExR K φ' H' x c dx → W c dx H'
  | .stuck => False
section
variable {K : PySem.W.Frag} {W : XK} {φ φ1 : List Addr} {H H1 : Hp}
theorem PostE.trans {Q : VK} {r : Res D} (k : Keep φ φ1 H H1) (p : PostE K W φ H Q r) : PostE K W φ1 H1 Q r := by
  cases r with
  | ok d st => exact fun φ' H' v k' s r => p φ' H' v (k.trans k') s r
  | err x st => exact fun φ' H' c dx k' s r => p φ' H' c dx (k.trans k') s r
  | stuck => exact p
theorem PostEs.trans {Q : List V → Hp → Prop} {r : Res (List D)} (k : Keep φ φ1 H H1) (p : PostEs K W φ H Q r) : PostEs K W φ1 H1 Q r := by
  cases r with
  | ok d st => exact fun φ' H' v k' s r => p φ' H' v (k.trans k') s r
  | err x st => exact fun φ' H' c dx k' s r => p φ' H' c dx (k.trans k') s r
  | stuck => exact p
theorem PostT.trans {Q : Bool → Hp → Prop} {r : Res Bool} (k : Keep φ φ1 H H1) (p : PostT K W φ H Q r) : PostT K W φ1 H1 Q r := by
  cases r with
  | ok d st => exact fun φ' H' k' s => p φ' H' (k.trans k') s
  | err x st => exact fun φ' H' c dx k' s r => p φ' H' c dx (k.trans k') s r
  | stuck => exact p
theorem PostS.trans {N : Ends} {r : RS} (k : Keep φ φ1 H H1) (p : PostS K W φ H N r) : PostS K W φ1 H1 N r := by
  cases r with
  | nx ρ st => exact fun φ' H' v k' s r => p φ' H' v (k.trans k') s r
  | bk ρ st => exact fun φ' H' v k' s r => p φ' H' v (k.trans k') s r
  | ct ρ st => exact fun φ' H' v k' s r => p φ' H' v (k.trans k') s r
  | rt d st => exact fun φ' H' v k' s r => p φ' H' v (k.trans k') s r
  | err x st => exact fun φ' H' c dx k' s r => p φ' H' c dx (k.trans k') s r
  | stuck => exact p
end

/-! ### readings -/
abbrev FE := En → Sto → Res D
abbrev FA := En → Sto → Res (List D)
abbrev FT := En → Sto → Res Bool
abbrev FS := En → Sto → RS
def tE (K : PySem.W.Frag) (W : XK) (f : FE) : TE := fun σ H Q => ∃ φ ρ st, SR K φ st H ∧ EnvR K φ H ρ σ ∧ PostE K W φ H Q (f ρ st)
def tA (K : PySem.W.Frag) (W : XK) (f : FA) : TA := fun σ H Q => ∃ φ ρ st, SR K φ st H ∧ EnvR K φ H ρ σ ∧ PostEs K W φ H Q (f ρ st)
def tT (K : PySem.W.Frag) (W : XK) (f : FT) : TT := fun σ H Q => ∃ φ ρ st, SR K φ st H ∧ EnvR K φ H ρ σ ∧ PostT K W φ H Q (f ρ st)
def tS (K : PySem.W.Frag) (W : XK) (f : FS) : TS := fun N σ H => ∃ φ ρ st, SR K φ st H ∧ EnvR K φ H ρ σ ∧ PostS K W φ H N (f ρ st)
abbrev DE (X : Cx) (W : XK) (e : Expr) (f : FE) : Prop := PE X e (tE X.K W f)
abbrev DA (X : Cx) (W : XK) (es : List Expr) (f : FA) : Prop := PA X es (tA X.K W f)
abbrev DT (X : Cx) (W : XK) (e : Expr) (f : FT) : Prop := PT X e (tT X.K W f)
abbrev DW (X : Cx) (W : XK) (e : Expr) (f : FT) : Prop := PW X e (tT X.K W f)
abbrev DS (X : Cx) (W : XK) (st : Stmt) (f : FS) : Prop := PS X st (tS X.K W f)
abbrev DSs (X : Cx) (W : XK) (st : List Stmt) (f : FS) : Prop := PSs X st (tS X.K W f)

/-- a state that stands before an expression: the store, the slots, some values held -/
structure At (K : PySem.W.Frag) (φ : List Addr) (ρ : En) (st : Sto) (hd : List D) (σ : St) (H : Hp) (hv : List V) : Prop where
  sr : SR K φ st H
  er : EnvR K φ H ρ σ
  hr : Reps K φ H hd hv
section
variable {K : PySem.W.Frag} {W : XK} {φ : List Addr} {ρ : En} {st : Sto} {hd : List D} {σ : St} {H : Hp} {hv : List V}
theorem runE {Q : VK} {fa : FE} {k : D → Sto → Res D} (a : At K φ ρ st hd σ H hv) (p : PostE K W φ H Q ((fa ρ st).bind k)) :
    tE K W fa σ H fun x H1 => ∃ φ1 st1 d, At K φ1 ρ st1 (d :: hd) σ H1 (x :: hv) ∧ PostE K W φ1 H1 Q (k d st1) := by
  refine ⟨φ, ρ, st, a.sr, a.er, ?_⟩
  cases h : fa ρ st with
  | ok d st1 => rw [h] at p; exact fun φ1 H1 x k1 s1 r1 => ⟨φ1, st1, d, ⟨s1, a.er.keep k1, .cons r1 (a.hr.keep k1)⟩, p.trans k1⟩
  | err x st1 => rw [h] at p; exact p
  | stuck => rw [h] at p; exact p
theorem runEs {Q : List V → Hp → Prop} {fa : FE} {k : D → Sto → Res (List D)} (a : At K φ ρ st hd σ H hv) (p : PostEs K W φ H Q ((fa ρ st).bind k)) :
    tE K W fa σ H fun x H1 => ∃ φ1 st1 d, At K φ1 ρ st1 (d :: hd) σ H1 (x :: hv) ∧ PostEs K W φ1 H1 Q (k d st1) := by
  refine ⟨φ, ρ, st, a.sr, a.er, ?_⟩
  cases h : fa ρ st with
  | ok d st1 => rw [h] at p; exact fun φ1 H1 x k1 s1 r1 => ⟨φ1, st1, d, ⟨s1, a.er.keep k1, .cons r1 (a.hr.keep k1)⟩, p.trans k1⟩
  | err x st1 => rw [h] at p; exact p
  | stuck => rw [h] at p; exact p
theorem runET {Q : Bool → Hp → Prop} {fa : FE} {k : D → Sto → Res Bool} (a : At K φ ρ st hd σ H hv) (p : PostT K W φ H Q ((fa ρ st).bind k)) :
    tE K W fa σ H fun x H1 => ∃ φ1 st1 d, At K φ1 ρ st1 (d :: hd) σ H1 (x :: hv) ∧ PostT K W φ1 H1 Q (k d st1) := by
  refine ⟨φ, ρ, st, a.sr, a.er, ?_⟩
  cases h : fa ρ st with
  | ok d st1 => rw [h] at p; exact fun φ1 H1 x k1 s1 r1 => ⟨φ1, st1, d, ⟨s1, a.er.keep k1, .cons r1 (a.hr.keep k1)⟩, p.trans k1⟩
  | err x st1 => rw [h] at p; exact p
  | stuck => rw [h] at p; exact p
theorem runEA {Q : VK} {fa : FA} {k : List D → Sto → Res D} (a : At K φ ρ st hd σ H hv) (p : PostE K W φ H Q ((fa ρ st).bind k)) :
    tA K W fa σ H fun xs H1 => ∃ φ1 st1 ds, At K φ1 ρ st1 (ds ++ hd) σ H1 (xs ++ hv) ∧ Reps K φ1 H1 ds xs ∧ PostE K W φ1 H1 Q (k ds st1) := by
  refine ⟨φ, ρ, st, a.sr, a.er, ?_⟩
  cases h : fa ρ st with
  | ok d st1 => rw [h] at p; exact fun φ1 H1 x k1 s1 r1 => ⟨φ1, st1, d, ⟨s1, a.er.keep k1, r1.append (a.hr.keep k1)⟩, r1, p.trans k1⟩
  | err x st1 => rw [h] at p; exact p
  | stuck => rw [h] at p; exact p
theorem runTT {Q : Bool → Hp → Prop} {fa : FT} {k : Bool → Sto → Res Bool} (a : At K φ ρ st hd σ H hv) (p : PostT K W φ H Q ((fa ρ st).bind k)) :
    tT K W fa σ H fun b H1 => ∃ φ1 st1, At K φ1 ρ st1 hd σ H1 hv ∧ PostT K W φ1 H1 Q (k b st1) := by
  refine ⟨φ, ρ, st, a.sr, a.er, ?_⟩
  cases h : fa ρ st with
  | ok d st1 => rw [h] at p; exact fun φ1 H1 k1 s1 => ⟨φ1, st1, ⟨s1, a.er.keep k1, a.hr.keep k1⟩, p.trans k1⟩
  | err x st1 => rw [h] at p; exact p
  | stuck => rw [h] at p; exact p
theorem runTE {Q : VK} {fa : FT} {k : Bool → Sto → Res D} (a : At K φ ρ st hd σ H hv) (p : PostE K W φ H Q ((fa ρ st).bind k)) :
    tT K W fa σ H fun b H1 => ∃ φ1 st1, At K φ1 ρ st1 hd σ H1 hv ∧ PostE K W φ1 H1 Q (k b st1) := by
  refine ⟨φ, ρ, st, a.sr, a.er, ?_⟩
  cases h : fa ρ st with
  | ok d st1 => rw [h] at p; exact fun φ1 H1 k1 s1 => ⟨φ1, st1, ⟨s1, a.er.keep k1, a.hr.keep k1⟩, p.trans k1⟩
  | err x st1 => rw [h] at p; exact p
  | stuck => rw [h] at p; exact p
end
/-- the same for statements -/
def RS.ofE (r : Res D) (k : D → Sto → RS) : RS := match r with
  | .ok d st => k d st
  | .err x st => .err x st
  | .stuck => .stuck
def RS.ofT (r : Res Bool) (k : Bool → Sto → RS) : RS := match r with
  | .ok d st => k d st
  | .err x st => .err x st
  | .stuck => .stuck
def RS.ofA (r : Res (List D)) (k : List D → Sto → RS) : RS := match r with
  | .ok d st => k d st
  | .err x st => .err x st
  | .stuck => .stuck
def RS.andThen (r : RS) (k : En → Sto → RS) : RS := match r with
  | .nx ρ st => k ρ st
  | r => r
section
variable {K : PySem.W.Frag} {W : XK} {φ : List Addr} {ρ : En} {st : Sto} {hd : List D} {σ : St} {H : Hp} {hv : List V}
theorem runSE {N : Ends} {fa : FE} {k : D → Sto → RS} (a : At K φ ρ st hd σ H hv) (p : PostS K W φ H N (RS.ofE (fa ρ st) k)) :
    tE K W fa σ H fun x H1 => ∃ φ1 st1 d, At K φ1 ρ st1 (d :: hd) σ H1 (x :: hv) ∧ PostS K W φ1 H1 N (k d st1) := by
  refine ⟨φ, ρ, st, a.sr, a.er, ?_⟩
  cases h : fa ρ st with
  | ok d st1 => rw [h] at p; exact fun φ1 H1 x k1 s1 r1 => ⟨φ1, st1, d, ⟨s1, a.er.keep k1, .cons r1 (a.hr.keep k1)⟩, PostS.trans k1 p⟩
  | err x st1 => rw [h] at p; exact p
  | stuck => rw [h] at p; exact p
theorem runST {N : Ends} {fa : FT} {k : Bool → Sto → RS} (a : At K φ ρ st hd σ H hv) (p : PostS K W φ H N (RS.ofT (fa ρ st) k)) :
    tT K W fa σ H fun x H1 => ∃ φ1 st1, At K φ1 ρ st1 hd σ H1 hv ∧ PostS K W φ1 H1 N (k x st1) := by
  refine ⟨φ, ρ, st, a.sr, a.er, ?_⟩
  cases h : fa ρ st with
  | ok d st1 => rw [h] at p; exact fun φ1 H1 k1 s1 => ⟨φ1, st1, ⟨s1, a.er.keep k1, a.hr.keep k1⟩, PostS.trans k1 p⟩
  | err x st1 => rw [h] at p; exact p
  | stuck => rw [h] at p; exact p
end
theorem At.of {K : PySem.W.Frag} {φ : List Addr} {ρ : En} {st : Sto} {σ : St} {H : Hp} (s : SR K φ st H) (e : EnvR K φ H ρ σ) : At K φ ρ st [] σ H [] := ⟨s, e, .nil⟩
theorem PE.monoT {X : Cx} {e : Expr} {t t' : TE} (h : PE X e t) (m : ∀ σ H Q, t' σ H Q → t σ H Q) : PE X e t' := ⟨fun pins s σ H Q I q => h.run pins s σ H Q I (m σ H Q q)⟩
theorem PT.monoT {X : Cx} {e : Expr} {t t' : TT} (h : PT X e t) (m : ∀ σ H Q, t' σ H Q → t σ H Q) : PT X e t' := ⟨fun pins s σ H Q I q => h.run pins s σ H Q I (m σ H Q q)⟩
theorem PW.monoT {X : Cx} {e : Expr} {t t' : TT} (h : PW X e t) (m : ∀ σ H Q, t' σ H Q → t σ H Q) : PW X e t' := ⟨fun wh pins s σ H Q I q => h.run wh pins s σ H Q I (m σ H Q q)⟩
theorem PA.monoT {X : Cx} {e : List Expr} {t t' : TA} (h : PA X e t) (m : ∀ σ H Q, t' σ H Q → t σ H Q) : PA X e t' := ⟨fun pos pins s σ H Q I q => h.run pos pins s σ H Q I (m σ H Q q)⟩
theorem PS.monoT {X : Cx} {e : Stmt} {t t' : TS} (h : PS X e t) (m : ∀ N σ H, t' N σ H → t N σ H) : PS X e t' := ⟨fun pins s σ H N I q => h.run pins s σ H N I (m N σ H q)⟩
theorem PSs.monoT {X : Cx} {e : List Stmt} {t t' : TS} (h : PSs X e t) (m : ∀ N σ H, t' N σ H → t N σ H) : PSs X e t' := ⟨fun pins s σ H N I q => h.run pins s σ H N I (m N σ H q)⟩
end DL

/-! DL2: expressions. -/
namespace DL
open PySem PySem.Spec L2
section
variable {K : PySem.W.Frag} {W : XK} {φ : List Addr} {ρ : En} {st : Sto} {hd : List D} {σ : L2.St} {H : Hp} {hv : List V}
theorem PostE.mono {Q Q' : VK} (h : ∀ v H, Q v H → Q' v H) {r : Res D} (p : PostE K W φ H Q r) : PostE K W φ H Q' r := by
  cases r with
  | ok d st => exact fun φ' H' v k s r => h _ _ (p φ' H' v k s r)
  | err x st => exact p
  | stuck => exact p
theorem PostEs.mono {Q Q' : List V → Hp → Prop} (h : ∀ v H, Q v H → Q' v H) {r : Res (List D)} (p : PostEs K W φ H Q r) : PostEs K W φ H Q' r := by
  cases r with
  | ok d st => exact fun φ' H' v k s r => h _ _ (p φ' H' v k s r)
  | err x st => exact p
  | stuck => exact p
theorem PostT.mono {Q Q' : Bool → Hp → Prop} (h : ∀ v H, Q v H → Q' v H) {r : Res Bool} (p : PostT K W φ H Q r) : PostT K W φ H Q' r := by
  cases r with
  | ok d st => exact fun φ' H' k s => h _ _ (p φ' H' k s)
  | err x st => exact p
  | stuck => exact p
theorem tE_mono {f : FE} {Q Q' : VK} (h : ∀ v H, Q v H → Q' v H) (p : tE K W f σ H Q) : tE K W f σ H Q' := by
  obtain ⟨φ, ρ, st, s, e, p⟩ := p
  exact ⟨φ, ρ, st, s, e, p.mono h⟩
theorem tA_mono {f : FA} {Q Q' : List V → Hp → Prop} (h : ∀ v H, Q v H → Q' v H) (p : tA K W f σ H Q) : tA K W f σ H Q' := by
  obtain ⟨φ, ρ, st, s, e, p⟩ := p
  exact ⟨φ, ρ, st, s, e, p.mono h⟩
theorem tT_mono {f : FT} {Q Q' : Bool → Hp → Prop} (h : ∀ v H, Q v H → Q' v H) (p : tT K W f σ H Q) : tT K W f σ H Q' := by
  obtain ⟨φ, ρ, st, s, e, p⟩ := p
  exact ⟨φ, ρ, st, s, e, p.mono h⟩
theorem PostE.now {Q : VK} {d : D} {v : V} (s : SR K φ st H) (r : Rep K φ H d v) (p : PostE K W φ H Q (.ok d st)) : Q v H := p φ H v .refl s r
theorem PostT.now {Q : Bool → Hp → Prop} {b : Bool} (s : SR K φ st H) (p : PostT K W φ H Q (.ok b st)) : Q b H := p φ H .refl s

/-! ### two in a row -/
theorem runE2 {Q : VK} {fa fb : FE} {g : D → D → Sto → Res D} (a : At K φ ρ st hd σ H hv) (p : PostE K W φ H Q ((fa ρ st).bind fun d1 st1 => (fb ρ st1).bind fun d2 st2 => g d1 d2 st2)) :
    tE K W fa σ H fun x H1 => tE K W fb σ H1 fun y H2 => ∃ φ2 st2 d1 d2, At K φ2 ρ st2 (d2 :: d1 :: hd) σ H2 (y :: x :: hv) ∧ PostE K W φ2 H2 Q (g d1 d2 st2) :=
  tE_mono (fun _ _ ⟨_, _, d1, a1, p1⟩ => tE_mono (fun _ _ ⟨φ2, st2, d2, a2, p2⟩ => ⟨φ2, st2, d1, d2, a2, p2⟩) (runE a1 p1)) (runE a p)
end

/-! ### names, constants -/
section
variable {X : Cx} {W : XK} {pos : Pos}
def e_var (i : Nat) : FE := fun ρ st => match ρ[i]? with
  | some (some d) => .ok d st
  | _ => .stuck
theorem de_of_var {e : Expr} {i : Nat} (h : PE X e (tVar i)) : DE X W e (e_var i) := PE.monoT h fun σ H Q ⟨φ, ρ, st, s, er, p⟩ => by
  unfold e_var at p
  cases h1 : ρ[i]? with
  | none => rw [h1] at p; exact p.elim
  | some o =>
    cases o with
    | none => rw [h1] at p; exact p.elim
    | some d =>
      rw [h1] at p
      obtain ⟨v, e1, r⟩ := er.val i d h1
      exact ⟨v, e1, PostE.now s r p⟩
theorem de_var (i : Nat) {x : Str} (hN : X.N[i]? = some x := by rfl) (hv : Vis X.env.scope x := by first | exact Or.inl rfl | exact Or.inr (Or.inl rfl) | exact Or.inr (Or.inr rfl))
    (hd : (x == ("__debug__" : Str)) = false := by decide) (hcd : (x == ("__classdict__" : Str)) = false := by decide) : DE X W (.Name x pos) (e_var i) := de_of_var (pe_var hN hv hd hcd)
def e_c (d : D) : FE := fun _ st => .ok d st
theorem de_of_c {e : Expr} {d : D} {v : V} (h : PE X e (tC v)) (r : ∀ φ H, Rep X.K φ H d v) : DE X W e (e_c d) := PE.monoT h fun σ H Q ⟨φ, ρ, st, s, er, p⟩ => PostE.now s (r φ H) p
theorem de_int {i j} : DE X W (.Constant (.int i) j pos) (e_c (.int i)) := de_of_c pe_int fun _ _ => .int _
theorem de_bl {b j} : DE X W (.Constant (.bool b) j pos) (e_c (.bl b)) := de_of_c pe_bl fun _ _ => .bl _
theorem de_non {j} : DE X W (.Constant .none j pos) (e_c .non) := de_of_c pe_non fun _ _ => .non
theorem de_str {x j} : DE X W (.Constant (.str x) j pos) (e_c (.str x)) := de_of_c pe_str fun _ _ => .str _
/-- a module's int, text -/
theorem de_gint {x : Str} {i : Int} (hg : Gl X x) (hm : ∃ t, X.mg x = some (.int i t)) (hd : (x == ("__debug__" : Str)) = false := by decide) : DE X W (.Name x pos) (e_c (.int i)) := by
  obtain ⟨t, e⟩ := hm
  exact de_of_c (pe_glob (v := .int i) hg e ⟨t, rfl⟩ hd) fun _ _ => .int _
theorem de_gstr {x z : Str} (hg : Gl X x) (hm : ∃ t, X.mg x = some (.str z t)) (hd : (x == ("__debug__" : Str)) = false := by decide) : DE X W (.Name x pos) (e_c (.str z)) := by
  obtain ⟨t, e⟩ := hm
  exact de_of_c (pe_glob (v := .str z) hg e ⟨t, rfl⟩ hd) fun _ _ => .str _
/-- a built-in class as a value -/
theorem de_ty {x : Str} {n : String} (hg : Gl X x) (hm : X.mg x = none) (hv : bootBuiltins x = some (.type n)) (hn : x ≠ "__name__" := by decide) (hd : (x == ("__debug__" : Str)) = false := by decide) : DE X W (.Name x pos) (e_c (.ty n)) :=
  de_of_c (pe_bltn (v := .ty n) hg hm hv rfl hn hd) fun _ _ => .ty n
/-- what the mirror does not serve -/
def e_stuck : FE := fun _ _ => .stuck
theorem de_stuck {e : Expr} : DE X W e e_stuck := ⟨fun _ _ _ _ _ _ ⟨_, _, _, _, _, p⟩ => p.elim⟩

/-! ### operators -/
def rOp (K : PySem.W.Frag) (W : XK) (g : D → D → Sto → Res D) : R2 := fun x y H Q => ∃ φ st d1 d2, SR K φ st H ∧ Rep K φ H d1 x ∧ Rep K φ H d2 y ∧ PostE K W φ H Q (g d1 d2 st)
abbrev OpD (X : Cx) (W : XK) (f : Value → Value → Sem Value) (g : D → D → Sto → Res D) : Prop := OpR X f (rOp X.K W g)
def rUn (K : PySem.W.Frag) (W : XK) (g : D → Sto → Res D) : V → Hp → VK → Prop := fun x H Q => ∃ φ st d, SR K φ st H ∧ Rep K φ H d x ∧ PostE K W φ H Q (g d st)
def rCB (K : PySem.W.Frag) (W : XK) (g : List D → Sto → Res D) : List V → Hp → VK → Prop := fun vs H Q => ∃ φ st ds, SR K φ st H ∧ Reps K φ H ds vs ∧ PostE K W φ H Q (g ds st)
abbrev CallD (X : Cx) (W : XK) (f : Value) (g : List D → Sto → Res D) : Prop := CallR X f (rCB X.K W g)
def rMt (K : PySem.W.Frag) (W : XK) (g : D → List D → Sto → Res D) : V → List V → Hp → VK → Prop := fun x vs H Q => ∃ φ st d ds, SR K φ st H ∧ Rep K φ H d x ∧ Reps K φ H ds vs ∧ PostE K W φ H Q (g d ds st)

variable {a b c e : Expr} {es : List Expr} {fa fb fc : FE} {fs : FA}
def e_bin (g : D → D → Sto → Res D) (fa fb : FE) : FE := fun ρ st => (fa ρ st).bind fun d1 st1 => (fb ρ st1).bind fun d2 st2 => g d1 d2 st2
theorem bin_run {K : PySem.W.Frag} {σ : L2.St} {H : Hp} {Q : VK} {g : D → D → Sto → Res D} (h : tE K W (e_bin g fa fb) σ H Q) : tOp (rOp K W g) (tE K W fa) (tE K W fb) σ H Q := by
  obtain ⟨φ, ρ, st, s, er, p⟩ := h
  refine tE_mono (fun x H1 h1 => tE_mono (fun y H2 ⟨φ2, st2, d1, d2, a, p⟩ => ?_) h1) (runE2 (At.of s er) p)
  obtain ⟨s2, _, r⟩ := a
  cases r with
  | cons r2 r => cases r with
    | cons r1 _ => exact ⟨φ2, st2, d1, d2, s2, r1, r2, p⟩
theorem de_bin {op : Operator} {g : D → D → Sto → Res D} (ho : OpD X W (binaryOp op) g) (ha : DE X W a fa) (hb : DE X W b fb) : DE X W (.BinOp a op b pos) (e_bin g fa fb) :=
  PE.monoT (pe_op ho ha hb) fun _ _ _ h => bin_run h
theorem de_cmp {op : CmpOp} {g : D → D → Sto → Res D} (ho : OpD X W (compareOp op) g) (ha : DE X W a fa) (hb : DE X W b fb) (hm : behindInMarks op b = false) : DE X W (.Compare a [op] [b] pos) (e_bin g fa fb) :=
  PE.monoT (pe_cmpR ho ha hb hm) fun _ _ _ h => bin_run h
def boolD : D → Sto → Res Bool
  | .bl b, st => .ok b st
  | _, _ => .stuck
theorem post_bool {K : PySem.W.Frag} {φ : List Addr} {H : Hp} {Q : Bool → Hp → Prop} {r : Res D} (p : PostT K W φ H Q (r.bind boolD)) : PostE K W φ H (fun x H' => ∃ k, x = .bl k ∧ Q k H') r := by
  cases r with
  | ok d st =>
    cases d with
    | bl b => intro φ' H' v k s r; cases r; exact ⟨b, rfl, p φ' H' k s⟩
    | _ => exact p.elim
  | err x st => exact p
  | stuck => exact p
def t_val (f : FE) : FT := fun ρ st => (f ρ st).bind boolD
theorem dt_cmp {op : CmpOp} {g : D → D → Sto → Res D} (ho : OpD X W (compareOp op) g) (ha : DE X W a fa) (hb : DE X W b fb) (hm : behindInMarks op b = false) : DT X W (.Compare a [op] [b] pos) (t_val (e_bin g fa fb)) :=
  PT.monoT (pt_cmpR ho ha hb hm) fun σ H Q ⟨φ, ρ, st, s, er, p⟩ => bin_run ⟨φ, ρ, st, s, er, post_bool p⟩
/-- a op1 b op2 c -/
def e_chain (g g' : D → D → Sto → Res D) (fa fb fc : FE) : FE := fun ρ st => (fa ρ st).bind fun d1 st1 => (fb ρ st1).bind fun d2 st2 => (g d1 d2 st2).bind fun d st3 => match d with
  | .bl true => (fc ρ st3).bind fun d3 st4 => g' d2 d3 st4
  | .bl false => .ok (.bl false) st3
  | _ => .stuck
theorem chain_run {K : PySem.W.Frag} {σ : L2.St} {H : Hp} {Q : VK} {g g' : D → D → Sto → Res D} (h : tE K W (e_chain g g' fa fb fc) σ H Q) : tChain (rOp K W g) (rOp K W g') (tE K W fa) (tE K W fb) (tE K W fc) σ H Q := by
  obtain ⟨φ, ρ, st, s, er, p⟩ := h
  refine tE_mono (fun x H1 ⟨φ1, st1, d1, a1, p1⟩ => tE_mono (fun y H2 ⟨φ2, st2, d2, a2, p2⟩ => ?_) (runE a1 p1)) (runE (At.of s er) p)
  obtain ⟨s2, er2, r⟩ := a2
  cases r with
  | cons r2 r => cases r with
    | cons r1 _ =>
      refine ⟨φ2, st2, d1, d2, s2, r1, r2, ?_⟩
      cases hg : g d1 d2 st2 with
      | ok d st3 =>
        rw [hg] at p2
        intro φ3 H3 v k3 s3 r3
        have p3 := PostE.trans k3 p2
        cases d with
        | bl b =>
          cases r3
          cases b with
          | false => exact ⟨false, rfl, by rw [if_neg Bool.false_ne_true]; exact PostE.now s3 (.bl _) p3⟩
          | true =>
            refine ⟨true, rfl, ?_⟩
            rw [if_pos rfl]
            refine tE_mono (fun z H4 ⟨φ4, st4, d4, a4, p4⟩ => ?_) (runE (hd := [d2]) (hv := [y]) ⟨s3, er2.keep k3, .cons (r2.keep k3) .nil⟩ p3)
            obtain ⟨s4, _, r⟩ := a4
            cases r with
            | cons q1 r => cases r with
              | cons q2 _ => exact ⟨φ4, st4, d2, d4, s4, q2, q1, p4⟩
        | _ => exact p3.elim
      | err x st3 => rw [hg] at p2; exact p2
      | stuck => rw [hg] at p2; exact p2
theorem de_chain {op op' : CmpOp} {g g' : D → D → Sto → Res D} (ho : OpD X W (compareOp op) g) (ho' : OpD X W (compareOp op') g') (ha : DE X W a fa) (hb : DE X W b fb) (hc : DE X W c fc)
    (hm : lastMarks [op, op'] [b, c] = false := by with_unfolding_all rfl) : DE X W (.Compare a [op, op'] [b, c] pos) (e_chain g g' fa fb fc) := PE.monoT (pe_chain ho ho' ha hb hc hm) fun _ _ _ h => chain_run h
theorem dt_chain {op op' : CmpOp} {g g' : D → D → Sto → Res D} (ho : OpD X W (compareOp op) g) (ho' : OpD X W (compareOp op') g') (ha : DE X W a fa) (hb : DE X W b fb) (hc : DE X W c fc)
    (hm : lastMarks [op, op'] [b, c] = false := by with_unfolding_all rfl) : DT X W (.Compare a [op, op'] [b, c] pos) (t_val (e_chain g g' fa fb fc)) :=
  PT.monoT (pt_chain ho ho' ha hb hc hm) fun σ H Q ⟨φ, ρ, st, s, er, p⟩ => chain_run ⟨φ, ρ, st, s, er, post_bool p⟩
def e_un (g : D → Sto → Res D) (fa : FE) : FE := fun ρ st => (fa ρ st).bind g
theorem de_un {op : UnaryOp} {g : D → Sto → Res D} (ho : UnR X (unaryOp op) (rUn X.K W g)) (ha : DE X W a fa) : DE X W (.UnaryOp op a pos) (e_un g fa) :=
  PE.monoT (pe_un ho ha) fun σ H Q ⟨φ, ρ, st, s, er, p⟩ => tE_mono (fun x H1 ⟨φ1, st1, d1, a1, p1⟩ => by
    obtain ⟨s1, _, r⟩ := a1
    cases r with
    | cons r1 _ => exact ⟨φ1, st1, d1, s1, r1, p1⟩) (runE (At.of s er) p)

/-! ### lists, tuples: what they hold -/
def lstOf (st : Sto) : D → Option (List D)
  | .lst ds => some ds
  | .ro ds => some ds
  | .hnd n => match st[n]? with
    | some (.lst ds) => some ds
    | none => none
  | _ => none
def seqOf (st : Sto) : D → Option (List D)
  | .tup ds => some ds
  | d => lstOf st d
section
variable {K : PySem.W.Frag} {φ : List Addr} {st : Sto} {H : Hp} {d : D} {v : V} {ds : List D}
theorem lstOf_sq (s : SR K φ st H) (r : Rep K φ H d v) (h : lstOf st d = some ds) : ∃ a xs, v = .ref a ∧ SqL K H a xs ∧ Reps K φ H ds xs := by
  cases r with
  | lst h1 r => cases h; exact ⟨_, _, rfl, h1.sq, r⟩
  | ro h1 r => cases h; exact ⟨_, _, rfl, h1.sq, r⟩
  | @hnd n a h1 =>
    unfold lstOf at h
    simp only at h
    cases hc : st[n]? with
    | none => rw [hc] at h; cases h
    | some c =>
      cases c with
      | lst ds' =>
        rw [hc] at h
        cases h
        obtain ⟨a', e1, xs, e2, r⟩ := s.cell n _ hc
        rw [h1] at e1; cases e1
        exact ⟨a, xs, rfl, .inl (.inl e2), r⟩
  | _ => cases h
theorem seqOf_sq (s : SR K φ st H) (r : Rep K φ H d v) (h : seqOf st d = some ds) : ∃ a xs, v = .ref a ∧ (SqL K H a xs ∨ SqT K H a xs) ∧ Reps K φ H ds xs := by
  cases d with
  | tup ds' => cases r with
    | tup h1 r => cases h; exact ⟨_, _, rfl, .inr h1.sq, r⟩
  | _ =>
    obtain ⟨a, xs, e, q, r⟩ := lstOf_sq s r h
    exact ⟨a, xs, e, .inl q, r⟩
end
/-- the size of what is held: the lists of the layer are never longer than sizeLine -/
theorem small_sz {n : Nat} (h : n ≤ 1000000) : n ≤ sizeLine := by rw [sizeLine_eq]; omega

/-! ### truth -/
def truD : D → Sto → Res Bool
  | .non, st => .ok false st
  | .bl b, st => .ok b st
  | .int i, st => .ok (i != 0) st
  | .str x, st => if x.length ≤ sizeLine then .ok ((x.length : Int) != 0) st else .stuck
  | .tup ds, st => .ok (!ds.isEmpty) st
  | d, st => match lstOf st d with
    | some ds => .ok (!ds.isEmpty) st
    | none => .stuck
theorem isEmpty_reps {K : PySem.W.Frag} {φ : List Addr} {H : Hp} {ds : List D} {vs : List V} (r : Reps K φ H ds vs) : (!ds.isEmpty) = !vs.isEmpty := by
  cases r <;> rfl
theorem truD_ok {K : PySem.W.Frag} {φ : List Addr} {st : Sto} {H : Hp} {d : D} {v : V} {Q : Bool → Hp → Prop} (s : SR K φ st H) (r : Rep K φ H d v) (p : PostT K W φ H Q (truD d st)) : ∃ k, TruV K v H k ∧ Q k H := by
  have lists : (truD d st = match lstOf st d with | some ds => .ok (!ds.isEmpty) st | none => .stuck) → ∃ k, TruV K v H k ∧ Q k H := fun e => by
    rw [e] at p
    cases hl : lstOf st d with
    | none => rw [hl] at p; exact p.elim
    | some ds =>
      rw [hl] at p
      obtain ⟨a, xs, rfl, q, rr⟩ := lstOf_sq s r hl
      exact ⟨_, .inl ⟨xs, q, isEmpty_reps rr⟩, PostT.now s p⟩
  cases r with
  | non => exact ⟨_, rfl, PostT.now s p⟩
  | bl b => exact ⟨_, rfl, PostT.now s p⟩
  | int i => exact ⟨_, rfl, PostT.now s p⟩
  | str x =>
    unfold truD at p
    simp only at p
    by_cases h : x.length ≤ sizeLine
    · rw [if_pos h] at p; exact ⟨_, ⟨h, rfl⟩, PostT.now s p⟩
    · rw [if_neg h] at p; exact p.elim
  | tup h1 rr => exact ⟨_, .inr (.inl ⟨_, h1.sq, isEmpty_reps rr⟩), PostT.now s p⟩
  | lst h1 rr => exact lists rfl
  | ro h1 rr => exact lists rfl
  | hnd h1 => exact lists rfl
  | ty n => exact p.elim
def t_tru (f : FE) : FT := fun ρ st => (f ρ st).bind truD
/-- any expression whose test is its value's truth (a name, a call, a subscript, a field ..) -/
theorem dt_tru (ha : DE X W a fa) (he : ∀ whole, isTrue a X.env whole = (do let v ← whole; standAt a.pos; holding [v] (truthy v)) := by intro _; rfl) : DT X W a (t_tru fa) :=
  PT.monoT (pt_truth ha he) fun σ H Q ⟨φ, ρ, st, s, er, p⟩ => by
    refine ⟨φ, ρ, st, s, er, ?_⟩
    unfold t_tru at p
    cases h : fa ρ st with
    | ok d st1 => rw [h] at p; exact fun φ1 H1 v k1 s1 r1 => truD_ok s1 r1 (PostT.trans k1 p)
    | err x st1 => rw [h] at p; exact p
    | stuck => rw [h] at p; exact p
/-! and, or, not as tests -/
def t_and (ta tb : FT) : FT := fun ρ st => (ta ρ st).bind fun c st1 => if c = true then tb ρ st1 else .ok false st1
def t_or (ta tb : FT) : FT := fun ρ st => (ta ρ st).bind fun c st1 => if c = true then .ok true st1 else tb ρ st1
def t_not (ta : FT) : FT := fun ρ st => (ta ρ st).bind fun c st1 => .ok (!c) st1
variable {ta tb : FT} {rest : List Expr}
theorem dw_and1 (ha : DT X W a ta) : DW X W (.BoolOp .And [a] pos) ta := pw_and1 ha
theorem dw_or1 (ha : DT X W a ta) : DW X W (.BoolOp .Or [a] pos) ta := pw_or1 ha
theorem dw_and (ha : DT X W a ta) (hb : DW X W (.BoolOp .And (b :: rest) pos) tb) : DW X W (.BoolOp .And (a :: b :: rest) pos) (t_and ta tb) :=
  PW.monoT (pw_and ha hb) fun σ H Q ⟨φ, ρ, st, s, er, p⟩ => tT_mono (fun c H1 ⟨φ1, st1, a1, p1⟩ => by
    cases c with
    | true => rw [if_pos rfl] at p1 ⊢; exact ⟨φ1, ρ, st1, a1.sr, a1.er, p1⟩
    | false => rw [if_neg Bool.false_ne_true] at p1 ⊢; exact PostT.now a1.sr p1) (runTT (At.of s er) p)
theorem dw_or (ha : DT X W a ta) (hb : DW X W (.BoolOp .Or (b :: rest) pos) tb) : DW X W (.BoolOp .Or (a :: b :: rest) pos) (t_or ta tb) :=
  PW.monoT (pw_or ha hb) fun σ H Q ⟨φ, ρ, st, s, er, p⟩ => tT_mono (fun c H1 ⟨φ1, st1, a1, p1⟩ => by
    cases c with
    | false => rw [if_neg Bool.false_ne_true] at p1 ⊢; exact ⟨φ1, ρ, st1, a1.sr, a1.er, p1⟩
    | true => rw [if_pos rfl] at p1 ⊢; exact PostT.now a1.sr p1) (runTT (At.of s er) p)
theorem dt_not (ha : DT X W a ta) : DT X W (.UnaryOp .Not a pos) (t_not ta) :=
  PT.monoT (pt_not ha) fun σ H Q ⟨φ, ρ, st, s, er, p⟩ => tT_mono (fun c H1 ⟨φ1, st1, a1, p1⟩ => PostT.now a1.sr p1) (runTT (At.of s er) p)
theorem dw_dt (h : DW X W a ta) : DT X W a ta := PW.pt h
/-! and, or, not as values (by truth) -/
def e_and (fa fb : FE) : FE := fun ρ st => (fa ρ st).bind fun d st1 => (truD d st1).bind fun k st2 => if k = true then fb ρ st2 else .ok d st2
def e_or (fa fb : FE) : FE := fun ρ st => (fa ρ st).bind fun d st1 => (truD d st1).bind fun k st2 => if k = true then .ok d st2 else fb ρ st2
def e_not (fa : FE) : FE := fun ρ st => (fa ρ st).bind fun d st1 => (truD d st1).bind fun k st2 => .ok (.bl (!k)) st2
theorem truE_ok {K : PySem.W.Frag} {φ : List Addr} {st : Sto} {H : Hp} {d : D} {v : V} {Q : VK} {k : Bool → Sto → Res D} (s : SR K φ st H) (r : Rep K φ H d v) (p : PostE K W φ H Q ((truD d st).bind k)) : ∃ c, TruV K v H c ∧ PostE K W φ H Q (k c st) := by
  have e : ∀ (b : Bool) (st' : Sto), truD d st = .ok b st' → st' = st := fun b st' e => by
    unfold truD at e
    repeat' (split at e)
    all_goals (first | (cases e; rfl) | cases e)
  cases h : truD d st with
  | ok b st' =>
    rw [h] at p
    obtain rfl := e b st' h
    obtain ⟨c, t, q⟩ := truD_ok (W := W) (Q := fun c _ => c = b) s r (by rw [h]; exact fun _ _ _ _ => rfl)
    subst q
    exact ⟨c, t, p⟩
  | err x st' => exact absurd h (by unfold truD; repeat' split; all_goals (first | (intro z; cases z) | skip))
  | stuck => rw [h] at p; exact p.elim
theorem de_one {op} (h : DE X W a fa) : DE X W (.BoolOp op [a] pos) fa := pe_one h
theorem de_and (ha : DE X W a fa) (hb : DE X W (.BoolOp .And (b :: rest) pos) fb) : DE X W (.BoolOp .And (a :: b :: rest) pos) (e_and fa fb) :=
  PE.monoT (pe_andT ha hb) fun σ H Q ⟨φ, ρ, st, s, er, p⟩ => tE_mono (fun x H1 ⟨φ1, st1, d1, a1, p1⟩ => by
    obtain ⟨s1, e1, r⟩ := a1
    cases r with
    | cons r1 _ =>
      obtain ⟨c, t, p2⟩ := truE_ok s1 r1 p1
      refine ⟨c, t, ?_⟩
      cases c with
      | true => rw [if_pos rfl] at p2 ⊢; exact ⟨φ1, ρ, st1, s1, e1, p2⟩
      | false => rw [if_neg Bool.false_ne_true] at p2 ⊢; exact PostE.now s1 r1 p2) (runE (At.of s er) p)
theorem de_or (ha : DE X W a fa) (hb : DE X W (.BoolOp .Or (b :: rest) pos) fb) : DE X W (.BoolOp .Or (a :: b :: rest) pos) (e_or fa fb) :=
  PE.monoT (pe_orT ha hb) fun σ H Q ⟨φ, ρ, st, s, er, p⟩ => tE_mono (fun x H1 ⟨φ1, st1, d1, a1, p1⟩ => by
    obtain ⟨s1, e1, r⟩ := a1
    cases r with
    | cons r1 _ =>
      obtain ⟨c, t, p2⟩ := truE_ok s1 r1 p1
      refine ⟨c, t, ?_⟩
      cases c with
      | false => rw [if_neg Bool.false_ne_true] at p2 ⊢; exact ⟨φ1, ρ, st1, s1, e1, p2⟩
      | true => rw [if_pos rfl] at p2 ⊢; exact PostE.now s1 r1 p2) (runE (At.of s er) p)
theorem de_not (ha : DE X W a fa) : DE X W (.UnaryOp .Not a pos) (e_not fa) :=
  PE.monoT (pe_notT ha) fun σ H Q ⟨φ, ρ, st, s, er, p⟩ => tE_mono (fun x H1 ⟨φ1, st1, d1, a1, p1⟩ => by
    obtain ⟨s1, e1, r⟩ := a1
    cases r with
    | cons r1 _ =>
      obtain ⟨c, t, p2⟩ := truE_ok s1 r1 p1
      exact ⟨c, t, PostE.now s1 (.bl _) p2⟩) (runE (At.of s er) p)
/-- a if t else b -/
def e_if (tc : FT) (fa fb : FE) : FE := fun ρ st => (tc ρ st).bind fun c st1 => if c = true then fa ρ st1 else fb ρ st1
theorem de_if {tc : FT} (hc : DT X W c tc) (ha : DE X W a fa) (hb : DE X W b fb) : DE X W (.IfExp c a b pos) (e_if tc fa fb) :=
  PE.monoT (pe_ifExp hc ha hb) fun σ H Q ⟨φ, ρ, st, s, er, p⟩ => tT_mono (fun c H1 ⟨φ1, st1, a1, p1⟩ => by
    cases c with
    | true => rw [if_pos rfl] at p1 ⊢; exact ⟨φ1, ρ, st1, a1.sr, a1.er, p1⟩
    | false => rw [if_neg Bool.false_ne_true] at p1 ⊢; exact ⟨φ1, ρ, st1, a1.sr, a1.er, p1⟩) (runTE (At.of s er) p)

/-! ### arguments -/
def evs : List FE → FA
  | [], _, st => .ok [] st
  | f :: fs, ρ, st => (f ρ st).bind fun d st1 => (evs fs ρ st1).bind fun ds st2 => .ok (d :: ds) st2
theorem evs_len : ∀ {fs : List FE} {ρ : En} {st : Sto} {ds : List D} {st' : Sto}, evs fs ρ st = .ok ds st' → ds.length = fs.length
  | [], _, _, _, _, e => by cases e; rfl
  | f :: fs, ρ, st, ds, st', e => by
    unfold evs at e
    cases h : f ρ st with
    | ok d st1 =>
      rw [h] at e
      simp only [Res.bind_ok] at e
      cases h2 : evs fs ρ st1 with
      | ok ds' st2 =>
        rw [h2] at e
        cases e
        rw [List.length_cons, List.length_cons, evs_len h2]
      | err x st2 => rw [h2] at e; cases e
      | stuck => rw [h2] at e; cases e
    | err x st1 => rw [h] at e; cases e
    | stuck => rw [h] at e; cases e
theorem da_nil : DA X W [] (evs []) := PA.monoT pa_nil fun σ H Q ⟨φ, ρ, st, s, er, p⟩ => p φ H [] .refl s .nil
theorem da_cons {fs : List FE} (ha : DE X W e fa) (hr : DA X W es (evs fs)) (hs : starEach (e :: es) X.env = (false, eval e X.env) :: starEach es X.env := by rfl) : DA X W (e :: es) (evs (fa :: fs)) :=
  PA.monoT (pa_cons ha hr hs) fun σ H Q ⟨φ, ρ, st, s, er, p⟩ => tE_mono (fun x H1 ⟨φ1, st1, d1, a1, p1⟩ => by
    refine ⟨φ1, ρ, st1, a1.sr, a1.er, ?_⟩
    obtain ⟨s1, e1, r⟩ := a1
    cases r with
    | cons r1 _ =>
      cases h : evs fs ρ st1 with
      | ok ds st2 => rw [h] at p1; exact fun φ2 H2 vs k2 s2 rs => p1 φ2 H2 (x :: vs) k2 s2 (.cons (r1.keep k2) rs)
      | err x st2 => rw [h] at p1; exact p1
      | stuck => rw [h] at p1; exact p1) (runEs (At.of s er) p)
theorem runEAs {K : PySem.W.Frag} {φ : List Addr} {ρ : En} {st : Sto} {σ : L2.St} {H : Hp} {Q : VK} {k : List D → Sto → Res D} (s : SR K φ st H) (er : EnvR K φ H ρ σ) (p : PostE K W φ H Q ((fs ρ st).bind k)) :
    tA K W fs σ H fun vs H1 => ∃ φ1 st1 ds, SR K φ1 st1 H1 ∧ Reps K φ1 H1 ds vs ∧ PostE K W φ1 H1 Q (k ds st1) :=
  tA_mono (fun _ _ ⟨φ1, st1, ds, a, r, p⟩ => ⟨φ1, st1, ds, a.sr, r, p⟩) (runEA (At.of s er) p)
/-- a display: it may be a handle at once -/
def mkL (mk : Bool) (ds : List D) (st : Sto) : Res D := if mk = true then .ok (.hnd st.length) (st ++ [.lst ds]) else .ok (.lst ds) st
theorem mkL_ok {K : PySem.W.Frag} {φ : List Addr} {st : Sto} {H : Hp} {Q : VK} {mk : Bool} {ds : List D} {xs : List V} {q : Addr} (s : SR K φ st H) (r : Reps K φ H ds xs) (p : PostE K W φ H Q (mkL mk ds st)) (hq : H q = none) : Q (.ref q) (upd H q (.lst xs)) := by
  unfold mkL at p
  cases mk with
  | true =>
    rw [if_pos rfl] at p
    exact p (φ ++ [q]) _ _ (Keep.push s hq) (s.push hq r) (.hnd (by rw [s.len]; simp))
  | false =>
    rw [if_neg Bool.false_ne_true] at p
    exact p φ _ _ (Keep.fresh hq) (s.fresh hq) (.lst ⟨upd_same, s.notin hq⟩ (r.keep (Keep.fresh hq)))
theorem tup_ok {K : PySem.W.Frag} {φ : List Addr} {st : Sto} {H : Hp} {Q : VK} {ds : List D} {xs : List V} {q : Addr} (s : SR K φ st H) (r : Reps K φ H ds xs) (p : PostE K W φ H Q (.ok (.tup ds) st)) (hq : H q = none) : Q (.ref q) (upd H q (.tup xs)) :=
  p φ _ _ (Keep.fresh hq) (s.fresh hq) (.tup (.inl ⟨upd_same, s.notin hq⟩) (r.keep (Keep.fresh hq)))
def e_lst (mk : Bool) (fs : List FE) : FE := fun ρ st => (evs fs ρ st).bind fun ds st1 => mkL mk ds st1
def e_tup (fs : List FE) : FE := fun ρ st => (evs fs ρ st).bind fun ds st1 => .ok (.tup ds) st1
theorem runDisp {K : PySem.W.Frag} {φ : List Addr} {ρ : En} {st : Sto} {σ : L2.St} {H : Hp} {Q : VK} {fs : List FE} {k : List D → Sto → Res D} (s : SR K φ st H) (er : EnvR K φ H ρ σ) (p : PostE K W φ H Q ((evs fs ρ st).bind k)) :
    tA K W (evs fs) σ H fun vs H1 => ∃ φ1 st1 ds, vs.length = fs.length ∧ SR K φ1 st1 H1 ∧ Reps K φ1 H1 ds vs ∧ PostE K W φ1 H1 Q (k ds st1) := by
  refine ⟨φ, ρ, st, s, er, ?_⟩
  cases h : evs fs ρ st with
  | ok d st1 => rw [h] at p; exact fun φ1 H1 x k1 s1 r1 => ⟨φ1, st1, d, by rw [← r1.length, evs_len h], s1, r1, PostE.trans k1 p⟩
  | err x st1 => rw [h] at p; exact p
  | stuck => rw [h] at p; exact p
theorem de_lst (mk : Bool) {fs : List FE} (h : DA X W es (evs fs)) (hl : fs.length ≤ 1000 := by decide) : DE X W (.List es pos) (e_lst mk fs) :=
  PE.monoT (pe_lst h) fun σ H Q ⟨φ, ρ, st, s, er, p⟩ => tA_mono (fun vs H1 ⟨φ1, st1, ds, e1, s1, r1, p1⟩ => ⟨by rw [e1]; exact small_sz (by omega), fun q hq => mkL_ok s1 r1 p1 hq⟩) (runDisp s er p)
theorem de_tup {x1} {fs : List FE} (h : DA X W es (evs fs)) (hl : fs.length ≤ 1000 := by decide) : DE X W (.Tuple es x1 pos) (e_tup fs) :=
  PE.monoT (pe_tup h) fun σ H Q ⟨φ, ρ, st, s, er, p⟩ => tA_mono (fun vs H1 ⟨φ1, st1, ds, e1, s1, r1, p1⟩ => ⟨by rw [e1]; exact small_sz (by omega), fun q hq => tup_ok s1 r1 p1 hq⟩) (runDisp s er p)

/-! ### calls -/
def e_call (m : List D → Sto → Res D) (fs : FA) : FE := fun ρ st => (fs ρ st).bind m
/-- a def's promise by its mirror m, with n parameters -/
def spD (K : PySem.W.Frag) (n : Nat) (m : List D → Sto → Res D) : Sp := fun vs H Q E => vs.length = n ∧ ∃ φ st ds, SR K φ st H ∧ Reps K φ H ds vs ∧ PostE K E φ H Q (m ds st)
/-- the mirror is asked at n values -/
def arity (n : Nat) (m : List D → Sto → Res D) : List D → Sto → Res D := fun ds st => if ds.length = n then m ds st else .stuck
theorem post_arity {K : PySem.W.Frag} {φ : List Addr} {H : Hp} {Q : VK} {n : Nat} {m : List D → Sto → Res D} {ds : List D} {st : Sto} (p : PostE K W φ H Q (arity n m ds st)) : ds.length = n ∧ PostE K W φ H Q (m ds st) := by
  unfold arity at p
  by_cases h : ds.length = n
  · rw [if_pos h] at p; exact ⟨h, p⟩
  · rw [if_neg h] at p; exact p.elim
variable {CX : CXT} {k n : Nat} {f : Addr} {fd : FuncData} {ps : List Str} {m : List D → Sto → Res D} {x : Str} {p : Pos}
theorem de_call (F : FnOk X.prog X.w X.K X.mg X.base CX k f fd ps (spD X.K n (arity n m))) (hr : Room k X.A) (hg : Gl X x) (hm : X.mg x = some (.ref f)) (hk : PySem.W.keepIn X.K (.ref f) = true) (hb : Binds X.K fd ps []) (hx : Passes CX X W)
    (ha : DA X W (e :: es) fs) (hdb : (x == ("__debug__" : Str)) = false := by decide) (he : starEach (e :: es) X.env = (false, eval e X.env) :: starEach es X.env := by rfl) (hpl : (backTo pos (starEach es X.env)).any (·.1) = false := by rfl) :
    DE X W (.Call (.Name x p) (e :: es) [] pos) (e_call (arity n m) fs) :=
  PE.monoT (pe_call F hr hg hm hk hb .nil hx ha hdb he hpl) fun σ H Q ⟨φ, ρ, st, s, er, p⟩ => tA_mono (fun vs H1 ⟨φ1, st1, ds, s1, r1, p1⟩ => by
    rw [List.append_nil]
    exact ⟨by rw [← r1.length]; exact (post_arity p1).1, φ1, st1, ds, s1, r1, p1⟩) (runEAs s er p)
theorem de_call0 (F : FnOk X.prog X.w X.K X.mg X.base CX k f fd ps (spD X.K n (arity n m))) (hr : Room k X.A) (hg : Gl X x) (hm : X.mg x = some (.ref f)) (hk : PySem.W.keepIn X.K (.ref f) = true) (hb : Binds X.K fd ps []) (hx : Passes CX X W)
    (hdb : (x == ("__debug__" : Str)) = false := by decide) : DE X W (.Call (.Name x p) [] [] pos) (e_call (arity n m) (evs [])) :=
  PE.monoT (pe_call0 F hr hg hm hk hb .nil hx hdb) fun σ H Q ⟨φ, ρ, st, s, er, p⟩ => ⟨(post_arity (ds := []) p).1, φ, st, [], s, .nil, p⟩
theorem de_callB {id : String} {g : List D → Sto → Res D} (hc : CallD X W (.builtin id) g) (hg : Gl X x) (hm : X.mg x = none) (hv : bootBuiltins x = some (.builtin id)) (ha : DA X W (e :: es) fs) (hn : x ≠ "__name__" := by decide) (hdb : (x == ("__debug__" : Str)) = false := by decide)
    (he : starEach (e :: es) X.env = (false, eval e X.env) :: starEach es X.env := by rfl) (hpl : (backTo pos (starEach es X.env)).any (·.1) = false := by rfl) : DE X W (.Call (.Name x p) (e :: es) [] pos) (e_call g fs) :=
  PE.monoT (pe_callB hc hg hm hv ha hn hdb he hpl) fun σ H Q ⟨φ, ρ, st, s, er, p⟩ => runEAs s er p
theorem de_callTy {T : String} {g : List D → Sto → Res D} (hc : CallD X W (.type T) g) (hg : Gl X x) (hm : X.mg x = none) (hv : bootBuiltins x = some (.type T)) (ha : DA X W (e :: es) fs) (hn : x ≠ "__name__" := by decide) (hdb : (x == ("__debug__" : Str)) = false := by decide)
    (he : starEach (e :: es) X.env = (false, eval e X.env) :: starEach es X.env := by rfl) (hpl : (backTo pos (starEach es X.env)).any (·.1) = false := by rfl) : DE X W (.Call (.Name x p) (e :: es) [] pos) (e_call g fs) :=
  PE.monoT (pe_callTy hc hg hm hv ha hn hdb he hpl) fun σ H Q ⟨φ, ρ, st, s, er, p⟩ => runEAs s er p

/-! ### methods of built-in types: T told -/
def tyD (T : String) (st : Sto) : D → Bool
  | .str _ => T == "str"
  | .lst _ => T == "list"
  | .hnd n => T == "list" && (st[n]?).isSome
  | .ro _ => T == "list"
  | _ => false
theorem tyD_ok {K : PySem.W.Frag} {φ : List Addr} {st : Sto} {H : Hp} {d : D} {v : V} {T : String} (s : SR K φ st H) (r : Rep K φ H d v) (h : tyD T st d = true) : tyV K T v H := by
  have lists : ∀ ds, lstOf st d = some ds → T = "list" → tyV K T v H := fun ds e z => by
    obtain ⟨a, xs, rfl, q, _⟩ := lstOf_sq s r e
    exact .inl ⟨z, xs, q⟩
  cases r with
  | str x => exact beq_iff_eq.mp h
  | lst h1 rr => exact lists _ rfl (beq_iff_eq.mp h)
  | ro h1 rr => exact lists _ rfl (beq_iff_eq.mp h)
  | @hnd n a h1 =>
    unfold tyD at h
    simp only [Bool.and_eq_true] at h
    cases hc : st[n]? with
    | none => rw [hc] at h; exact absurd h.2 (by simp)
    | some c => cases c with
      | lst ds => exact lists ds (by unfold lstOf; simp only [hc]) (beq_iff_eq.mp h.1)
  | _ => exact absurd h Bool.false_ne_true
def e_mt (T : String) (g : D → List D → Sto → Res D) (fo : FE) (fs : FA) : FE := fun ρ st => (fo ρ st).bind fun d st1 => if tyD T st1 d = true then (fs ρ st1).bind fun ds st2 => g d ds st2 else .stuck
variable {o : Expr} {fo : FE} {name : Str} {apos cpos : Pos} {T id : String} {g : D → List D → Sto → Res D}
theorem de_mt (pa : PlainAttrs T) (slot : Slot T name id) (hty : typeOf (.builtin id) = pure (.type "method_descriptor")) (hm : MtR X id (rMt X.K W g)) (ho : DE X W o fo) (ha : DA X W (e :: es) fs)
    (hbase : attributeBase o name X.env (eval o X.env) = eval o X.env := by rfl)
    (hfew : ((backTo cpos (starEach (e :: es) X.env)).all (fun x => !x.1) && (backToKw cpos (keywordEach [] X.env)).all (fun x => x.1.isSome)
      && decide ((e :: es).length + ([] : List Keyword).length + (if ([] : List Keyword).isEmpty then 0 else 1) < 30)) = true := by rfl)
    (hline : (apos.endLine == cpos.line) = true := by rfl) (hs : starEach (e :: es) X.env = (false, eval e X.env) :: starEach es X.env := by rfl) (hplain : (backTo cpos (starEach es X.env)).any (·.1) = false := by rfl) :
    DE X W (.Call (.Attribute o name apos) (e :: es) [] cpos) (e_mt T g fo fs) :=
  PE.monoT (pe_bm pa slot hty hm ho ha hbase hfew hline hs hplain) fun σ H Q ⟨φ, ρ, st, s, er, p⟩ => tE_mono (fun x H1 ⟨φ1, st1, d1, a1, p1⟩ => by
    obtain ⟨s1, e1, r⟩ := a1
    cases r with
    | cons r1 r0 =>
      by_cases h : tyD T st1 d1 = true
      · rw [if_pos h] at p1
        refine ⟨tyD_ok s1 r1 h, tA_mono (fun vs H2 ⟨φ2, st2, ds, a2, rs, p2⟩ => ?_) (runEA (hd := [d1]) (hv := [x]) ⟨s1, e1, .cons r1 .nil⟩ p1)⟩
        have hrx : Rep X.K φ2 H2 d1 x := by
          obtain ⟨v', e1, rr⟩ := a2.hr.get (i := ds.length) (d := d1) (by simp)
          rw [List.getElem?_append_right (by rw [rs.length]; exact Nat.le_refl _), rs.length, Nat.sub_self] at e1
          cases e1
          exact rr
        exact ⟨φ2, st2, d1, ds, a2.sr, hrx, rs, p2⟩
      · rw [if_neg h] at p1; exact p1.elim) (runE (At.of s er) p)
theorem de_mt0 (pa : PlainAttrs T) (slot : Slot T name id) (hty : typeOf (.builtin id) = pure (.type "method_descriptor")) (hm : MtR X id (rMt X.K W g)) (ho : DE X W o fo)
    (hbase : attributeBase o name X.env (eval o X.env) = eval o X.env := by rfl) (hline : (apos.endLine == cpos.line) = true := by rfl) : DE X W (.Call (.Attribute o name apos) [] [] cpos) (e_mt T g fo (evs [])) :=
  PE.monoT (pe_bm0 pa slot hty hm ho hbase hline) fun σ H Q ⟨φ, ρ, st, s, er, p⟩ => tE_mono (fun x H1 ⟨φ1, st1, d1, a1, p1⟩ => by
    obtain ⟨s1, e1, r⟩ := a1
    cases r with
    | cons r1 r0 =>
      by_cases h : tyD T st1 d1 = true
      · rw [if_pos h] at p1
        exact ⟨tyD_ok s1 r1 h, φ1, st1, d1, [], s1, r1, .nil, p1⟩
      · rw [if_neg h] at p1; exact p1.elim) (runE (At.of s er) p)

/-! ### subscripts, slices -/
theorem de_ix {g : D → D → Sto → Res D} (hr : IxR X (rOp X.K W g)) (ha : DE X W a fa) (hb : DE X W b fb) (hs : PlainIx b) : DE X W (.Subscript a b pos) (e_bin g fa fb) :=
  PE.monoT (pe_ix hr ha hb hs) fun _ _ _ h => bin_run h
/-- a part of a slice -/
def intD : D → Sto → Res Int
  | .int i, st => .ok i st
  | _, _ => .stuck
def partF : Option FE → En → Sto → Res (Option Int)
  | none, _, st => .ok none st
  | some f, ρ, st => (f ρ st).bind fun d st => (intD d st).bind fun i st => .ok (some i) st
def e_sl (g : D → Option Int → Option Int → Sto → Res D) (fa : FE) (fl fh : Option FE) : FE := fun ρ st => (fa ρ st).bind fun d st1 =>
  (partF fl ρ st1).bind fun lo st2 => (partF fh ρ st2).bind fun hi st3 => g d lo hi st3
def rSlD (K : PySem.W.Frag) (W : XK) (g : D → Option Int → Option Int → Sto → Res D) : V → Option Int → Option Int → Hp → VK → Prop := fun x lo hi H Q => ∃ φ st d, SR K φ st H ∧ Rep K φ H d x ∧ PostE K W φ H Q (g d lo hi st)
def tPo (K : PySem.W.Frag) (W : XK) : Option FE → TO
  | none => tNoPart
  | some f => tPart (tE K W f)
abbrev PoD (X : Cx) (W : XK) (e : Option Expr) (f : Option FE) : Prop := PO X e (tPo X.K W f)
theorem do_none : PoD X W none none := po_none
theorem do_some (h : DE X W e fa) : PoD X W (some e) (some fa) := po_some h
theorem tPo_mono {K : PySem.W.Frag} {f : Option FE} {σ : L2.St} {H : Hp} {Q Q' : Option Int → Hp → Prop} (h : ∀ v H, Q v H → Q' v H) (p : tPo K W f σ H Q) : tPo K W f σ H Q' := by
  cases f with
  | none => exact h _ _ p
  | some f => exact tE_mono (fun v H ⟨i, e, q⟩ => ⟨i, e, h _ _ q⟩) p
theorem runPo {K : PySem.W.Frag} {φ : List Addr} {ρ : En} {st : Sto} {hd : List D} {σ : L2.St} {H : Hp} {hv : List V} {Q : VK} {f : Option FE} {k : Option Int → Sto → Res D} (a : At K φ ρ st hd σ H hv) (p : PostE K W φ H Q ((partF f ρ st).bind k)) :
    tPo K W f σ H fun lo H1 => ∃ φ1 st1, At K φ1 ρ st1 hd σ H1 hv ∧ PostE K W φ1 H1 Q (k lo st1) := by
  cases f with
  | none => exact ⟨φ, st, a, p⟩
  | some f =>
    refine ⟨φ, ρ, st, a.sr, a.er, ?_⟩
    have p : PostE K W φ H Q (((f ρ st).bind fun d st => (intD d st).bind fun i st => Res.ok (some i) st).bind k) := p
    cases hf : f ρ st with
    | ok d st1 =>
      rw [hf] at p
      intro φ1 H1 v k1 s1 r1
      cases d with
      | int i => cases r1; exact ⟨i, rfl, φ1, st1, ⟨s1, a.er.keep k1, a.hr.keep k1⟩, PostE.trans k1 p⟩
      | _ => exact p.elim
    | err x st1 => rw [hf] at p; exact p
    | stuck => rw [hf] at p; exact p
theorem de_sl {g : D → Option Int → Option Int → Sto → Res D} {lo hi : Option Expr} {fl fh : Option FE} {p2 : Pos} (hr : SlR X (rSlD X.K W g)) (ha : DE X W a fa) (hl : PoD X W lo fl) (hh : PoD X W hi fh) : DE X W (.Subscript a (.Slice lo hi none p2) pos) (e_sl g fa fl fh) :=
  PE.monoT (pe_slice hr ha hl hh) fun σ H Q ⟨φ, ρ, st, s, er, p⟩ => tE_mono (fun x H1 ⟨φ1, st1, d1, a1, p1⟩ =>
    tPo_mono (fun lo H2 ⟨φ2, st2, a2, p2⟩ => tPo_mono (fun hi H3 ⟨φ3, st3, a3, p3⟩ => by
      obtain ⟨s3, _, r⟩ := a3
      cases r with
      | cons r1 _ => exact ⟨φ3, st3, d1, s3, r1, p3⟩) (runPo a2 p2)) (runPo a1 p1)) (runE (At.of s er) p)
end
end DL

/-! DL3: operations by values. -/
namespace DL
open PySem PySem.Spec L2

def trkOf (st : Sto) : D → Option (List D)
  | .lst ds => some ds
  | .hnd n => match st[n]? with
    | some (.lst ds) => some ds
    | none => none
  | _ => none
section
variable {K : PySem.W.Frag} {W : XK} {φ : List Addr} {st : Sto} {H : Hp} {d : D} {v : V} {ds : List D} {Q : VK}
theorem trkOf_at (s : SR K φ st H) (r : Rep K φ H d v) (h : trkOf st d = some ds) : ∃ a xs, v = .ref a ∧ H a = some (.lst xs) ∧ Reps K φ H ds xs := by
  cases r with
  | lst h1 r => cases h; exact ⟨_, _, rfl, h1.1, r⟩
  | @hnd n a h1 =>
    unfold trkOf at h
    simp only at h
    cases hc : st[n]? with
    | none => rw [hc] at h; cases h
    | some c =>
      cases c with
      | lst ds' =>
        rw [hc] at h
        cases h
        obtain ⟨a', e1, xs, e2, r⟩ := s.cell n _ hc
        rw [h1] at e1; cases e1
        exact ⟨a, xs, rfl, e2, r⟩
  | _ => cases h
/-! the data -/
mutual
def toPy : D → Option PyData
  | .non => some .none
  | .bl b => some (.bool b)
  | .int i => some (.int i)
  | .str x => some (.str x)
  | .tup ds => (toPys ds).map .tuple
  | .lst ds => (toPys ds).map .list
  | .ro ds => (toPys ds).map .list
  | .hnd _ => none
  | .ty _ => none
def toPys : List D → Option (List PyData)
  | [] => some []
  | d :: ds => match toPy d, toPys ds with
    | some a, some b => some (a :: b)
    | _, _ => none
end
def toPyH (st : Sto) : D → Option PyData
  | .hnd n => match st[n]? with
    | some (.lst ds) => (toPys ds).map .list
    | none => none
  | d => toPy d
mutual
theorem toPy_dp : ∀ {d : D} {v : V} {p : PyData}, Rep K φ H d v → toPy d = some p → Dp K H v p
  | _, _, _, .non, e => by cases e; exact .non
  | _, _, _, .bl b, e => by cases e; exact .bl b
  | _, _, _, .int i, e => by cases e; exact .int i
  | _, _, _, .str x, e => by cases e; exact .str x
  | _, _, _, .tup (ds := ds) h r, e => by
    unfold toPy at e
    cases h2 : toPys ds with
    | none => rw [h2] at e; cases e
    | some ps => rw [h2] at e; cases e; exact .tup h.sq (toPys_dp r h2)
  | _, _, _, .lst (ds := ds) h r, e => by
    unfold toPy at e
    cases h2 : toPys ds with
    | none => rw [h2] at e; cases e
    | some ps => rw [h2] at e; cases e; exact .lst h.sq (toPys_dp r h2)
  | _, _, _, .ro (ds := ds) h r, e => by
    unfold toPy at e
    cases h2 : toPys ds with
    | none => rw [h2] at e; cases e
    | some ps => rw [h2] at e; cases e; exact .lst h.sq (toPys_dp r h2)
  | _, _, _, .hnd _, e => by cases e
  | _, _, _, .ty _, e => by cases e
theorem toPys_dp : ∀ {ds : List D} {vs : List V} {ps : List PyData}, Reps K φ H ds vs → toPys ds = some ps → DpAll K H vs ps
  | _, _, _, .nil, e => by cases e; exact .nil
  | _, _, _, .cons (d := d) (ds := ds) h r, e => by
    unfold toPys at e
    cases h1 : toPy d with
    | none => rw [h1] at e; cases e
    | some p =>
      cases h2 : toPys ds with
      | none => rw [h1, h2] at e; cases e
      | some ps => rw [h1, h2] at e; cases e; exact .cons (toPy_dp h h1) (toPys_dp r h2)
end
theorem toPyH_dp {p : PyData} (s : SR K φ st H) (r : Rep K φ H d v) (e : toPyH st d = some p) : Dp K H v p := by
  cases d with
  | hnd n =>
    unfold toPyH at e
    simp only at e
    cases hc : st[n]? with
    | none => rw [hc] at e; cases e
    | some c =>
      cases c with
      | lst ds =>
        rw [hc] at e
        simp only at e
        cases h2 : toPys ds with
        | none => rw [h2] at e; cases e
        | some ps =>
          rw [h2] at e; cases e
          obtain ⟨a, xs, rfl, q, rr⟩ := lstOf_sq (ds := ds) s r (by unfold lstOf; simp only [hc])
          exact .lst q (toPys_dp rr h2)
  | _ => exact toPy_dp r e
end

/-! ### tuple * int -/
theorem tuple_mul1 (l : Addr) (items : Array Value) (n : Nat) (sl : Array (Option Value)) (dd : Option Addr) (u : Tok) :
    Meets (Builtin.«tuple.__mul__» ⟨[.ref l, .int 1 u], []⟩) (fun _ R s => s.heap.get? l = some { cls := .type "tuple", dict := dd, data := .seq items n, slots := sl } ∧ R (.ok (.ret (Value.ref l))) s) :=
  .of_wp fun prog w A R s h => by
    obtain ⟨hp, g, d, tk, os⟩ := s
    obtain ⟨hl, h⟩ := h
    have f1 := PySem.AutoSeq1.idx_int
    have c1 : (items.isEmpty || (1 : Int) == 1) = true := by simp
    wp_walk using wpAny_loadPart' hl
    repeat (first
      | (refine wpAny_ite_true (decide_eq_true (by rw [c1])) ?_; wp_walk using wpAny_loadPart' hl)
      | (refine wpAny_ite_false (by decide) ?_; wp_walk using wpAny_loadPart' hl))
    exact ⟨_, rfl, h⟩
theorem tuple_mul0 (l : Addr) (items : Array Value) (n : Nat) (sl : Array (Option Value)) (dd : Option Addr) (x : Int) (u : Tok) (hx : x ≤ 0) (hb : -(2 ^ 63) ≤ x) (hne : items.isEmpty = false) :
    Meets (Builtin.«tuple.__mul__» ⟨[.ref l, .int x u], []⟩) (fun _ R s => s.heap.get? l = some { cls := .type "tuple", dict := dd, data := .seq items n, slots := sl } ∧
      R (.ok (.ret (Value.ref s.heap.objs.size))) { s with heap := s.heap.push { cls := Value.type "tuple", data := Data.seq #[] }, toks := s.toks }) :=
  .of_wp fun prog w A R s h => by
    obtain ⟨hp, g, d, tk, os⟩ := s
    obtain ⟨hl, h⟩ := h
    have f1 := PySem.AutoSeq1.idx_int
    have c0 : (decide (x < -(2 ^ 63)) || decide (x ≥ 2 ^ 63)) = false := by
      rw [decide_eq_false (by omega), decide_eq_false (by omega)] <;> rfl
    have c1 : (items.isEmpty || x == 1) = false := by
      rw [hne, Bool.false_or]
      exact beq_eq_false_iff_ne.mpr (by omega)
    have c2 : (decide (x ≤ 0) || items.isEmpty) = true := by rw [decide_eq_true hx]; rfl
    wp_walk using wpAny_loadPart' hl
    repeat (first
      | (refine wpAny_ite_false (decide_eq_false (by rw [c0]; exact Bool.false_ne_true)) ?_; wp_walk using wpAny_loadPart' hl)
      | (refine wpAny_ite_false (decide_eq_false (by rw [c1]; exact Bool.false_ne_true)) ?_; wp_walk using wpAny_loadPart' hl)
      | (refine wpAny_ite_true (decide_eq_true (by rw [c2])) ?_; wp_walk using wpAny_loadPart' hl))
    exact ⟨_, rfl, h⟩

/-! ### operators by values -/
section
variable {X : Cx} {W : XK}
def addD (mk : Bool) : D → D → Sto → Res D
  | .int a, .int b, st => .ok (.int (a + b)) st
  | .str a, .str b, st => if a.length + b.length ≤ sizeLine then .ok (.str (a ++ b)) st else .stuck
  | .tup as, .tup bs, st => if as.length + bs.length ≤ sizeLine then .ok (.tup (as ++ bs)) st else .stuck
  | .int a, .bl b, st => .ok (.int (a + PyProof.Rows.b2i b)) st
  | a, b, st => match trkOf st a, trkOf st b with
    | some as, some bs => if as.length + bs.length ≤ sizeLine then mkL mk (as ++ bs) st else .stuck
    | _, _ => .stuck
theorem od_add (mk : Bool) : OpD X W (binaryOp .Add) (addD mk) := by
  intro pins s σ H x y v u Q I rx ry ⟨φ, st, d1, d2, sr, r1, r2, p⟩
  have lists : PostE X.K W φ H Q (match trkOf st d1, trkOf st d2 with
    | some as, some bs => if as.length + bs.length ≤ sizeLine then mkL mk (as ++ bs) st else .stuck
    | _, _ => .stuck) → wpAny (model X.prog X.w) X.A (binaryOp .Add v u) (EP X pins σ Q) X.xe s := fun p => by
    cases h1 : trkOf st d1 with
    | none => rw [h1] at p; exact p.elim
    | some as =>
      cases h2 : trkOf st d2 with
      | none => rw [h1, h2] at p; exact p.elim
      | some bs =>
        rw [h1, h2] at p
        simp only at p
        obtain ⟨a, xs, rfl, q1, e1⟩ := trkOf_at sr r1 h1
        obtain ⟨b, ys, rfl, q2, e2⟩ := trkOf_at sr r2 h2
        by_cases hz : as.length + bs.length ≤ sizeLine
        · rw [if_pos hz] at p
          exact op_cat pins s σ H _ _ v u Q I rx ry ⟨a, b, xs, ys, rfl, rfl, q1, q2, by rw [← e1.length, ← e2.length]; exact hz, fun q hq => mkL_ok sr (e1.append e2) p hq⟩
        · rw [if_neg hz] at p; exact p.elim
  cases r1 with
  | int a =>
    cases r2 with
    | int b => exact op_add pins s σ H _ _ v u Q I rx ry ⟨a, b, rfl, rfl, PostE.now sr (.int _) p⟩
    | bl b => exact op_add_ib pins s σ H _ _ v u Q I rx ry ⟨a, b, rfl, rfl, PostE.now sr (.int _) p⟩
    | _ => exact p.elim
  | str a =>
    cases r2 with
    | str b =>
      unfold addD at p
      simp only at p
      by_cases hz : a.length + b.length ≤ sizeLine
      · rw [if_pos hz] at p
        exact op_add_str pins s σ H _ _ v u Q I rx ry ⟨a, b, rfl, rfl, hz, PostE.now sr (.str _) p⟩
      · rw [if_neg hz] at p; exact p.elim
    | _ => exact p.elim
  | @tup a xs as h1 e1 =>
    cases r2 with
    | @tup b ys bs h2 e2 =>
      unfold addD at p
      simp only at p
      by_cases hz : as.length + bs.length ≤ sizeLine
      · rw [if_pos hz] at p
        refine op_catA pins s σ H _ _ v u Q I rx ry ⟨a, b, xs, ys, rfl, rfl, h1.sq, h2.sq, by rw [← e1.length, ← e2.length]; exact hz, fun z => ?_, fun z z2 => ?_, fun z z2 q hq => tup_ok sr (e1.append e2) p hq⟩
        · subst z; cases e1; exact PostE.now sr (.tup h2 e2) p
        · subst z2
          cases e2
          rw [List.append_nil] at p
          exact PostE.now sr (.tup h1 e1) p
      · rw [if_neg hz] at p; exact p.elim
    | _ => exact p.elim
  | lst h1 e1 => cases r2 <;> exact lists p
  | hnd h1 => cases r2 <;> exact lists p
  | _ => cases r2 <;> exact p.elim
def subD : D → D → Sto → Res D
  | .int a, .int b, st => .ok (.int (a - b)) st
  | _, _, _ => .stuck
theorem od_sub : OpD X W (binaryOp .Sub) subD := by
  intro pins s σ H x y v u Q I rx ry ⟨φ, st, d1, d2, sr, r1, r2, p⟩
  cases r1 with
  | int a => cases r2 with
    | int b => exact op_sub pins s σ H _ _ v u Q I rx ry ⟨a, b, rfl, rfl, PostE.now sr (.int _) p⟩
    | _ => exact p.elim
  | _ => cases r2 <;> exact p.elim
/-- * -/
def mulD (mk : Bool) : D → D → Sto → Res D
  | .int a, .int b, st => if (-(2 ^ 64) < a ∧ a < 2 ^ 64) ∨ (-(2 ^ 64) < b ∧ b < 2 ^ 64) then .ok (.int (a * b)) st else .stuck
  | .tup as, .int k, st => if -(2 ^ 63) ≤ k ∧ k ≤ 1000 ∧ as.length ≤ 1000 ∧ as.isEmpty = false then .ok (.tup (List.replicate k.toNat as).flatten) st else .stuck
  | a, .int k, st => match trkOf st a with
    | some as => if -(2 ^ 63) ≤ k ∧ k < 2 ^ 63 ∧ as.length * k.toNat ≤ sizeLine then mkL mk (List.replicate k.toNat as).flatten st else .stuck
    | _ => .stuck
  | _, _, _ => .stuck
theorem od_mul (mk : Bool) : OpD X W (binaryOp .Mult) (mulD mk) := by
  intro pins s σ H x y v u Q I rx ry ⟨φ, st, d1, d2, sr, r1, r2, p⟩
  have lists : ∀ k : Int, y = .int k → PostE X.K W φ H Q (match trkOf st d1 with
    | some as => if -(2 ^ 63) ≤ k ∧ k < 2 ^ 63 ∧ as.length * k.toNat ≤ sizeLine then mkL mk (List.replicate k.toNat as).flatten st else .stuck
    | _ => .stuck) → wpAny (model X.prog X.w) X.A (binaryOp .Mult v u) (EP X pins σ Q) X.xe s := fun k ek p => by
    subst ek
    cases h1 : trkOf st d1 with
    | none => rw [h1] at p; exact p.elim
    | some as =>
      rw [h1] at p
      simp only at p
      obtain ⟨a, xs, rfl, q1, e1⟩ := trkOf_at sr r1 h1
      by_cases hz : -(2 ^ 63) ≤ k ∧ k < 2 ^ 63 ∧ as.length * k.toNat ≤ sizeLine
      · rw [if_pos hz] at p
        exact op_rep pins s σ H _ _ v u Q I rx ry ⟨a, k, xs, rfl, rfl, q1, hz.1, hz.2.1, by rw [← e1.length]; exact hz.2.2, fun q hq => mkL_ok sr (e1.rep _) p hq⟩
      · rw [if_neg hz] at p; exact p.elim
  cases r2 with
  | int k =>
    cases r1 with
    | int a =>
      unfold mulD at p
      simp only at p
      by_cases hz : (-(2 ^ 64) < a ∧ a < 2 ^ 64) ∨ (-(2 ^ 64) < k ∧ k < 2 ^ 64)
      · rw [if_pos hz] at p
        exact op_mul pins s σ H _ _ v u Q I rx ry ⟨a, k, rfl, rfl, hz, PostE.now sr (.int _) p⟩
      · rw [if_neg hz] at p; exact p.elim
    | @tup a xs as h1 e1 =>
      unfold mulD at p
      simp only at p
      by_cases hz : -(2 ^ 63) ≤ k ∧ k ≤ 1000 ∧ as.length ≤ 1000 ∧ as.isEmpty = false
      · rw [if_pos hz] at p
        obtain ⟨z1, z2, z3, z4⟩ := hz
        have hne : xs ≠ [] := fun z => by subst z; cases e1; exact absurd z4 (by simp)
        by_cases h2 : 2 ≤ k
        · exact op_repT pins s σ H _ _ v u Q I rx ry ⟨a, k, xs, rfl, rfl, h1.sq, hne, h2, z2, by rw [← e1.length]; exact z3, fun q hq => tup_ok sr (e1.rep _) p hq⟩
        · cases rx
          obtain ⟨t, rfl⟩ := ry
          obtain ⟨its, r, ⟨⟨cls, dd, data, sl⟩, ho, hc, n, hd⟩, hs⟩ := I.tuple h1.sq
          simp only at hc hd
          subst hc hd
          by_cases h3 : k = 1
          · subst h3
            refine wpAny_binaryOp_repeat_ref (T := "tuple") (U := "int") (by decide) ⟨_, ho, rfl⟩ (fun s' => typeIs_int s' 1 t) noFill_tuple_mul F.fills_int_mul F.slot_int_rmul repeat_tuple F.slot_int_index.lookup
              (call_meets F.slot_int_rmul (typeIs_int s 1 t) F.entry_int_rmul (F.args_int_rmul_2 _ _) (int_rmul_tuple 1 t a its.toArray n dd sl)
                ⟨ho, rfl, ⟨_, ho, rfl⟩, call_meets F.slot_tuple_mul ⟨_, ho, rfl⟩ F.entry_tuple_mul (F.args_tuple_mul_2 _ _) (tuple_mul1 a its.toArray n sl dd t) ⟨ho, ?_⟩⟩)
            have p : PostE X.K W φ H Q (.ok (.tup as) st) := by simpa using p
            exact ⟨.ref a, H, I, rfl, PostE.now sr (.tup h1 e1) p⟩
          · have h0 : k ≤ 0 := by omega
            have hi : its.toArray.isEmpty = false := by
              cases its with
              | nil => cases r; exact absurd rfl hne
              | cons a b => rfl
            refine wpAny_binaryOp_repeat_ref (T := "tuple") (U := "int") (by decide) ⟨_, ho, rfl⟩ (fun s' => typeIs_int s' k t) noFill_tuple_mul F.fills_int_mul F.slot_int_rmul repeat_tuple F.slot_int_index.lookup
              (call_meets F.slot_int_rmul (typeIs_int s k t) F.entry_int_rmul (F.args_int_rmul_2 _ _) (int_rmul_tuple k t a its.toArray n dd sl)
                ⟨ho, rfl, ⟨_, ho, rfl⟩, call_meets F.slot_tuple_mul ⟨_, ho, rfl⟩ F.entry_tuple_mul (F.args_tuple_mul_2 _ _) (tuple_mul0 a its.toArray n sl dd k t h0 z1 hi) ⟨ho, ?_⟩⟩)
            have e0 : k.toNat = 0 := by omega
            rw [e0] at p
            refine ⟨.ref s.heap.objs.size, _, I.laid (t' := s.toks) (o := .tup []) (fun b ob q => Heap.get?_push_of_some _ q) (Nat.le_refl _) ?_, rfl, tup_ok sr .nil p (I.hok.fresh (Nat.le_refl _))⟩
            exact ⟨Nat.zero_le _, [], .nil, PyProof.Rows.IsTup.new _ _⟩
      · rw [if_neg hz] at p; exact p.elim
    | lst h1 e1 => exact lists k rfl p
    | hnd h1 => exact lists k rfl p
    | non => exact lists k rfl p
    | bl b => exact lists k rfl p
    | str b => exact lists k rfl p
    | ro h1 e1 => exact lists k rfl p
    | ty n => exact lists k rfl p
  | _ => cases r1 <;> exact p.elim
def fdivD : D → D → Sto → Res D
  | .int a, .int b, st => if 0 < b ∧ b < 1073741824 then .ok (.int (a / b)) st else .stuck
  | _, _, _ => .stuck
theorem od_fdiv : OpD X W (binaryOp .FloorDiv) fdivD := by
  intro pins s σ H x y v u Q I rx ry ⟨φ, st, d1, d2, sr, r1, r2, p⟩
  cases r1 with
  | int a => cases r2 with
    | int b =>
      unfold fdivD at p
      simp only at p
      by_cases hz : 0 < b ∧ b < 1073741824
      · rw [if_pos hz] at p
        exact op_fdiv pins s σ H _ _ v u Q I rx ry ⟨a, b, rfl, rfl, hz, PostE.now sr (.int _) p⟩
      · rw [if_neg hz] at p; exact p.elim
    | _ => exact p.elim
  | _ => cases r2 <;> exact p.elim
def modD : D → D → Sto → Res D
  | .int a, .int b, st => if 0 < b then .ok (.int (a % b)) st else .stuck
  | _, _, _ => .stuck
theorem od_mod : OpD X W (binaryOp .Mod) modD := by
  intro pins s σ H x y v u Q I rx ry ⟨φ, st, d1, d2, sr, r1, r2, p⟩
  cases r1 with
  | int a => cases r2 with
    | int b =>
      unfold modD at p
      simp only at p
      by_cases hz : 0 < b
      · rw [if_pos hz] at p
        exact op_mod pins s σ H _ _ v u Q I rx ry ⟨a, b, rfl, rfl, hz, PostE.now sr (.int _) p⟩
      · rw [if_neg hz] at p; exact p.elim
    | _ => exact p.elim
  | _ => cases r2 <;> exact p.elim
def powD : D → D → Sto → Res D
  | .int a, .int b, st => if 0 ≤ b ∧ b ≤ 1000000 ∧ a.natAbs < 2 ^ 64 then .ok (.int (a ^ b.toNat)) st else .stuck
  | _, _, _ => .stuck
theorem od_pow : OpD X W (binaryOp .Pow) powD := by
  intro pins s σ H x y v u Q I rx ry ⟨φ, st, d1, d2, sr, r1, r2, p⟩
  cases r1 with
  | int a => cases r2 with
    | int b =>
      unfold powD at p
      simp only at p
      by_cases hz : 0 ≤ b ∧ b ≤ 1000000 ∧ a.natAbs < 2 ^ 64
      · rw [if_pos hz] at p
        exact op_pow pins s σ H _ _ v u Q I rx ry ⟨a, b, rfl, rfl, hz, PostE.now sr (.int _) p⟩
      · rw [if_neg hz] at p; exact p.elim
    | _ => exact p.elim
  | _ => cases r2 <;> exact p.elim
def negD : D → Sto → Res D
  | .int a, st => .ok (.int (-a)) st
  | _, _ => .stuck
theorem ud_neg : UnR X (unaryOp .USub) (rUn X.K W negD) := by
  intro pins s σ H x v Q I rx ⟨φ, st, d1, sr, r1, p⟩
  cases r1 with
  | int a => exact un_neg pins s σ H _ v Q I rx ⟨a, rfl, PostE.now sr (.int _) p⟩
  | _ => exact p.elim

/-! ### comparisons -/
def cmpI (f : Int → Int → Bool) (g : Str → Str → Option Bool) : D → D → Sto → Res D
  | .int a, .int b, st => .ok (.bl (f a b)) st
  | .str a, .str b, st => match g a b with
    | some k => .ok (.bl k) st
    | none => .stuck
  | _, _, _ => .stuck
def ltD : D → D → Sto → Res D := cmpI (fun a b => decide (a < b)) fun a b => some (decide (a.cps.toList < b.cps.toList))
def gtD : D → D → Sto → Res D := cmpI (fun a b => decide (b < a)) fun a b => some (decide (b.cps.toList < a.cps.toList))
def leD : D → D → Sto → Res D := cmpI (fun a b => decide (a ≤ b)) fun a b => some (!decide (b.cps.toList < a.cps.toList))
def geD : D → D → Sto → Res D := cmpI (fun a b => decide (b ≤ a)) fun a b => some (!decide (a.cps.toList < b.cps.toList))

theorem od_cmpI {op : CmpOp} {f : Int → Int → Bool} {g : Str → Str → Option Bool} (h1 : OpR X (compareOp op) (rI0 fun i j => .bl (f i j)))
    (h2 : ∀ a b k, g a b = some k → OpR X (compareOp op) (fun x y H Q => x = .str a ∧ y = .str b ∧ Q (.bl k) H)) : OpD X W (compareOp op) (cmpI f g) := by
  intro pins s σ H x y v u Q I rx ry ⟨φ, st, d1, d2, sr, r1, r2, p⟩
  cases r1 with
  | int a => cases r2 with
    | int b => exact h1 pins s σ H _ _ v u Q I rx ry ⟨a, b, rfl, rfl, PostE.now sr (.bl _) p⟩
    | _ => exact p.elim
  | str a => cases r2 with
    | str b =>
      unfold cmpI at p
      simp only at p
      cases hg : g a b with
      | none => rw [hg] at p; exact p.elim
      | some k => rw [hg] at p; exact h2 a b k hg pins s σ H _ _ v u Q I rx ry ⟨rfl, rfl, PostE.now sr (.bl _) p⟩
    | _ => exact p.elim
  | _ => cases r2 <;> exact p.elim
theorem od_lt : OpD X W (compareOp .Lt) ltD := od_cmpI op_lt fun a b k e pins s σ H x y v u Q I rx ry ⟨e1, e2, q⟩ => op_lt_str pins s σ H x y v u Q I rx ry ⟨a, b, e1, e2, by cases e; exact q⟩
theorem od_gt : OpD X W (compareOp .Gt) gtD := od_cmpI op_gt fun a b k e pins s σ H x y v u Q I rx ry ⟨e1, e2, q⟩ => op_gt_str pins s σ H x y v u Q I rx ry ⟨a, b, e1, e2, by cases e; exact q⟩
theorem od_le : OpD X W (compareOp .LtE) leD := od_cmpI op_le fun a b k e pins s σ H x y v u Q I rx ry ⟨e1, e2, q⟩ => op_le_str pins s σ H x y v u Q I rx ry ⟨a, b, e1, e2, by cases e; exact q⟩
theorem od_ge : OpD X W (compareOp .GtE) geD := od_cmpI op_ge fun a b k e pins s σ H x y v u Q I rx ry ⟨e1, e2, q⟩ => op_ge_str pins s σ H x y v u Q I rx ry ⟨a, b, e1, e2, by cases e; exact q⟩
/-- == of data -/
def eqB (st : Sto) : D → D → Option Bool
  | .int a, .int b => some (decide (a = b))
  | .str a, .str b => some (decide (a = b))
  | .bl a, .bl b => some (decide (a = b))
  | .non, .non => some true
  | .non, .int _ => some false
  | .non, .str _ => some false
  | .non, .bl _ => some false
  | .int _, .non => some false
  | .str _, .non => some false
  | .bl _, .non => some false
  | .int _, .str _ => some false
  | .str _, .int _ => some false
  | .bl _, .str _ => some false
  | .str _, .bl _ => some false
  | a, b => match toPyH st a, toPyH st b with
    | some p, some q => if SeqAt.shaped p = true ∧ SeqAt.shaped q = true then some (PyData.eqv p q) else none
    | _, _ => none
def eqD (a b : D) (st : Sto) : Res D := match eqB st a b with
  | some k => .ok (.bl k) st
  | none => .stuck
def neD (a b : D) (st : Sto) : Res D := match eqB st a b with
  | some k => .ok (.bl (!k)) st
  | none => .stuck
theorem eqB_ok {K : PySem.W.Frag} {φ : List Addr} {st : Sto} {H : Hp} {d1 d2 : D} {x y : V} {k : Bool} (sr : SR K φ st H) (r1 : Rep K φ H d1 x) (r2 : Rep K φ H d2 y) (e : eqB st d1 d2 = some k) :
    (scal x y = true ∧ k = decide (x = y)) ∨ (∃ p q, Dp K H x p ∧ Dp K H y q ∧ SeqAt.shaped p = true ∧ SeqAt.shaped q = true ∧ k = PyData.eqv p q) := by
  have data : (match toPyH st d1, toPyH st d2 with
    | some p, some q => if SeqAt.shaped p = true ∧ SeqAt.shaped q = true then some (PyData.eqv p q) else none
    | _, _ => none) = some k → ∃ p q, Dp K H x p ∧ Dp K H y q ∧ SeqAt.shaped p = true ∧ SeqAt.shaped q = true ∧ k = PyData.eqv p q := fun e => by
    cases h1 : toPyH st d1 with
    | none => rw [h1] at e; cases e
    | some p =>
      cases h2 : toPyH st d2 with
      | none => rw [h1, h2] at e; cases e
      | some q =>
        rw [h1, h2] at e
        simp only at e
        by_cases hs : SeqAt.shaped p = true ∧ SeqAt.shaped q = true
        · rw [if_pos hs] at e
          exact ⟨p, q, toPyH_dp sr r1 h1, toPyH_dp sr r2 h2, hs.1, hs.2, (Option.some.inj e).symm⟩
        · rw [if_neg hs] at e; cases e
  cases r1 <;> cases r2 <;> first
    | exact .inr (data e)
    | exact .inl ⟨rfl, by cases e; simp⟩
theorem od_eq (hu : X.A.units + 64 < cLine) : OpD X W (compareOp .Eq) eqD := by
  intro pins s σ H x y v u Q I rx ry ⟨φ, st, d1, d2, sr, r1, r2, p⟩
  unfold eqD at p
  cases e : eqB st d1 d2 with
  | none => rw [e] at p; exact p.elim
  | some k =>
    rw [e] at p
    rcases eqB_ok sr r1 r2 e with ⟨h1, h2⟩ | ⟨p', q', h1, h2, h3, h4, h5⟩
    · subst h2; exact op_eq pins s σ H x y v u Q I rx ry ⟨h1, PostE.now sr (.bl _) p⟩
    · subst h5; exact op_eqD hu pins s σ H x y v u Q I rx ry ⟨p', q', h1, h2, h3, h4, PostE.now sr (.bl _) p⟩
theorem od_ne (hu : X.A.units + 64 < cLine) : OpD X W (compareOp .NotEq) neD := by
  intro pins s σ H x y v u Q I rx ry ⟨φ, st, d1, d2, sr, r1, r2, p⟩
  unfold neD at p
  cases e : eqB st d1 d2 with
  | none => rw [e] at p; exact p.elim
  | some k =>
    rw [e] at p
    rcases eqB_ok sr r1 r2 e with ⟨h1, h2⟩ | ⟨p', q', h1, h2, h3, h4, h5⟩
    · subst h2; exact op_ne pins s σ H x y v u Q I rx ry ⟨h1, PostE.now sr (.bl _) p⟩
    · subst h5; exact op_neD hu pins s σ H x y v u Q I rx ry ⟨p', q', h1, h2, h3, h4, PostE.now sr (.bl _) p⟩
/-- is, is not: of None, of truths -/
def isD : D → D → Sto → Res D
  | .bl a, .bl b, st => .ok (.bl (decide (a = b))) st
  | .non, .non, st => .ok (.bl true) st
  | _, .non, st => .ok (.bl false) st
  | _, _, _ => .stuck
def isntD : D → D → Sto → Res D
  | .bl a, .bl b, st => .ok (.bl (!decide (a = b))) st
  | .non, .non, st => .ok (.bl false) st
  | _, .non, st => .ok (.bl true) st
  | _, _, _ => .stuck
theorem od_is : OpD X W (compareOp .Is) isD := by
  intro pins s σ H x y v u Q I rx ry ⟨φ, st, d1, d2, sr, r1, r2, p⟩
  cases r2 with
  | non => cases r1 <;> exact op_isN pins s σ H _ _ v u Q I rx ry ⟨rfl, by simpa using PostE.now sr (.bl _) p⟩
  | bl b => cases r1 with
    | bl a => exact op_is_bl pins s σ H _ _ v u Q I rx ry ⟨a, b, rfl, rfl, PostE.now sr (.bl _) p⟩
    | _ => exact p.elim
  | _ => cases r1 <;> exact p.elim
theorem od_isnt : OpD X W (compareOp .IsNot) isntD := by
  intro pins s σ H x y v u Q I rx ry ⟨φ, st, d1, d2, sr, r1, r2, p⟩
  cases r2 with
  | non => cases r1 <;> exact op_notN pins s σ H _ _ v u Q I rx ry ⟨rfl, by simpa using PostE.now sr (.bl _) p⟩
  | bl b => cases r1 with
    | bl a => exact op_isnot_bl pins s σ H _ _ v u Q I rx ry ⟨a, b, rfl, rfl, PostE.now sr (.bl _) p⟩
    | _ => exact p.elim
  | _ => cases r1 <;> exact p.elim
/-- in: a flat value in a list, a tuple of such; a text in a text -/
def flatD : D → Bool
  | .non => true
  | .bl _ => true
  | .int _ => true
  | .str _ => true
  | _ => false
def eqFl : D → D → Bool
  | .non, .non => true
  | .bl a, .bl b => a == b
  | .bl a, .int b => (if a then 1 else 0) == b
  | .int a, .bl b => a == (if b then 1 else 0)
  | .int a, .int b => a == b
  | .str a, .str b => a == b
  | _, _ => false
def inB (st : Sto) : D → D → Option Bool
  | .str a, .str b => some (!(Builtin.Str.occurrences b a 0 b.length 1).isEmpty)
  | d, e => match seqOf st e with
    | some ds => if flatD d = true ∧ ds.all flatD = true then some (ds.any fun y => eqFl y d) else none
    | none => none
theorem flat_ok {K : PySem.W.Frag} {φ : List Addr} {H : Hp} {d : D} {v : V} (r : Rep K φ H d v) (h : flatD d = true) : flatV v = true := by
  cases r <;> first | rfl | cases h
theorem eqFl_ok {K : PySem.W.Frag} {φ : List Addr} {H : Hp} {d e : D} {v u : V} (r : Rep K φ H d v) (q : Rep K φ H e u) : eqFl d e = eqV v u := by
  cases r <;> cases q <;> rfl
theorem flats_ok {K : PySem.W.Frag} {φ : List Addr} {H : Hp} : ∀ {ds : List D} {vs : List V}, Reps K φ H ds vs → ds.all flatD = true → vs.all flatV = true
  | _, _, .nil, _ => rfl
  | _, _, .cons r rs, h => by
    rw [List.all_cons, Bool.and_eq_true] at h ⊢
    exact ⟨flat_ok r h.1, flats_ok rs h.2⟩
theorem inV_ok {K : PySem.W.Frag} {φ : List Addr} {H : Hp} {d : D} {v : V} (r : Rep K φ H d v) : ∀ {ds : List D} {vs : List V}, Reps K φ H ds vs → (ds.any fun y => eqFl y d) = inV v vs
  | _, _, .nil => rfl
  | _, _, .cons q rs => by
    show _ = List.any _ _
    rw [List.any_cons, List.any_cons, eqFl_ok q r, inV_ok r rs]
    rfl
def inD (d e : D) (st : Sto) : Res D := match inB st d e with
  | some k => .ok (.bl k) st
  | none => .stuck
def notinD (d e : D) (st : Sto) : Res D := match inB st d e with
  | some k => .ok (.bl (!k)) st
  | none => .stuck
theorem inB_ok {K : PySem.W.Frag} {φ : List Addr} {st : Sto} {H : Hp} {d e : D} {x y : V} {k : Bool} (sr : SR K φ st H) (r1 : Rep K φ H d x) (r2 : Rep K φ H e y) (h : inB st d e = some k) :
    (∃ a b, x = .str a ∧ y = .str b ∧ k = !(Builtin.Str.occurrences b a 0 b.length 1).isEmpty) ∨ (∃ p xs, y = .ref p ∧ (SqL K H p xs ∨ SqT K H p xs) ∧ flatV x = true ∧ xs.all flatV = true ∧ k = inV x xs) := by
  have seq : (match seqOf st e with
    | some ds => if flatD d = true ∧ ds.all flatD = true then some (ds.any fun y => eqFl y d) else none
    | none => none) = some k → ∃ p xs, y = .ref p ∧ (SqL K H p xs ∨ SqT K H p xs) ∧ flatV x = true ∧ xs.all flatV = true ∧ k = inV x xs := fun h => by
    cases h1 : seqOf st e with
    | none => rw [h1] at h; cases h
    | some ds =>
      rw [h1] at h
      simp only at h
      by_cases hf : flatD d = true ∧ ds.all flatD = true
      · rw [if_pos hf] at h
        obtain ⟨a, xs, rfl, q, rr⟩ := seqOf_sq sr r2 h1
        exact ⟨a, xs, rfl, q, flat_ok r1 hf.1, flats_ok rr hf.2, by rw [← inV_ok r1 rr]; exact (Option.some.inj h).symm⟩
      · rw [if_neg hf] at h; cases h
  cases r1 <;> cases r2 <;> first
    | exact .inl ⟨_, _, rfl, rfl, (Option.some.inj h).symm⟩
    | exact .inr (seq h)
theorem od_in : OpD X W (compareOp .In) inD := by
  intro pins s σ H x y v u Q I rx ry ⟨φ, st, d1, d2, sr, r1, r2, p⟩
  unfold inD at p
  cases e : inB st d1 d2 with
  | none => rw [e] at p; exact p.elim
  | some k =>
    rw [e] at p
    have q := PostE.now sr (.bl _) p
    rcases inB_ok sr r1 r2 e with ⟨a, b, rfl, rfl, rfl⟩ | ⟨p', xs, rfl, h2, h3, h4, rfl⟩
    · exact op_in_str pins s σ H _ _ v u Q I rx ry ⟨a, b, rfl, rfl, q⟩
    · exact op_in_seq pins s σ H _ _ v u Q I rx ry ⟨p', xs, rfl, h2, h3, h4, q⟩
theorem od_notin : OpD X W (compareOp .NotIn) notinD := by
  intro pins s σ H x y v u Q I rx ry ⟨φ, st, d1, d2, sr, r1, r2, p⟩
  unfold notinD at p
  cases e : inB st d1 d2 with
  | none => rw [e] at p; exact p.elim
  | some k =>
    rw [e] at p
    have q := PostE.now sr (.bl _) p
    rcases inB_ok sr r1 r2 e with ⟨a, b, rfl, rfl, rfl⟩ | ⟨p', xs, rfl, h2, h3, h4, rfl⟩
    · exact op_notin_str pins s σ H _ _ v u Q I rx ry ⟨a, b, rfl, rfl, q⟩
    · exact op_notIn_seq pins s σ H _ _ v u Q I rx ry ⟨p', xs, rfl, h2, h3, h4, q⟩

/-! ### built-in functions -/
def lenD : List D → Sto → Res D
  | [.str x], st => if x.length ≤ sizeLine then .ok (.int x.length) st else .stuck
  | [d], st => match seqOf st d with
    | some ds => .ok (.int ds.length) st
    | none => .stuck
  | _, _ => .stuck
theorem cd_len : CallD X W (.builtin "len") lenD := by
  intro pins s σ H vs us Q I rv ⟨φ, st, ds, sr, rs, p⟩
  cases rs with
  | nil => exact p.elim
  | cons r rs => cases rs with
    | cons _ _ => cases r <;> exact p.elim
    | nil =>
      rename_i d v
      have seq : PostE X.K W φ H Q (match seqOf st d with
        | some ds => .ok (.int ds.length) st
        | none => .stuck) → wpAny (model X.prog X.w) X.A (call (.builtin "len") us) (EP X pins σ Q) X.xe s := fun p => by
        cases h : seqOf st d with
        | none => rw [h] at p; exact p.elim
        | some ds =>
          rw [h] at p
          obtain ⟨a, xs, rfl, q, rr⟩ := seqOf_sq sr r h
          exact call_len_seq pins s σ H _ us Q I rv ⟨a, xs, rfl, q, by rw [← rr.length]; exact PostE.now sr (.int _) p⟩
      cases r with
      | str x =>
        unfold lenD at p
        simp only at p
        by_cases hz : x.length ≤ sizeLine
        · rw [if_pos hz] at p
          exact call_len_str pins s σ H _ us Q I rv ⟨x, rfl, hz, PostE.now sr (.int _) p⟩
        · rw [if_neg hz] at p; exact p.elim
      | _ => exact seq p
def intF : List D → Sto → Res D
  | [.int i], st => .ok (.int i) st
  | [.bl b], st => .ok (.int (if b then 1 else 0)) st
  | [.str x], st => if x.length ≤ 640 then (match PySem.intText? x with
    | some n => .ok (.int n) st
    | none => .stuck) else .stuck
  | _, _ => .stuck
theorem cd_int : CallD X W (.type "int") intF := by
  intro pins s σ H vs us Q I rv ⟨φ, st, ds, sr, rs, p⟩
  cases rs with
  | nil => exact p.elim
  | cons r rs => cases rs with
    | cons _ _ => cases r <;> exact p.elim
    | nil =>
      cases r with
      | int i => exact call_int1 pins s σ H _ us Q I rv (.inl ⟨i, rfl, PostE.now sr (.int _) p⟩)
      | bl b => exact call_int1 pins s σ H _ us Q I rv (.inr ⟨b, rfl, PostE.now sr (.int _) p⟩)
      | str x =>
        unfold intF at p
        simp only at p
        by_cases hz : x.length ≤ 640
        · rw [if_pos hz] at p
          cases hn : PySem.intText? x with
          | none => rw [hn] at p; exact p.elim
          | some n => rw [hn] at p; exact call_int_str pins s σ H _ us Q I rv ⟨x, n, rfl, hn, hz, PostE.now sr (.int _) p⟩
        · rw [if_neg hz] at p; exact p.elim
      | _ => exact p.elim
def strF : List D → Sto → Res D
  | [.int i], st => if i.natAbs.log2 < 1920 then .ok (.str (toString i)) st else .stuck
  | _, _ => .stuck
theorem cd_str : CallD X W (.type "str") strF := by
  intro pins s σ H vs us Q I rv ⟨φ, st, ds, sr, rs, p⟩
  cases rs with
  | nil => exact p.elim
  | cons r rs => cases rs with
    | cons _ _ => cases r <;> exact p.elim
    | nil =>
      cases r with
      | int i =>
        unfold strF at p
        simp only at p
        by_cases hz : i.natAbs.log2 < 1920
        · rw [if_pos hz] at p
          exact call_str_int pins s σ H _ us Q I rv ⟨i, rfl, hz, PostE.now sr (.str _) p⟩
        · rw [if_neg hz] at p; exact p.elim
      | _ => exact p.elim
def listF (mk : Bool) : List D → Sto → Res D
  | [d], st => match seqOf st d with
    | some ds => mkL mk ds st
    | none => .stuck
  | _, _ => .stuck
theorem cd_list (mk : Bool) : CallD X W (.type "list") (listF mk) := by
  intro pins s σ H vs us Q I rv ⟨φ, st, ds, sr, rs, p⟩
  cases rs with
  | nil => exact p.elim
  | cons r rs => cases rs with
    | cons _ _ => exact p.elim
    | nil =>
      rename_i d v
      unfold listF at p
      simp only at p
      cases h : seqOf st d with
      | none => rw [h] at p; exact p.elim
      | some ds =>
        rw [h] at p
        obtain ⟨a, xs, rfl, q, rr⟩ := seqOf_sq sr r h
        exact call_list_of pins s σ H _ us Q I rv ⟨a, xs, rfl, q, fun l hl => mkL_ok sr rr p hl⟩
def tupF : List D → Sto → Res D
  | [.tup ds], st => .ok (.tup ds) st
  | [d], st => match lstOf st d with
    | some ds => .ok (.tup ds) st
    | none => .stuck
  | _, _ => .stuck
theorem cd_tup : CallD X W (.type "tuple") tupF := by
  intro pins s σ H vs us Q I rv ⟨φ, st, ds, sr, rs, p⟩
  cases rs with
  | nil => exact p.elim
  | cons r rs => cases rs with
    | cons _ _ => cases r <;> exact p.elim
    | nil =>
      rename_i d v
      have lists : PostE X.K W φ H Q (match lstOf st d with
        | some ds => .ok (.tup ds) st
        | none => .stuck) → wpAny (model X.prog X.w) X.A (call (.type "tuple") us) (EP X pins σ Q) X.xe s := fun p => by
        cases h : lstOf st d with
        | none => rw [h] at p; exact p.elim
        | some ds =>
          rw [h] at p
          obtain ⟨a, xs, rfl, q, rr⟩ := lstOf_sq sr r h
          exact call_tuple_of pins s σ H _ us Q I rv ⟨a, xs, rfl, .inl ⟨q, fun l hl => tup_ok sr rr p hl⟩⟩
      cases r with
      | tup h1 rr => exact call_tuple_of pins s σ H _ us Q I rv ⟨_, _, rfl, .inr ⟨h1.sq, PostE.now sr (.tup h1 rr) p⟩⟩
      | _ => exact lists p
/-- bools, ints of a list -/
def blsOf : List D → Option (List Bool)
  | [] => some []
  | .bl b :: ds => (blsOf ds).map (b :: ·)
  | _ :: _ => none
def intsOf : List D → Option (List Int)
  | [] => some []
  | .int b :: ds => (intsOf ds).map (b :: ·)
  | _ :: _ => none
def strsOf : List D → Option (List Str)
  | [] => some []
  | .str b :: ds => (strsOf ds).map (b :: ·)
  | _ :: _ => none
section
variable {K : PySem.W.Frag} {φ : List Addr} {H : Hp}
theorem blsOf_ok : ∀ {ds : List D} {vs : List V} {bs : List Bool}, Reps K φ H ds vs → blsOf ds = some bs → vs = bs.map V.bl
  | _, _, _, .nil, e => by cases e; rfl
  | _, _, _, .cons (d := d) (ds := ds) r rs, e => by
    cases r with
    | bl b =>
      unfold blsOf at e
      cases h : blsOf ds with
      | none => rw [h] at e; cases e
      | some bs => rw [h] at e; cases e; rw [blsOf_ok rs h]; rfl
    | _ => cases e
theorem intsOf_ok : ∀ {ds : List D} {vs : List V} {bs : List Int}, Reps K φ H ds vs → intsOf ds = some bs → vs = bs.map V.int
  | _, _, _, .nil, e => by cases e; rfl
  | _, _, _, .cons (d := d) (ds := ds) r rs, e => by
    cases r with
    | int b =>
      unfold intsOf at e
      cases h : intsOf ds with
      | none => rw [h] at e; cases e
      | some bs => rw [h] at e; cases e; rw [intsOf_ok rs h]; rfl
    | _ => cases e
theorem strsOf_ok : ∀ {ds : List D} {vs : List V} {bs : List Str}, Reps K φ H ds vs → strsOf ds = some bs → vs = bs.map V.str
  | _, _, _, .nil, e => by cases e; rfl
  | _, _, _, .cons (d := d) (ds := ds) r rs, e => by
    cases r with
    | str b =>
      unfold strsOf at e
      cases h : strsOf ds with
      | none => rw [h] at e; cases e
      | some bs => rw [h] at e; cases e; rw [strsOf_ok rs h]; rfl
    | _ => cases e
end
@[simp] theorem blsOf_map {α : Type} (f : α → Bool) (l : List α) : blsOf (l.map fun a => .bl (f a)) = some (l.map f) := by
  induction l with
  | nil => rfl
  | cons a l ih => show (blsOf (l.map fun a => .bl (f a))).map (f a :: ·) = _; rw [ih]; rfl
@[simp] theorem intsOf_map {α : Type} (f : α → Int) (l : List α) : intsOf (l.map fun a => .int (f a)) = some (l.map f) := by
  induction l with
  | nil => rfl
  | cons a l ih => show (intsOf (l.map fun a => .int (f a))).map (f a :: ·) = _; rw [ih]; rfl
@[simp] theorem strsOf_map {α : Type} (f : α → Str) (l : List α) : strsOf (l.map fun a => .str (f a)) = some (l.map f) := by
  induction l with
  | nil => rfl
  | cons a l ih => show (strsOf (l.map fun a => .str (f a))).map (f a :: ·) = _; rw [ih]; rfl
def allF : List D → Sto → Res D
  | [d], st => match (lstOf st d).bind blsOf with
    | some bs => .ok (.bl (bs.all id)) st
    | none => .stuck
  | _, _ => .stuck
def anyF : List D → Sto → Res D
  | [d], st => match (lstOf st d).bind blsOf with
    | some bs => .ok (.bl (bs.any id)) st
    | none => .stuck
  | _, _ => .stuck
def sumF : List D → Sto → Res D
  | [d], st => match (lstOf st d).bind intsOf with
    | some bs => .ok (.int bs.sum) st
    | none => .stuck
  | _, _ => .stuck
theorem lst_bls {K : PySem.W.Frag} {φ : List Addr} {st : Sto} {H : Hp} {d : D} {v : V} {bs : List Bool} (sr : SR K φ st H) (r : Rep K φ H d v) (e : (lstOf st d).bind blsOf = some bs) : ∃ a, v = .ref a ∧ SqL K H a (bs.map V.bl) := by
  cases h : lstOf st d with
  | none => rw [h] at e; cases e
  | some ds =>
    rw [h] at e
    obtain ⟨a, xs, rfl, q, rr⟩ := lstOf_sq sr r h
    exact ⟨a, rfl, by rw [← blsOf_ok rr e]; exact q⟩
theorem lst_ints {K : PySem.W.Frag} {φ : List Addr} {st : Sto} {H : Hp} {d : D} {v : V} {bs : List Int} (sr : SR K φ st H) (r : Rep K φ H d v) (e : (lstOf st d).bind intsOf = some bs) : ∃ a, v = .ref a ∧ SqL K H a (bs.map V.int) := by
  cases h : lstOf st d with
  | none => rw [h] at e; cases e
  | some ds =>
    rw [h] at e
    obtain ⟨a, xs, rfl, q, rr⟩ := lstOf_sq sr r h
    exact ⟨a, rfl, by rw [← intsOf_ok rr e]; exact q⟩
theorem cd_all (hc : X.calm = true) : CallD X W (.builtin "all") allF := by
  intro pins s σ H vs us Q I rv ⟨φ, st, ds, sr, rs, p⟩
  cases rs with
  | nil => exact p.elim
  | cons r rs => cases rs with
    | cons _ _ => exact p.elim
    | nil =>
      rename_i d v
      unfold allF at p
      simp only at p
      cases e : (lstOf st d).bind blsOf with
      | none => rw [e] at p; exact p.elim
      | some bs =>
        rw [e] at p
        obtain ⟨a, rfl, q⟩ := lst_bls sr r e
        exact cr_all hc pins s σ H _ us Q I rv ⟨a, bs, rfl, q, PostE.now sr (.bl _) p⟩
theorem cd_any (hc : X.calm = true) : CallD X W (.builtin "any") anyF := by
  intro pins s σ H vs us Q I rv ⟨φ, st, ds, sr, rs, p⟩
  cases rs with
  | nil => exact p.elim
  | cons r rs => cases rs with
    | cons _ _ => exact p.elim
    | nil =>
      rename_i d v
      unfold anyF at p
      simp only at p
      cases e : (lstOf st d).bind blsOf with
      | none => rw [e] at p; exact p.elim
      | some bs =>
        rw [e] at p
        obtain ⟨a, rfl, q⟩ := lst_bls sr r e
        exact cr_any hc pins s σ H _ us Q I rv ⟨a, bs, rfl, q, PostE.now sr (.bl _) p⟩
theorem cd_sum (hc : X.calm = true) : CallD X W (.builtin "sum") sumF := by
  intro pins s σ H vs us Q I rv ⟨φ, st, ds, sr, rs, p⟩
  cases rs with
  | nil => exact p.elim
  | cons r rs => cases rs with
    | cons _ _ => exact p.elim
    | nil =>
      rename_i d v
      unfold sumF at p
      simp only at p
      cases e : (lstOf st d).bind intsOf with
      | none => rw [e] at p; exact p.elim
      | some bs =>
        rw [e] at p
        obtain ⟨a, rfl, q⟩ := lst_ints sr r e
        exact cr_sum hc pins s σ H _ us Q I rv ⟨a, bs, rfl, q, PostE.now sr (.int _) p⟩
/-- the greatest, the least -/
def maxI : List Int → Int
  | [] => 0
  | [a] => a
  | a :: l => if maxI l > a then maxI l else a
def minI : List Int → Int
  | [] => 0
  | [a] => a
  | a :: l => if minI l < a then minI l else a
theorem maxI_mem : ∀ {l : List Int}, l ≠ [] → maxI l ∈ l ∧ ∀ y ∈ l, y ≤ maxI l
  | [], h => absurd rfl h
  | [a], _ => by simp [maxI]
  | a :: b :: l, _ => by
    obtain ⟨h1, h2⟩ := maxI_mem (l := b :: l) (by simp)
    show (if maxI (b :: l) > a then maxI (b :: l) else a) ∈ _ ∧ ∀ y ∈ a :: b :: l, y ≤ (if maxI (b :: l) > a then maxI (b :: l) else a)
    by_cases h : maxI (b :: l) > a
    · rw [if_pos h]
      refine ⟨List.mem_cons_of_mem _ h1, fun y hy => ?_⟩
      rcases List.mem_cons.mp hy with e | hy
      · omega
      · exact h2 y hy
    · rw [if_neg h]
      refine ⟨List.mem_cons_self, fun y hy => ?_⟩
      rcases List.mem_cons.mp hy with e | hy
      · omega
      · have := h2 y hy; omega
theorem minI_mem : ∀ {l : List Int}, l ≠ [] → minI l ∈ l ∧ ∀ y ∈ l, minI l ≤ y
  | [], h => absurd rfl h
  | [a], _ => by simp [minI]
  | a :: b :: l, _ => by
    obtain ⟨h1, h2⟩ := minI_mem (l := b :: l) (by simp)
    show (if minI (b :: l) < a then minI (b :: l) else a) ∈ _ ∧ ∀ y ∈ a :: b :: l, (if minI (b :: l) < a then minI (b :: l) else a) ≤ y
    by_cases h : minI (b :: l) < a
    · rw [if_pos h]
      refine ⟨List.mem_cons_of_mem _ h1, fun y hy => ?_⟩
      rcases List.mem_cons.mp hy with e | hy
      · omega
      · exact h2 y hy
    · rw [if_neg h]
      refine ⟨List.mem_cons_self, fun y hy => ?_⟩
      rcases List.mem_cons.mp hy with e | hy
      · omega
      · have := h2 y hy; omega
def maxF : List D → Sto → Res D
  | [.int a, .int b], st => .ok (.int (if b > a then b else a)) st
  | [d], st => match (lstOf st d).bind intsOf with
    | some bs => if bs.isEmpty = false then .ok (.int (maxI bs)) st else .stuck
    | none => .stuck
  | _, _ => .stuck
def minF : List D → Sto → Res D
  | [.int a, .int b], st => .ok (.int (if b < a then b else a)) st
  | [d], st => match (lstOf st d).bind intsOf with
    | some bs => if bs.isEmpty = false then .ok (.int (minI bs)) st else .stuck
    | none => .stuck
  | _, _ => .stuck
theorem cd_max (hc : X.calm = true) : CallD X W (.builtin "max") maxF := by
  intro pins s σ H vs us Q I rv ⟨φ, st, ds, sr, rs, p⟩
  cases rs with
  | nil => exact p.elim
  | cons r rs => cases rs with
    | cons r2 rs => cases rs with
      | cons _ _ => cases r <;> first | exact p.elim | (cases r2 <;> exact p.elim)
      | nil => cases r with
        | int a => cases r2 with
          | int b => exact call_max2 hc pins s σ H _ us Q I rv ⟨a, b, rfl, PostE.now sr (.int _) p⟩
          | _ => exact p.elim
        | _ => exact p.elim
    | nil =>
      rename_i d v
      unfold maxF at p
      simp only at p
      cases e : (lstOf st d).bind intsOf with
      | none => rw [e] at p; exact p.elim
      | some bs =>
        rw [e] at p
        simp only at p
        by_cases hz : bs.isEmpty = false
        · rw [if_pos hz] at p
          have hne : bs ≠ [] := fun z => by subst z; cases hz
          obtain ⟨a, rfl, q⟩ := lst_ints sr r e
          obtain ⟨h1, h2⟩ := maxI_mem hne
          refine cr_max hc pins s σ H _ us Q I rv ⟨a, bs, rfl, q, List.length_pos_iff.mpr hne, fun m hm hle => ?_⟩
          have e : m = maxI bs := by have a1 := hle _ h1; have a2 := h2 _ hm; omega
          subst e
          exact PostE.now sr (.int _) p
        · rw [if_neg hz] at p; exact p.elim
theorem cd_min (hc : X.calm = true) : CallD X W (.builtin "min") minF := by
  intro pins s σ H vs us Q I rv ⟨φ, st, ds, sr, rs, p⟩
  cases rs with
  | nil => exact p.elim
  | cons r rs => cases rs with
    | cons r2 rs => cases rs with
      | cons _ _ => cases r <;> first | exact p.elim | (cases r2 <;> exact p.elim)
      | nil => cases r with
        | int a => cases r2 with
          | int b => exact call_min2 hc pins s σ H _ us Q I rv ⟨a, b, rfl, PostE.now sr (.int _) p⟩
          | _ => exact p.elim
        | _ => exact p.elim
    | nil =>
      rename_i d v
      unfold minF at p
      simp only at p
      cases e : (lstOf st d).bind intsOf with
      | none => rw [e] at p; exact p.elim
      | some bs =>
        rw [e] at p
        simp only at p
        by_cases hz : bs.isEmpty = false
        · rw [if_pos hz] at p
          have hne : bs ≠ [] := fun z => by subst z; cases hz
          obtain ⟨a, rfl, q⟩ := lst_ints sr r e
          obtain ⟨h1, h2⟩ := minI_mem hne
          refine cr_min hc pins s σ H _ us Q I rv ⟨a, bs, rfl, q, List.length_pos_iff.mpr hne, fun m hm hle => ?_⟩
          have e : m = minI bs := by have a1 := hle _ h1; have a2 := h2 _ hm; omega
          subst e
          exact PostE.now sr (.int _) p
        · rw [if_neg hz] at p; exact p.elim
end
end DL

/-! DL4: isinstance, subscripts, slices, methods. -/
namespace DL
open PySem PySem.Spec L2
section
variable {X : Cx} {W : XK}
/-! ### isinstance -/
def tyN (st : Sto) : D → Option String
  | .non => some "NoneType"
  | .bl _ => some "bool"
  | .int _ => some "int"
  | .str _ => some "str"
  | .tup _ => some "tuple"
  | .lst _ => some "list"
  | .ro _ => some "list"
  | .hnd n => match st[n]? with
    | some (.lst _) => some "list"
    | none => none
  | .ty _ => none
def tysOf : List D → Option (List String)
  | [] => some []
  | .ty b :: r => (tysOf r).map (b :: ·)
  | _ => none
def kitAnyS (a : String) : List String → Option Bool
  | [] => some false
  | b :: r => match kitB a b with
    | some true => some true
    | some false => kitAnyS a r
    | none => none
def isiF : List D → Sto → Res D
  | [d, .ty b], st => match (tyN st d).bind fun a => kitB a b with
    | some k => .ok (.bl k) st
    | none => .stuck
  | [d, .tup cs], st => match (tyN st d).bind fun a => (tysOf cs).bind (kitAnyS a) with
    | some k => .ok (.bl k) st
    | none => .stuck
  | _, _ => .stuck
theorem tyN_ok {K : PySem.W.Frag} {φ : List Addr} {st : Sto} {H : Hp} {d : D} {v : V} {a : String} (sr : SR K φ st H) (r : Rep K φ H d v) (e : tyN st d = some a) : TyX K H v (.type a) := by
  cases r with
  | non => cases e; exact .base .non
  | bl b => cases e; exact .base (.bl b)
  | int i => cases e; exact .base (.int i)
  | str x => cases e; exact .base (.str x)
  | tup h _ =>
    cases e
    rcases h with ⟨h, _⟩ | ⟨o, its, n, h1, h2, _⟩
    · exact .base (.tup h)
    · exact .kTuple h1 h2
  | lst h _ => cases e; exact .base (.lst h.1)
  | ro h _ =>
    cases e
    rcases h with ⟨⟨o, h⟩, _⟩ | ⟨o, its, n, h1, h2, _⟩
    · exact .base (.frz h)
    · exact .kList h1 h2
  | @hnd n p h =>
    unfold tyN at e
    simp only at e
    cases hc : st[n]? with
    | none => rw [hc] at e; cases e
    | some c =>
      cases c with
      | lst ds =>
        rw [hc] at e
        cases e
        obtain ⟨q, e1, xs, e2, _⟩ := sr.cell n _ hc
        rw [h] at e1; cases e1
        exact .base (.lst e2)
  | ty n => cases e
theorem tysOf_ok {K : PySem.W.Frag} {φ : List Addr} {H : Hp} : ∀ {ds : List D} {vs : List V} {bs : List String}, Reps K φ H ds vs → tysOf ds = some bs → vs = bs.map V.ty
  | _, _, _, .nil, e => by cases e; rfl
  | _, _, _, .cons (d := d) (ds := ds) r rs, e => by
    cases r with
    | ty b =>
      unfold tysOf at e
      cases h : tysOf ds with
      | none => rw [h] at e; cases e
      | some bs => rw [h] at e; cases e; rw [tysOf_ok rs h]; rfl
    | _ => cases e
theorem paired_ty : ∀ bs : List String, Paired ClsV (bs.map V.ty) (bs.map Value.type)
  | [] => .nil
  | b :: bs => .cons (.ty b) (paired_ty bs)
theorem kitAnyS_ok {K : PySem.W.Frag} {a : String} : ∀ {bs : List String} {k : Bool}, kitAnyS a bs = some k → PySem.W.kitAny K (.type a) (bs.map Value.type) = some k
  | [], _, e => by cases e; exact kitAny_nil
  | b :: bs, k, e => by
    unfold kitAnyS at e
    cases h : kitB a b with
    | none => rw [h] at e; cases e
    | some c =>
      rw [h] at e
      cases c with
      | true => cases e; exact kitAny_cons (kit_ty h) (fun z => nomatch z) fun _ => rfl
      | false => exact kitAny_cons (kit_ty h) (fun _ => kitAnyS_ok e) fun z => nomatch z
theorem cd_isi : CallD X W (.builtin "isinstance") isiF := by
  intro pins s σ H vs us Q I rv ⟨φ, st, ds, sr, rs, p⟩
  cases rs with
  | nil => exact p.elim
  | cons r rs => cases rs with
    | nil => exact p.elim
    | cons r2 rs => cases rs with
      | cons _ _ => cases r2 <;> exact p.elim
      | nil =>
        rename_i d v _ _
        cases r2 with
        | ty b =>
          unfold isiF at p
          simp only at p
          cases h : tyN st d with
          | none => rw [h] at p; exact p.elim
          | some a =>
            rw [h] at p
            simp only [Option.bind_some] at p
            cases h2 : kitB a b with
            | none => rw [h2] at p; exact p.elim
            | some k =>
              rw [h2] at p
              exact call_isi pins s σ H _ us Q I rv ⟨v, .ty b, .type a, .type b, k, rfl, .ty b, tyN_ok sr r h, kit_ty h2, PostE.now sr (.bl _) p⟩
        | @tup tp xs cs h1 rr =>
          unfold isiF at p
          simp only at p
          cases h : tyN st d with
          | none => rw [h] at p; exact p.elim
          | some a =>
            rw [h] at p
            simp only [Option.bind_some] at p
            cases h2 : tysOf cs with
            | none => rw [h2] at p; exact p.elim
            | some bs =>
              rw [h2] at p
              simp only [Option.bind_some] at p
              cases h3 : kitAnyS a bs with
              | none => rw [h3] at p; exact p.elim
              | some k =>
                rw [h3] at p
                have q := PostE.now sr (.bl _) p
                have ex := tysOf_ok rr h2
                rcases h1 with ⟨h1, _⟩ | ⟨o, its, n, k1, k2, k3, k4, k5⟩
                · exact call_isiT pins s σ H _ us Q I rv ⟨v, tp, xs, .type a, bs.map Value.type, k, rfl, h1, by rw [ex]; exact paired_ty bs, tyN_ok sr r h, kitAnyS_ok h3, q⟩
                · obtain ⟨oc, od, dt, osl⟩ := o
                  simp only at k2 k3
                  subst k2 k3
                  have e5 : its.toList = bs.map Value.type := by
                    rw [ex] at k5
                    exact ClsV.all (paired_ty bs) k5
                  exact call_isiK pins s σ H _ us Q I rv ⟨v, tp, od, its.toList, n, osl, .type a, k, rfl, by simpa using k1, tyN_ok sr r h, by rw [e5]; exact kitAnyS_ok h3, q⟩
        | _ => exact p.elim
def absF : List D → Sto → Res D
  | [.int i], st => .ok (.int (if i < 0 then -i else i)) st
  | _, _ => .stuck
theorem cd_abs : CallD X W (.builtin "abs") absF := by
  intro pins s σ H vs us Q I rv ⟨φ, st, ds, sr, rs, p⟩
  cases rs with
  | nil => exact p.elim
  | cons r rs => cases rs with
    | cons _ _ => cases r <;> exact p.elim
    | nil => cases r with
      | int i => exact call_abs pins s σ H _ us Q I rv ⟨i, rfl, PostE.now sr (.int _) p⟩
      | _ => exact p.elim

/-! ### xs[i] -/
def ixD : D → D → Sto → Res D
  | .str x, .int i, st => if x.length ≤ sizeLine then (match atI x.cps.toList i with
    | some c => .ok (.str ⟨#[c]⟩) st
    | none => .stuck) else .stuck
  | d, .int i, st => match (seqOf st d).bind fun ds => atI ds i with
    | some y => .ok y st
    | none => .stuck
  | _, _, _ => .stuck
theorem atI_reps {K : PySem.W.Frag} {φ : List Addr} {H : Hp} {ds : List D} {vs : List V} {i : Int} {d : D} (r : Reps K φ H ds vs) (e : atI ds i = some d) : ∃ v, atI vs i = some v ∧ Rep K φ H d v := by
  unfold atI at e ⊢
  rw [← r.length]
  cases h : ixN ds.length i with
  | none => rw [h] at e; cases e
  | some j => rw [h] at e; exact r.get e
theorem id_ix : IxR X (rOp X.K W ixD) := by
  intro value slice pins s σ H x y v u Q I rx ry ⟨φ, st, d1, d2, sr, r1, r2, p⟩ hs
  cases r2 with
  | int i =>
    have seq : PostE X.K W φ H Q (match (seqOf st d1).bind fun ds => atI ds i with
      | some y => .ok y st
      | none => .stuck) → wpAny (model X.prog X.w) X.A (PyProof.Rows.subscriptTail value slice v u) (EP X pins σ Q) X.xe s := fun p => by
      cases h : seqOf st d1 with
      | none => rw [h] at p; exact p.elim
      | some ds =>
        rw [h] at p
        simp only [Option.bind_some] at p
        cases h2 : atI ds i with
        | none => rw [h2] at p; exact p.elim
        | some y =>
          rw [h2] at p
          obtain ⟨a, xs, rfl, q, rr⟩ := seqOf_sq sr r1 h
          obtain ⟨z, e, rz⟩ := atI_reps rr h2
          have q2 := PostE.now sr rz p
          rcases q with q | q
          · exact ix_seq value slice pins s σ H _ _ v u Q I rx ry (.inl ⟨a, xs, i, z, rfl, rfl, q, e, q2⟩) hs
          · exact ix_seq value slice pins s σ H _ _ v u Q I rx ry (.inr (.inl ⟨a, xs, i, z, rfl, rfl, q, e, q2⟩)) hs
    cases r1 with
    | str x =>
      unfold ixD at p
      simp only at p
      by_cases hz : x.length ≤ sizeLine
      · rw [if_pos hz] at p
        cases h : atI x.cps.toList i with
        | none => rw [h] at p; exact p.elim
        | some c => rw [h] at p; exact ix_seq value slice pins s σ H _ _ v u Q I rx ry (.inr (.inr ⟨x, i, c, rfl, rfl, hz, h, PostE.now sr (.str _) p⟩)) hs
      · rw [if_neg hz] at p; exact p.elim
    | _ => exact seq p
  | _ => cases r1 <;> exact p.elim
/-! ### slices -/
def cutL {α : Type} (xs : List α) (lo hi : Option Int) : List α := (xs.drop (HT.sIx xs.length 0 lo)).take (HT.sIx xs.length xs.length hi - HT.sIx xs.length 0 lo)
theorem Reps.cut {K : PySem.W.Frag} {φ : List Addr} {H : Hp} {ds : List D} {vs : List V} (lo hi : Option Int) (r : Reps K φ H ds vs) : Reps K φ H (cutL ds lo hi) (cutV vs lo hi) := by
  unfold cutL cutV
  rw [r.length]
  exact (r.drop _).take _
theorem cutL_whole {α : Type} {xs : List α} {lo hi : Option Int} (h : HT.sIx xs.length 0 lo = 0 ∧ HT.sIx xs.length xs.length hi = xs.length) : cutL xs lo hi = xs := by
  unfold cutL
  rw [h.1, h.2]
  simp
def slD (mk : Bool) : D → Option Int → Option Int → Sto → Res D
  | .str x, lo, hi, st => if x.length ≤ sizeLine then .ok (.str (cutS x lo hi)) st else .stuck
  | .tup ds, lo, hi, st => .ok (.tup (cutL ds lo hi)) st
  | d, lo, hi, st => match lstOf st d with
    | some ds => mkL mk (cutL ds lo hi) st
    | none => .stuck
theorem sd_sl (mk : Bool) : SlR X (rSlD X.K W (slD mk)) := by
  intro pins s σ H x v vl vu lo hi sl Q I rx hs pl pu ⟨φ, st, d, sr, r, p⟩
  have lists : PostE X.K W φ H Q (match lstOf st d with
    | some ds => mkL mk (cutL ds lo hi) st
    | none => .stuck) → rSlL X.K x lo hi H Q := fun p => by
    cases h : lstOf st d with
    | none => rw [h] at p; exact p.elim
    | some ds =>
      rw [h] at p
      obtain ⟨a, xs, rfl, q, rr⟩ := lstOf_sq sr r h
      exact ⟨a, xs, rfl, q, fun l hl => mkL_ok sr (rr.cut lo hi) p hl⟩
  cases r with
  | str x =>
    unfold slD at p
    simp only at p
    by_cases hz : x.length ≤ sizeLine
    · rw [if_pos hz] at p
      exact sl_str pins s σ H _ v vl vu lo hi sl Q I rx hs pl pu ⟨x, rfl, hz, PostE.now sr (.str _) p⟩
    · rw [if_neg hz] at p; exact p.elim
  | @tup a xs ds h1 rr =>
    refine sl_tupA pins s σ H _ v vl vu lo hi sl Q I rx hs pl pu ⟨a, xs, rfl, h1.sq, fun z => ?_, fun z q hq => tup_ok sr (rr.cut lo hi) p hq⟩
    unfold slD at p
    simp only at p
    rw [cutL_whole (by rw [rr.length]; exact z)] at p
    exact PostE.now sr (.tup h1 rr) p
  | lst h1 rr => exact sl_list pins s σ H _ v vl vu lo hi sl Q I rx hs pl pu (lists p)
  | ro h1 rr => exact sl_list pins s σ H _ v vl vu lo hi sl Q I rx hs pl pu (lists p)
  | hnd h1 => exact sl_list pins s σ H _ v vl vu lo hi sl Q I rx hs pl pu (lists p)
  | _ => exact p.elim

/-! ### methods -/
def appendM : D → List D → Sto → Res D
  | .hnd n, [d], st => match st[n]? with
    | some (.lst ds) => if ds.length < sizeLine then .ok .non (st.set n (.lst (ds ++ [d]))) else .stuck
    | none => .stuck
  | _, _, _ => .stuck
theorem md_append : MtR X "list.append" (rMt X.K W appendM) := by
  intro pins s σ H x xs v us Q I rx rv ⟨φ, st, d, ds, sr, r, rs, p⟩
  cases r with
  | @hnd n a h =>
    cases rs with
    | nil => exact p.elim
    | cons r1 rs => cases rs with
      | cons _ _ => exact p.elim
      | nil =>
        unfold appendM at p
        simp only at p
        cases hc : st[n]? with
        | none => rw [hc] at p; exact p.elim
        | some c => cases c with
          | lst ds =>
            rw [hc] at p
            simp only at p
            by_cases hz : ds.length < sizeLine
            · rw [if_pos hz] at p
              obtain ⟨a', e1, ys, e2, rr⟩ := sr.cell n _ hc
              rw [h] at e1; cases e1
              refine mt_append pins s σ H _ _ v us Q I rx rv ⟨a, ys, _, rfl, rfl, e2, by rw [← rr.length]; exact hz, ?_⟩
              exact p φ _ _ (Keep.write (List.mem_of_getElem? h)) (sr.write h (rr.append (.cons r1 .nil))) .non
            · rw [if_neg hz] at p; exact p.elim
  | _ => exact p.elim
/-- pop(), pop(i) -/
def popM : D → List D → Sto → Res D
  | .hnd n, [], st => match st[n]? with
    | some (.lst ds) => match ds[ds.length - 1]? with
      | some y => .ok y (st.set n (.lst ds.dropLast))
      | none => .stuck
    | none => .stuck
  | .hnd n, [.int i], st => match st[n]? with
    | some (.lst ds) => if -(2 ^ 63) ≤ i ∧ i < 2 ^ 63 then (match ixN ds.length i with
      | some k => match ds[k]? with
        | some y => .ok y (st.set n (.lst (ds.eraseIdx k)))
        | none => .stuck
      | none => .stuck) else .stuck
    | none => .stuck
  | _, _, _ => .stuck
theorem Reps.dropLast {K : PySem.W.Frag} {φ : List Addr} {H : Hp} {ds : List D} {vs : List V} (r : Reps K φ H ds vs) : Reps K φ H ds.dropLast vs.dropLast := by
  rw [List.dropLast_eq_take, List.dropLast_eq_take, r.length]
  exact r.take _
theorem md_pop : MtR X "list.pop" (rMt X.K W popM) := by
  intro pins s σ H x xs v us Q I rx rv ⟨φ, st, d, ds, sr, r, rs, p⟩
  cases r with
  | @hnd n a h =>
    cases rs with
    | nil =>
      unfold popM at p
      simp only at p
      cases hc : st[n]? with
      | none => rw [hc] at p; exact p.elim
      | some c => cases c with
        | lst ds =>
          rw [hc] at p
          simp only at p
          cases hy : ds[ds.length - 1]? with
          | none => rw [hy] at p; exact p.elim
          | some y =>
            rw [hy] at p
            obtain ⟨a', e1, ys, e2, rr⟩ := sr.cell n _ hc
            rw [h] at e1; cases e1
            obtain ⟨z, ez, rz⟩ := rr.get hy
            refine mt_pop pins s σ H _ _ v us Q I rx rv ⟨a, ys, z, rfl, rfl, e2, by rw [← rr.length]; exact ez, ?_⟩
            have k : Keep φ φ H (upd H a (.lst ys.dropLast)) := Keep.write (List.mem_of_getElem? h)
            exact p φ _ _ k (sr.write h rr.dropLast) (rz.keep k)
    | cons r1 rs => cases rs with
      | cons _ _ => cases r1 <;> exact p.elim
      | nil => cases r1 with
        | int i =>
          unfold popM at p
          simp only at p
          cases hc : st[n]? with
          | none => rw [hc] at p; exact p.elim
          | some c => cases c with
            | lst ds =>
              rw [hc] at p
              simp only at p
              by_cases hz : -(2 ^ 63) ≤ i ∧ i < 2 ^ 63
              · rw [if_pos hz] at p
                cases hk : ixN ds.length i with
                | none => rw [hk] at p; exact p.elim
                | some k =>
                  rw [hk] at p
                  simp only at p
                  cases hy : ds[k]? with
                  | none => rw [hy] at p; exact p.elim
                  | some y =>
                    rw [hy] at p
                    obtain ⟨a', e1, ys, e2, rr⟩ := sr.cell n _ hc
                    rw [h] at e1; cases e1
                    obtain ⟨z, ez, rz⟩ := rr.get hy
                    refine mt_popAt pins s σ H _ _ v us Q I rx rv ⟨a, ys, i, k, z, rfl, rfl, e2, hz.1, hz.2, by rw [← rr.length]; exact (ixN_seq hk).1, ez, ?_⟩
                    have k : Keep φ φ H (upd H a (.lst (ys.eraseIdx k))) := Keep.write (List.mem_of_getElem? h)
                    exact p φ _ _ k (sr.write h (rr.eraseIdx _)) (rz.keep k)
              · rw [if_neg hz] at p; exact p.elim
        | _ => exact p.elim
  | _ => cases rs with
    | nil => exact p.elim
    | cons r1 rs => cases rs with
      | cons _ _ => cases r1 <;> exact p.elim
      | nil => cases r1 <;> exact p.elim
/-- xs.extend(ys), ys a tracked list -/
def extendM : D → List D → Sto → Res D
  | .hnd n, [d], st => match st[n]?, trkOf st d with
    | some (.lst ds), some es => if ds.length + es.length ≤ sizeLine then .ok .non (st.set n (.lst (ds ++ es))) else .stuck
    | _, _ => .stuck
  | _, _, _ => .stuck
theorem md_extend : MtR X "list.extend" (rMt X.K W extendM) := by
  intro pins s σ H x xs v us Q I rx rv ⟨φ, st, d, ds, sr, r, rs, p⟩
  cases r with
  | @hnd n a h =>
    cases rs with
    | nil => exact p.elim
    | cons r1 rs => cases rs with
      | cons _ _ => exact p.elim
      | nil =>
        rename_i d1 v1
        unfold extendM at p
        simp only at p
        cases hc : st[n]? with
        | none => rw [hc] at p; exact p.elim
        | some c => cases c with
          | lst ds =>
            rw [hc] at p
            cases ht : trkOf st d1 with
            | none => rw [ht] at p; exact p.elim
            | some es =>
              rw [ht] at p
              simp only at p
              by_cases hz : ds.length + es.length ≤ sizeLine
              · rw [if_pos hz] at p
                obtain ⟨a', e1, ys, e2, rr⟩ := sr.cell n _ hc
                rw [h] at e1; cases e1
                obtain ⟨b, zs, rfl, q, r2⟩ := trkOf_at sr r1 ht
                refine mt_extend pins s σ H _ _ v us Q I rx rv ⟨a, b, ys, zs, rfl, rfl, e2, q, by rw [← rr.length, ← r2.length]; exact hz, ?_⟩
                exact p φ _ _ (Keep.write (List.mem_of_getElem? h)) (sr.write h (rr.append r2)) .non
              · rw [if_neg hz] at p; exact p.elim
  | _ => exact p.elim
/-- texts -/
theorem strs_reps {K : PySem.W.Frag} {φ : List Addr} {H : Hp} : ∀ l : List Str, Reps K φ H (l.map D.str) (l.map V.str)
  | [] => .nil
  | x :: l => .cons (.str x) (strs_reps l)
def splitM (mk : Bool) : D → List D → Sto → Res D
  | .str a, [.str b], st => if (b.length == 0) = false ∧ a.length + 2 ≤ sizeLine then mkL mk ((Txt.split a b).map .str) st else .stuck
  | _, _, _ => .stuck
theorem md_split (mk : Bool) : MtR X "str.split" (rMt X.K W (splitM mk)) := by
  intro pins s σ H x xs v us Q I rx rv ⟨φ, st, d, ds, sr, r, rs, p⟩
  cases r with
  | str a => cases rs with
    | nil => exact p.elim
    | cons r1 rs => cases rs with
      | cons _ _ => cases r1 <;> exact p.elim
      | nil => cases r1 with
        | str b =>
          unfold splitM at p
          simp only at p
          by_cases hz : (b.length == 0) = false ∧ a.length + 2 ≤ sizeLine
          · rw [if_pos hz] at p
            exact mt_split pins s σ H _ _ v us Q I rx rv ⟨a, b, rfl, rfl, hz.1, hz.2, fun q hq => mkL_ok sr (strs_reps _) p hq⟩
          · rw [if_neg hz] at p; exact p.elim
        | _ => exact p.elim
  | _ => exact p.elim
def joinM : D → List D → Sto → Res D
  | .str a, [d], st => match (seqOf st d).bind strsOf with
    | some ys => if (ys.map (·.length)).sum + ys.length * a.length ≤ 16777216 then .ok (.str (Txt.join a ys)) st else .stuck
    | none => .stuck
  | _, _, _ => .stuck
theorem md_join : MtR X "str.join" (rMt X.K W joinM) := by
  intro pins s σ H x xs v us Q I rx rv ⟨φ, st, d, ds, sr, r, rs, p⟩
  cases r with
  | str a => cases rs with
    | nil => exact p.elim
    | cons r1 rs => cases rs with
      | cons _ _ => exact p.elim
      | nil =>
        rename_i d1 v1
        unfold joinM at p
        simp only at p
        cases h : seqOf st d1 with
        | none => rw [h] at p; exact p.elim
        | some es =>
          rw [h] at p
          simp only [Option.bind_some] at p
          cases h2 : strsOf es with
          | none => rw [h2] at p; exact p.elim
          | some ys =>
            rw [h2] at p
            simp only at p
            by_cases hz : (ys.map (·.length)).sum + ys.length * a.length ≤ 16777216
            · rw [if_pos hz] at p
              obtain ⟨q, zs, rfl, qq, rr⟩ := seqOf_sq sr r1 h
              exact mt_join pins s σ H _ _ v us Q I rx rv ⟨a, q, ys, rfl, rfl, by rw [← strsOf_ok rr h2]; exact qq, hz, PostE.now sr (.str _) p⟩
            · rw [if_neg hz] at p; exact p.elim
  | _ => exact p.elim
def isalphaM : D → List D → Sto → Res D
  | .str a, [], st => .ok (.bl (Txt.isalpha a)) st
  | _, _, _ => .stuck
theorem md_isalpha : MtR X "str.isalpha" (rMt X.K W isalphaM) := by
  intro pins s σ H x xs v us Q I rx rv ⟨φ, st, d, ds, sr, r, rs, p⟩
  cases r with
  | str a => cases rs with
    | nil => exact mt_isalpha pins s σ H _ _ v us Q I rx rv ⟨a, rfl, rfl, trivial, PostE.now sr (.bl _) p⟩
    | cons _ _ => exact p.elim
  | _ => cases rs <;> exact p.elim
end
end DL

/-! DL5: handles given up, targets, what is walked, comprehensions. -/
namespace DL
open PySem PySem.Spec L2

/-! ### the handles from n0 on are given up -/
mutual
def fzD (g : Nat → Option D) : D → Option D
  | .hnd n => g n
  | .tup ds => (fzDs g ds).map .tup
  | .lst ds => (fzDs g ds).map .lst
  | .ro ds => (fzDs g ds).map .ro
  | .non => some .non
  | .bl b => some (.bl b)
  | .int i => some (.int i)
  | .str x => some (.str x)
  | .ty n => some (.ty n)
def fzDs (g : Nat → Option D) : List D → Option (List D)
  | [] => some []
  | d :: ds => match fzD g d, fzDs g ds with
    | some a, some b => some (a :: b)
    | _, _ => none
end
/-! no handles within -/
mutual
def hless : D → Bool
  | .hnd _ => false
  | .tup ds => hlesss ds
  | .lst ds => hlesss ds
  | .ro ds => hlesss ds
  | _ => true
def hlesss : List D → Bool
  | [] => true
  | d :: ds => hless d && hlesss ds
end
mutual
theorem fzD_hless (g : Nat → Option D) : ∀ {d : D}, hless d = true → fzD g d = some d
  | .hnd _, h => absurd h Bool.false_ne_true
  | .tup ds, h => by unfold fzD; rw [fzDs_hless g (show hlesss ds = true from h)]; rfl
  | .lst ds, h => by unfold fzD; rw [fzDs_hless g (show hlesss ds = true from h)]; rfl
  | .ro ds, h => by unfold fzD; rw [fzDs_hless g (show hlesss ds = true from h)]; rfl
  | .non, _ => rfl
  | .bl _, _ => rfl
  | .int _, _ => rfl
  | .str _, _ => rfl
  | .ty _, _ => rfl
theorem fzDs_hless (g : Nat → Option D) : ∀ {ds : List D}, hlesss ds = true → fzDs g ds = some ds
  | [], _ => rfl
  | d :: ds, h => by
    have h : (hless d && hlesss ds) = true := h
    rw [Bool.and_eq_true] at h
    unfold fzDs
    rw [fzD_hless g h.1, fzDs_hless g h.2]
end
theorem hlesss_iff : ∀ {ds : List D}, hlesss ds = true ↔ ∀ d ∈ ds, hless d = true
  | [] => by simp [hlesss]
  | d :: ds => by simp [hlesss, hlesss_iff (ds := ds)]
def resH (n0 : Nat) (st : Sto) : Nat → Nat → Option D
  | 0, _ => none
  | k + 1, i => if i < n0 then some (.hnd i) else match st[i]? with
    | some (.lst ds) => (fzDs (resH n0 st k) ds).map .lst
    | none => none
def fzCells (g : Nat → Option D) : Sto → Option Sto
  | [] => some []
  | .lst ds :: r => match fzDs g ds, fzCells g r with
    | some es, some r' => some (.lst es :: r')
    | _, _ => none
/-- d, where the store is cut back to its first n0 cells -/
def exitD (n0 : Nat) (d : D) (st : Sto) : Res D := match fzD (resH n0 st (st.length + 1)) d, fzCells (resH n0 st (st.length + 1)) (st.take n0) with
  | some d', some st' => .ok d' st'
  | _, _ => .stuck
section
variable {K : PySem.W.Frag} {φ : List Addr} {st : Sto} {H : Hp} {n0 : Nat}
mutual
theorem fzD_ok {g : Nat → Option D} (hg : ∀ n a e, g n = some e → φ[n]? = some a → Rep K (φ.take n0) H e (.ref a)) : ∀ {d e : D} {v : V}, Rep K φ H d v → fzD g d = some e → Rep K (φ.take n0) H e v
  | _, _, _, .non, h => by cases h; exact .non
  | _, _, _, .bl b, h => by cases h; exact .bl b
  | _, _, _, .int i, h => by cases h; exact .int i
  | _, _, _, .str x, h => by cases h; exact .str x
  | _, _, _, .ty n, h => by cases h; exact .ty n
  | _, _, _, .hnd (n := n) (a := a) h1, h => hg n a _ h h1
  | _, _, _, .tup (ds := ds) h1 r, h => by
    unfold fzD at h
    cases h2 : fzDs g ds with
    | none => rw [h2] at h; cases h
    | some es => rw [h2] at h; cases h; exact .tup (h1.elim (fun z => .inl ⟨z.1, fun m => z.2 (List.mem_of_mem_take m)⟩) .inr) (fzDs_ok hg r h2)
  | _, _, _, .lst (ds := ds) h1 r, h => by
    unfold fzD at h
    cases h2 : fzDs g ds with
    | none => rw [h2] at h; cases h
    | some es => rw [h2] at h; cases h; exact .lst ⟨h1.1, fun m => h1.2 (List.mem_of_mem_take m)⟩ (fzDs_ok hg r h2)
  | _, _, _, .ro (ds := ds) h1 r, h => by
    unfold fzD at h
    cases h2 : fzDs g ds with
    | none => rw [h2] at h; cases h
    | some es => rw [h2] at h; cases h; exact .ro (h1.elim (fun z => .inl ⟨z.1, fun m => z.2 (List.mem_of_mem_take m)⟩) .inr) (fzDs_ok hg r h2)
theorem fzDs_ok {g : Nat → Option D} (hg : ∀ n a e, g n = some e → φ[n]? = some a → Rep K (φ.take n0) H e (.ref a)) : ∀ {ds es : List D} {vs : List V}, Reps K φ H ds vs → fzDs g ds = some es → Reps K (φ.take n0) H es vs
  | _, _, _, .nil, h => by cases h; exact .nil
  | _, _, _, .cons (d := d) (ds := ds) r rs, h => by
    unfold fzDs at h
    cases h1 : fzD g d with
    | none => rw [h1] at h; cases h
    | some e =>
      cases h2 : fzDs g ds with
      | none => rw [h1, h2] at h; cases h
      | some es => rw [h1, h2] at h; cases h; exact .cons (fzD_ok hg r h1) (fzDs_ok hg rs h2)
end
theorem resH_ok (s : SR K φ st H) : ∀ (k : Nat) (n : Nat) (a : Addr) (e : D), resH n0 st k n = some e → φ[n]? = some a → Rep K (φ.take n0) H e (.ref a)
  | 0, _, _, _, h, _ => by cases h
  | k + 1, n, a, e, h, h1 => by
    unfold resH at h
    by_cases hn : n < n0
    · rw [if_pos hn] at h
      cases h
      exact .hnd (by rw [List.getElem?_take_of_lt hn]; exact h1)
    · rw [if_neg hn] at h
      cases hc : st[n]? with
      | none => rw [hc] at h; cases h
      | some c => cases c with
        | lst ds =>
          rw [hc] at h
          simp only at h
          cases h2 : fzDs (resH n0 st k) ds with
          | none => rw [h2] at h; cases h
          | some es =>
            rw [h2] at h
            cases h
            obtain ⟨a', e1, xs, e2, r⟩ := s.cell n _ hc
            rw [h1] at e1; cases e1
            refine .lst ⟨e2, fun m => ?_⟩ (fzDs_ok (resH_ok s k) r h2)
            obtain ⟨j, hj⟩ := List.getElem?_of_mem m
            have hj2 : j < n0 := by
              have h3 := (List.getElem?_eq_some_iff.mp hj).1
              rw [List.length_take] at h3
              omega
            rw [List.getElem?_take_of_lt hj2] at hj
            obtain ⟨l1, q1⟩ := List.getElem?_eq_some_iff.mp hj
            obtain ⟨l2, q2⟩ := List.getElem?_eq_some_iff.mp h1
            have := (List.getElem_inj s.nd).mp (q1.trans q2.symm)
            omega
theorem fzCells_get {g : Nat → Option D} : ∀ {st st' : Sto}, fzCells g st = some st' → st'.length = st.length ∧ ∀ (i : Nat) (es : List D), st'[i]? = some (Cell.lst es) → ∃ ds, st[i]? = some (Cell.lst ds) ∧ fzDs g ds = some es
  | [], _, h => by cases h; exact ⟨rfl, fun i es e => by simp at e⟩
  | .lst ds :: r, _, h => by
    unfold fzCells at h
    cases h1 : fzDs g ds with
    | none => rw [h1] at h; cases h
    | some es =>
      cases h2 : fzCells g r with
      | none => rw [h1, h2] at h; cases h
      | some r' =>
        rw [h1, h2] at h
        cases h
        obtain ⟨l, f⟩ := fzCells_get h2
        refine ⟨by rw [List.length_cons, List.length_cons, l], fun i es' e => ?_⟩
        cases i with
        | zero => simp at e; subst e; exact ⟨ds, by simp, h1⟩
        | succ i => obtain ⟨ds', e1, e2⟩ := f i es' (by simpa using e); exact ⟨ds', by simpa using e1, e2⟩
theorem exit_ok {d d' : D} {v : V} {st' : Sto} (s : SR K φ st H) (hn : n0 ≤ φ.length) (r : Rep K φ H d v) (e : exitD n0 d st = .ok d' st') : SR K (φ.take n0) st' H ∧ Rep K (φ.take n0) H d' v := by
  unfold exitD at e
  cases h1 : fzD (resH n0 st (st.length + 1)) d with
  | none => rw [h1] at e; cases e
  | some d2 =>
    cases h2 : fzCells (resH n0 st (st.length + 1)) (st.take n0) with
    | none => rw [h1, h2] at e; cases e
    | some st2 =>
      rw [h1, h2] at e
      cases e
      obtain ⟨l, f⟩ := fzCells_get h2
      refine ⟨⟨s.nd.sublist (List.take_sublist _ _), by rw [l, List.length_take, List.length_take, s.len], fun i c hc => ?_⟩, fzD_ok (resH_ok s _) r h1⟩
      cases c with
      | lst es =>
        obtain ⟨ds, e1, e2⟩ := f i es hc
        have hi : i < n0 := by
          have h3 := (List.getElem?_eq_some_iff.mp e1).1
          rw [List.length_take] at h3
          omega
        rw [List.getElem?_take_of_lt hi] at e1
        obtain ⟨a, q1, xs, q2, q3⟩ := s.cell i _ e1
        exact ⟨a, by rw [List.getElem?_take_of_lt hi]; exact q1, xs, q2, fzDs_ok (resH_ok s _) q3 e2⟩
theorem Keep.take {φ' : List Addr} {H' : Hp} (k : Keep φ φ' H H') : φ'.take φ.length = φ := by
  obtain ⟨t, e⟩ := k.pre
  rw [← e]
  simp
/-- as a post -/
theorem exit_post {W : XK} {Q : VK} {φ' : List Addr} {H' : Hp} {d : D} {v : V} (k : Keep φ φ' H H') (hl : n0 = φ.length) (s : SR K φ' st H') (r : Rep K φ' H' d v) (p : PostE K W φ H Q (exitD n0 d st)) : Q v H' := by
  subst hl
  have hn : φ.length ≤ φ'.length := k.pre.length_le
  cases e : exitD φ.length d st with
  | ok d' st' =>
    rw [e] at p
    obtain ⟨s2, r2⟩ := exit_ok s hn r e
    rw [k.take] at s2 r2
    exact p φ H' v ⟨List.prefix_refl _, fun a o h n => ⟨(k.old a o h n).1, n⟩⟩ s2 r2
  | err x st' => unfold exitD at e; split at e <;> cases e
  | stuck => rw [e] at p; exact p.elim
end

/-! ### targets: names, tuples of such -/
inductive Tgt where
  | name (i : Nat)
  | tup (ts : List Tgt)
mutual
def assignT : Tgt → D → En → Option En
  | .name i, d, ρ => some (ρ.set i (some d))
  | .tup ts, .tup ds, ρ => assignTs ts ds ρ
  | .tup _, _, _ => none
def assignTs : List Tgt → List D → En → Option En
  | [], [], ρ => some ρ
  | t :: ts, d :: ds, ρ => match assignT t d ρ with
    | some ρ' => assignTs ts ds ρ'
    | none => none
  | _, _, _ => none
end
mutual
def tgG (K : PySem.W.Frag) : Tgt → TG
  | .name i => gName i
  | .tup ts => gTup K ts.length (tgGs K ts)
def tgGs (K : PySem.W.Frag) : List Tgt → TGs
  | [] => gNil
  | t :: ts => gCons (tgG K t) (tgGs K ts)
end
mutual
def Tgt.in_ (vs : List Nat) : Tgt → Bool
  | .name i => decide (i ∈ vs)
  | .tup ts => Tgts.in_ vs ts
def Tgts.in_ (vs : List Nat) : List Tgt → Bool
  | [] => true
  | t :: ts => t.in_ vs && Tgts.in_ vs ts
end
theorem wipe_set {σ : L2.St} {i : Nat} {o : Option V} : ∀ {vs : List Nat}, i ∈ vs → wipe (σ.set i o) vs = wipe σ vs
  | [], h => by simp at h
  | v :: vs, h => by
    unfold wipe
    by_cases hv : i ∈ vs
    · rw [wipe_set hv]
    · have e : i = v := (List.mem_cons.mp h).resolve_right hv
      subst e
      have c : ∀ (ws : List Nat), i ∉ ws → wipe (σ.set i o) ws = (wipe σ ws).set i o := by
        intro ws
        induction ws with
        | nil => intro _; rfl
        | cons w ws ih =>
          intro hw
          simp only [List.mem_cons, not_or] at hw
          unfold wipe
          rw [ih hw.2, List.set_comm _ _ (fun z => hw.1 z)]
      rw [c vs hv, List.set_set]
section
variable {K : PySem.W.Frag} {φ : List Addr} {H : Hp}
mutual
theorem tgG_run : ∀ {t : Tgt} {d : D} {v : V} {ρ ρ' : En} {σ : L2.St} {Q : L2.St → Hp → Prop}, assignT t d ρ = some ρ' → Rep K φ H d v → EnvR K φ H ρ σ → (∀ σ', EnvR K φ H ρ' σ' → (∀ vs, t.in_ vs = true → wipe σ' vs = wipe σ vs) → Q σ' H) → tgG K t v σ H Q
  | .name i, d, v, ρ, ρ', σ, Q, e, r, er, h => by
    cases e
    exact h _ (er.set i r) fun vs hv => wipe_set (of_decide_eq_true hv)
  | .tup ts, d, v, ρ, ρ', σ, Q, e, r, er, h => by
    cases r with
    | @tup a xs ds h1 rs =>
      have e : assignTs ts ds ρ = some ρ' := e
      have hl : ∀ {ts : List Tgt} {ds : List D} {ρ ρ' : En}, assignTs ts ds ρ = some ρ' → ts.length = ds.length := by
        intro ts
        induction ts with
        | nil => intro ds ρ ρ' e; cases ds with
          | nil => rfl
          | cons _ _ => cases e
        | cons t ts ih => intro ds ρ ρ' e; cases ds with
          | nil => cases e
          | cons d ds =>
            unfold assignTs at e
            cases h2 : assignT t d ρ with
            | none => rw [h2] at e; cases e
            | some ρ2 => rw [h2] at e; rw [List.length_cons, List.length_cons, ih e]
      exact ⟨a, xs, rfl, h1.sq, by rw [← rs.length, hl e], tgGs_run e rs er h⟩
    | _ => cases e
theorem tgGs_run : ∀ {ts : List Tgt} {ds : List D} {vs : List V} {ρ ρ' : En} {σ : L2.St} {Q : L2.St → Hp → Prop}, assignTs ts ds ρ = some ρ' → Reps K φ H ds vs → EnvR K φ H ρ σ → (∀ σ', EnvR K φ H ρ' σ' → (∀ ws, Tgts.in_ ws ts = true → wipe σ' ws = wipe σ ws) → Q σ' H) → tgGs K ts vs σ H Q
  | [], [], _, ρ, ρ', σ, Q, e, r, er, h => by cases r; cases e; exact ⟨rfl, h _ er fun _ _ => rfl⟩
  | [], _ :: _, _, ρ, ρ', σ, Q, e, r, er, h => by cases e
  | t :: ts, [], _, ρ, ρ', σ, Q, e, r, er, h => by cases e
  | t :: ts, d :: ds, _, ρ, ρ', σ, Q, e, .cons r rs, er, h => by
    unfold assignTs at e
    cases h2 : assignT t d ρ with
    | none => rw [h2] at e; cases e
    | some ρ2 =>
      rw [h2] at e
      refine ⟨_, _, rfl, tgG_run h2 r er fun σ1 er1 w1 => tgGs_run e rs er1 fun σ2 er2 w2 => h _ er2 fun ws hw => ?_⟩
      have hw : (t.in_ ws && Tgts.in_ ws ts) = true := hw
      rw [Bool.and_eq_true] at hw
      rw [w2 ws hw.2, w1 ws hw.1]
end
end

/-! ### what is walked -/
inductive Src where
  | fz (ds : List D)
  | hd (n len : Nat)
def Src.len : Src → Nat
  | .fz ds => ds.length
  | .hd _ l => l
def Src.nth : Src → Nat → Sto → Option D
  | .fz ds, i, _ => ds[i]?
  | .hd n _, i, st => match st[n]? with
    | some (.lst ds) => ds[i]?
    | none => none
def Src.fin : Src → Sto → Bool
  | .fz _, _ => true
  | .hd n l, st => match st[n]? with
    | some (.lst ds) => ds.length == l
    | none => false
structure WalkD (K : PySem.W.Frag) (φ0 : List Addr) (H0 : Hp) (J : It) (s : Src) : Prop where
  go : ∀ i φ st H d, Keep φ0 φ H0 H → SR K φ st H → i < s.len → s.nth i st = some d → J.go i H
  stop : ∀ φ st H, Keep φ0 φ H0 H → SR K φ st H → s.fin st = true → J.stop s.len H
  yld : ∀ i φ st H x H' d, Keep φ0 φ H0 H → SR K φ st H → i < s.len → s.nth i st = some d → J.yld i H x H' → Keep φ φ H H' ∧ SR K φ st H' ∧ Rep K φ H' d x
theorem WalkD.later {K : PySem.W.Frag} {φ0 φ1 : List Addr} {H0 H1 : Hp} {J : It} {s : Src} (w : WalkD K φ0 H0 J s) (k : Keep φ0 φ1 H0 H1) : WalkD K φ1 H1 J s :=
  ⟨fun i φ st H d k' => w.go i φ st H d (k.trans k'), fun φ st H k' => w.stop φ st H (k.trans k'), fun i φ st H x H' d k' => w.yld i φ st H x H' d (k.trans k')⟩
abbrev FI := En → Sto → Res Src
def PostI (K : PySem.W.Frag) (W : XK) (φ : List Addr) (H : Hp) (R : It → Hp → Prop) : Res Src → Prop
  | .ok s st => ∀ φ' H' J, Keep φ φ' H H' → SR K φ' st H' → WalkD K φ' H' J s → R J H'
  | .err x st => ∀ φ' H' c dx, Keep φ φ' H H' → SR K φ' st H' → ExR K φ' H' x c dx → W c dx H'
  | .stuck => False
def tI (K : PySem.W.Frag) (W : XK) (f : FI) : TI := fun σ H R => ∃ φ ρ st, SR K φ st H ∧ EnvR K φ H ρ σ ∧ PostI K W φ H R (f ρ st)
abbrev DI (X : Cx) (W : XK) (tg iter : Expr) (f : FI) : Prop := PI X tg iter (tI X.K W f)
section
variable {K : PySem.W.Frag} {φ : List Addr} {H : Hp}
theorem walkL {a : Addr} {xs : List V} {ds : List D} (h : FzL φ H a xs ∨ RoL K φ H a xs) (r : Reps K φ H ds xs) : WalkD K φ H (Itl K a) (.fz ds) := by
  have sq : ∀ {φ' H'}, Keep φ φ' H H' → SqL K H' a xs := fun k => h.elim (fun z => (z.keep k).sq) fun z => (z.keep k).sq
  refine ⟨fun i φ' st H' d k s hi e => ?_, fun φ' st H' k s _ => ⟨xs, sq k, by rw [← r.length]; exact Nat.le_refl _⟩, fun i φ' st H' x H2 d k s hi e y => ?_⟩
  · obtain ⟨v, e1, _⟩ := r.get e
    exact ⟨xs, v, sq k, e1⟩
  · obtain ⟨v, e1, rv⟩ := r.get e
    obtain ⟨rfl, f⟩ := y
    have e2 := f xs (sq k)
    rw [e1] at e2
    cases e2
    exact ⟨.refl, s, rv.keep k⟩
theorem walkT {a : Addr} {xs : List V} {ds : List D} (h : FzT K φ H a xs) (r : Reps K φ H ds xs) : WalkD K φ H (Itt K a) (.fz ds) := by
  have sq : ∀ {φ' H'}, Keep φ φ' H H' → SqT K H' a xs := fun k => (h.keep k).sq
  refine ⟨fun i φ' st H' d k s hi e => ?_, fun φ' st H' k s _ => ⟨xs, sq k, by rw [← r.length]; exact Nat.le_refl _⟩, fun i φ' st H' x H2 d k s hi e y => ?_⟩
  · obtain ⟨v, e1, _⟩ := r.get e
    exact ⟨xs, v, sq k, e1⟩
  · obtain ⟨v, e1, rv⟩ := r.get e
    obtain ⟨rfl, f⟩ := y
    have e2 := f xs (sq k)
    rw [e1] at e2
    cases e2
    exact ⟨.refl, s, rv.keep k⟩
theorem walkH {n len : Nat} {a : Addr} (h : φ[n]? = some a) : WalkD K φ H (Itl K a) (.hd n len) := by
  have at_ : ∀ {φ' st H'} {ds : List D}, Keep φ φ' H H' → SR K φ' st H' → st[n]? = some (.lst ds) → ∃ xs, H' a = some (.lst xs) ∧ Reps K φ' H' ds xs := fun k s e => by
    obtain ⟨a', e1, xs, e2, r⟩ := s.cell n _ e
    rw [k.at h] at e1; cases e1
    exact ⟨xs, e2, r⟩
  refine ⟨fun i φ' st H' d k s hi e => ?_, fun φ' st H' k s e => ?_, fun i φ' st H' x H2 d k s hi e y => ?_⟩
  · unfold Src.nth at e
    simp only at e
    cases hc : st[n]? with
    | none => rw [hc] at e; cases e
    | some c => cases c with
      | lst ds =>
        rw [hc] at e
        obtain ⟨xs, e2, r⟩ := at_ k s hc
        obtain ⟨v, e3, _⟩ := r.get e
        exact ⟨xs, v, .of e2, e3⟩
  · unfold Src.fin at e
    simp only at e
    cases hc : st[n]? with
    | none => rw [hc] at e; cases e
    | some c => cases c with
      | lst ds =>
        rw [hc] at e
        obtain ⟨xs, e2, r⟩ := at_ k s hc
        exact ⟨xs, .of e2, by rw [← r.length]; exact Nat.le_of_eq (beq_iff_eq.mp e)⟩
  · unfold Src.nth at e
    simp only at e
    cases hc : st[n]? with
    | none => rw [hc] at e; cases e
    | some c => cases c with
      | lst ds =>
        rw [hc] at e
        obtain ⟨xs, e2, r⟩ := at_ k s hc
        obtain ⟨v, e3, rv⟩ := r.get e
        obtain ⟨rfl, f⟩ := y
        have e4 := f xs (.of e2)
        rw [e3] at e4
        cases e4
        exact ⟨.refl, s, rv⟩
end
/-- a value that is walked: a list, a tuple, a text -/
def srcOf (d : D) (st : Sto) : Res Src := match d with
  | .tup ds => .ok (.fz ds) st
  | .lst ds => .ok (.fz ds) st
  | .ro ds => .ok (.fz ds) st
  | .hnd n => match st[n]? with
    | some (.lst ds) => .ok (.hd n ds.length) st
    | none => .stuck
  | .str x => .ok (.fz (x.cps.toList.map fun c => .str ⟨#[c]⟩)) st
  | _ => .stuck
def i_val (f : FE) : FI := fun ρ st => (f ρ st).bind srcOf
section
variable {X : Cx} {W : XK} {tg : Expr} {e : Expr} {es : List Expr} {fe : FE} {fs : FA}
theorem di_val (h : DE X W e fe) : DI X W tg e (i_val fe) := by
  refine ⟨fun pins s σ H R I ⟨φ, ρ, st, sr, er, p⟩ => ?_⟩
  unfold i_val at p
  cases hf : fe ρ st with
  | stuck => rw [hf] at p; exact p.elim
  | err x st1 =>
    rw [hf] at p
    exact (pi_list h).run pins s σ H R I ⟨φ, ρ, st, sr, er, by rw [hf]; exact p⟩
  | ok d st1 =>
    rw [hf] at p
    have p1 : PostI X.K W φ H R (srcOf d st1) := p
    cases d with
    | tup ds => exact (pi_tup h).run pins s σ H R I ⟨φ, ρ, st, sr, er, by
        rw [hf]
        intro φ1 H1 v k1 s1 r1
        cases r1 with
        | tup h1 rr => exact ⟨_, rfl, ⟨_, h1.sq⟩, p1 φ1 H1 _ k1 s1 (walkT h1 rr)⟩⟩
    | lst ds => exact (pi_list h).run pins s σ H R I ⟨φ, ρ, st, sr, er, by
        rw [hf]
        intro φ1 H1 v k1 s1 r1
        cases r1 with
        | lst h1 rr => exact ⟨_, rfl, ⟨_, h1.sq⟩, p1 φ1 H1 _ k1 s1 (walkL (.inl h1) rr)⟩⟩
    | ro ds => exact (pi_list h).run pins s σ H R I ⟨φ, ρ, st, sr, er, by
        rw [hf]
        intro φ1 H1 v k1 s1 r1
        cases r1 with
        | ro h1 rr => exact ⟨_, rfl, ⟨_, h1.sq⟩, p1 φ1 H1 _ k1 s1 (walkL (.inr h1) rr)⟩⟩
    | hnd n => exact (pi_list h).run pins s σ H R I ⟨φ, ρ, st, sr, er, by
        rw [hf]
        intro φ1 H1 v k1 s1 r1
        cases r1 with
        | hnd h1 =>
          unfold srcOf at p1
          simp only at p1
          cases hc : st1[n]? with
          | none => rw [hc] at p1; exact p1.elim
          | some c => cases c with
            | lst ds =>
              rw [hc] at p1
              obtain ⟨a', e1, xs, e2, r⟩ := s1.cell n _ hc
              rw [h1] at e1; cases e1
              exact ⟨_, rfl, ⟨xs, .of e2⟩, p1 φ1 H1 _ k1 s1 (walkH h1)⟩⟩
    | str x => exact (pi_str h).run pins s σ H R I ⟨φ, ρ, st, sr, er, by
        rw [hf]
        intro φ1 H1 v k1 s1 r1
        cases r1
        refine ⟨x, rfl, p1 φ1 H1 _ k1 s1 ⟨fun i φ' st' H' d k s hi e => ?_, fun φ' st' H' k s _ => ?_, fun i φ' st' H' v H2 d k s hi e y => ?_⟩⟩
        · have hi : i < (x.cps.toList.map fun c => D.str ⟨#[c]⟩).length := hi
          rw [List.length_map, Array.length_toList] at hi
          exact hi
        · show x.cps.size ≤ (x.cps.toList.map fun c => D.str ⟨#[c]⟩).length
          rw [List.length_map, Array.length_toList]
          exact Nat.le_refl _
        · obtain ⟨rfl, c, e1, rfl⟩ := y
          have e : (x.cps.toList.map fun c => D.str ⟨#[c]⟩)[i]? = some d := e
          rw [List.getElem?_map, Array.getElem?_toList, e1] at e
          cases e
          exact ⟨.refl, s, .str _⟩⟩
    | _ => exact p1.elim
/-- range -/
def rangeL (lo hi : Int) : List D := (List.range (hi - lo).toNat).map fun (i : Nat) => D.int (lo + (i : Nat))
def rng1 : List D → Sto → Res Src
  | [.int j], st => if -(2 ^ 62) ≤ j ∧ j < 2 ^ 62 then .ok (.fz (rangeL 0 j)) st else .stuck
  | _, _ => .stuck
def rng2 : List D → Sto → Res Src
  | [.int i, .int j], st => if -(2 ^ 62) ≤ i ∧ i < 2 ^ 62 ∧ -(2 ^ 62) ≤ j ∧ j < 2 ^ 62 then .ok (.fz (rangeL i j)) st else .stuck
  | _, _ => .stuck
def i_call (g : List D → Sto → Res Src) (fs : FA) : FI := fun ρ st => (fs ρ st).bind g
theorem walkR {K : PySem.W.Frag} {φ : List Addr} {H : Hp} (lo up : Int) : WalkD K φ H (Itr lo (up - lo).toNat) (.fz (rangeL lo up)) := by
  have hl : (rangeL lo up).length = (up - lo).toNat := by unfold rangeL; rw [List.length_map, List.length_range]
  refine ⟨fun i φ' st' H' d k s hi e => ?_, fun φ' st' H' k s _ => ?_, fun i φ' st' H' v H2 d k s hi e y => ?_⟩
  · show i < (up - lo).toNat
    rw [← hl]; exact hi
  · show (up - lo).toNat ≤ (rangeL lo up).length
    rw [hl]; exact Nat.le_refl _
  · obtain ⟨rfl, rfl⟩ := y
    have e : (rangeL lo up)[i]? = some d := e
    unfold rangeL at e
    have hi : i < (up - lo).toNat := by rw [← hl]; exact hi
    rw [List.getElem?_map, List.getElem?_range hi] at e
    cases e
    exact ⟨.refl, s, .int _⟩
theorem runIA {K : PySem.W.Frag} {φ : List Addr} {ρ : En} {st : Sto} {σ : L2.St} {H : Hp} {R : It → Hp → Prop} {g : List D → Sto → Res Src} (s : SR K φ st H) (er : EnvR K φ H ρ σ) (p : PostI K W φ H R ((fs ρ st).bind g)) :
    tA K W fs σ H fun vs H1 => ∃ φ1 st1 ds, SR K φ1 st1 H1 ∧ Reps K φ1 H1 ds vs ∧ PostI K W φ1 H1 R (g ds st1) := by
  refine ⟨φ, ρ, st, s, er, ?_⟩
  cases h : fs ρ st with
  | ok ds st1 =>
    rw [h] at p
    intro φ1 H1 vs k1 s1 r1
    refine ⟨φ1, st1, ds, s1, r1, ?_⟩
    have p : PostI K W φ H R (g ds st1) := p
    cases hg : g ds st1 with
    | ok a b => rw [hg] at p; exact fun φ' H' J k' s' w' => p φ' H' J (k1.trans k') s' w'
    | err a b => rw [hg] at p; exact fun φ' H' c dx k' s' w' => p φ' H' c dx (k1.trans k') s' w'
    | stuck => rw [hg] at p; exact p
  | err x st1 => rw [h] at p; exact p
  | stuck => rw [h] at p; exact p
theorem PI.monoT {X : Cx} {tg e : Expr} {t t' : TI} (h : PI X tg e t) (m : ∀ σ H Q, t' σ H Q → t σ H Q) : PI X tg e t' := ⟨fun pins s σ H Q I q => h.run pins s σ H Q I (m σ H Q q)⟩
theorem di_range1 {a : Expr} {p pos : Pos} (hg : Gl X "range") (hm : X.mg "range" = none) (ha : DA X W [a] fs) (hs : starEach [a] X.env = [(false, eval a X.env)] := by rfl) : DI X W tg (.Call (.Name "range" p) [a] [] pos) (i_call rng1 fs) :=
  PI.monoT (pi_range1 hg hm ha hs) fun σ H R ⟨φ, ρ, st, s, er, p⟩ => tA_mono (fun vs H1 ⟨φ1, st1, ds, s1, r1, p1⟩ => by
    cases r1 with
    | nil => exact p1.elim
    | cons r r1 => cases r1 with
      | cons _ _ => cases r <;> exact p1.elim
      | nil => cases r with
        | int j =>
          unfold rng1 at p1
          simp only at p1
          by_cases h : -(2 ^ 62) ≤ j ∧ j < 2 ^ 62
          · rw [if_pos h] at p1
            refine ⟨j, rfl, h.1, h.2, p1 φ1 H1 _ .refl s1 ?_⟩
            have := walkR (K := X.K) (φ := φ1) (H := H1) 0 j
            rw [Int.sub_zero] at this
            exact this
          · rw [if_neg h] at p1; exact p1.elim
        | _ => exact p1.elim) (runIA s er p)
theorem di_range2 {a b : Expr} {p pos : Pos} (hg : Gl X "range") (hm : X.mg "range" = none) (ha : DA X W [a, b] fs) (hs : starEach [a, b] X.env = [(false, eval a X.env), (false, eval b X.env)] := by rfl) (hs2 : starEach [b] X.env = [(false, eval b X.env)] := by rfl) :
    DI X W tg (.Call (.Name "range" p) [a, b] [] pos) (i_call rng2 fs) :=
  PI.monoT (pi_range2 hg hm ha hs hs2) fun σ H R ⟨φ, ρ, st, s, er, p⟩ => tA_mono (fun vs H1 ⟨φ1, st1, ds, s1, r1, p1⟩ => by
    cases r1 with
    | nil => exact p1.elim
    | cons r r1 => cases r1 with
      | nil => cases r <;> exact p1.elim
      | cons r' r1 => cases r1 with
        | cons _ _ => cases r <;> first | exact p1.elim | (cases r' <;> exact p1.elim)
        | nil => cases r with
          | int i => cases r' with
            | int j =>
              unfold rng2 at p1
              simp only at p1
              by_cases h : -(2 ^ 62) ≤ i ∧ i < 2 ^ 62 ∧ -(2 ^ 62) ≤ j ∧ j < 2 ^ 62
              · rw [if_pos h] at p1
                exact ⟨i, j, rfl, h, p1 φ1 H1 _ .refl s1 (walkR i j)⟩
              · rw [if_neg h] at p1; exact p1.elim
            | _ => exact p1.elim
          | _ => cases r' <;> exact p1.elim) (runIA s er p)
end
end DL

/-! DL6: comprehensions, statements, defs. -/
namespace DL
open PySem PySem.Spec L2

/-! ### comprehensions -/
def wipeD (ρ : En) : List Nat → En
  | [] => ρ
  | v :: vs => (wipeD ρ vs).set v none
theorem EnvR.wipe {K : PySem.W.Frag} {φ : List Addr} {H : Hp} {ρ : En} {σ : L2.St} (e : EnvR K φ H ρ σ) : ∀ vs : List Nat, EnvR K φ H (wipeD ρ vs) (L2.wipe σ vs)
  | [] => e
  | v :: vs => by
    have ih := EnvR.wipe e vs
    refine ⟨by unfold wipeD L2.wipe; rw [List.length_set, List.length_set, ih.len], fun i d h => ?_⟩
    unfold wipeD at h
    by_cases hi : v = i
    · subst hi
      rw [List.getElem?_set] at h
      by_cases hl : v < (wipeD ρ vs).length
      · simp [hl] at h
      · simp [hl] at h
    · rw [List.getElem?_set_ne hi] at h
      obtain ⟨x, h1, r⟩ := ih.val i d h
      exact ⟨x, by unfold L2.wipe; rw [List.getElem?_set_ne hi]; exact h1, r⟩
theorem wipe_get (σ : L2.St) (i : Nat) : ∀ vs : List Nat, (L2.wipe σ vs)[i]? = if i ∈ vs then σ[i]?.map (fun _ => none) else σ[i]?
  | [] => by simp [L2.wipe]
  | v :: vs => by
    unfold L2.wipe
    by_cases h : v = i
    · subst h
      rw [if_pos List.mem_cons_self, List.getElem?_set, if_pos rfl]
      rw [wipe_length]
      by_cases hl : v < σ.length
      · rw [if_pos hl, List.getElem?_eq_getElem hl]; rfl
      · rw [if_neg hl, List.getElem?_eq_none (by omega)]; rfl
    · rw [List.getElem?_set_ne h, wipe_get σ i vs]
      have e : (i ∈ v :: vs) ↔ i ∈ vs := by
        rw [List.mem_cons]
        exact ⟨fun z => z.resolve_left fun e => h e.symm, .inr⟩
      simp only [e]
theorem wipe_wipe (σ : L2.St) (vs : List Nat) : L2.wipe (L2.wipe σ vs) vs = L2.wipe σ vs := by
  apply List.ext_getElem?
  intro i
  rw [wipe_get, wipe_get]
  by_cases h : i ∈ vs
  · rw [if_pos h, if_pos h, Option.map_map]; rfl
  · rw [if_neg h]
/-- the turns: n the new list's handle; k turns are left, i the next one -/
def lcGo (n : Nat) (src : Src) (tg : Tgt) (ft : FT) (fe : FE) (ρw : En) : Nat → Nat → Sto → Option Sto
  | 0, _, st => if src.fin st = true then some st else none
  | k + 1, i, st => match src.nth i st with
    | none => none
    | some d => match assignT tg d ρw with
      | none => none
      | some ρ' => match ft ρ' st with
        | .ok true st1 => (match fe ρ' st1 with
          | .ok y st2 => (match st2[n]? with
            | some (.lst acc) => if acc.length < sizeLine then lcGo n src tg ft fe ρw k (i + 1) (st2.set n (.lst (acc ++ [y]))) else none
            | none => none)
          | _ => none)
        | .ok false st1 => lcGo n src tg ft fe ρw k (i + 1) st1
        | _ => none
def e_lc (mk : Bool) (fi : FI) (tg : Tgt) (own : List Nat) (ft : FT) (fe : FE) : FE := fun ρ st => (fi ρ st).bind fun src st1 =>
  match lcGo st1.length src tg ft fe (wipeD ρ own) src.len 0 (st1 ++ [.lst []]) with
  | some st2 => if mk = true then .ok (.hnd st1.length) st2 else exitD st1.length (.hnd st1.length) st2
  | none => .stuck
def t_yes : FT := fun _ st => .ok true st
abbrev DTs (X : Cx) (W : XK) (ifs : List Expr) (f : FT) : Prop := PTs X ifs (tT X.K W f)
section
variable {X : Cx} {W : XK} {pos : Pos}
theorem dts_nil : DTs X W [] t_yes := ⟨fun pins s σ H Q I ⟨φ, ρ, st, sr, er, p⟩ => (pts_nil (X := X)).run pins s σ H Q I (PostT.now sr p)⟩
theorem dts_one {c : Expr} {f : FT} (h : DT X W c f) : DTs X W [c] f := pts_one h
/-- the reading of a comprehension -/
theorem lc_run {K : PySem.W.Frag} {W0 : XK} {mk : Bool} {fi : FI} {tg : Tgt} {own : List Nat} {ft : FT} {fe : FE} {σ : L2.St} {H : Hp} {Q : VK} (ht : tg.in_ own = true) (h : tE K W (e_lc mk fi tg own ft fe) σ H Q) :
    tLc (tI K W fi) (tgG K tg) (tT K W0 ft) (tE K W0 fe) own σ H Q := by
  obtain ⟨φ, ρ, st, sr, er, p⟩ := h
  refine ⟨φ, ρ, st, sr, er, ?_⟩
  unfold e_lc at p
  cases hf : fi ρ st with
  | err x st1 => rw [hf] at p; exact p
  | stuck => rw [hf] at p; exact p
  | ok src st1 =>
    rw [hf] at p
    intro φ1 H1 J k1 s1 w1 Da hD
    have p : PostE K W φ H Q (match lcGo st1.length src tg ft fe (wipeD ρ own) src.len 0 (st1 ++ [.lst []]) with
      | some st2 => if mk = true then .ok (.hnd st1.length) st2 else exitD st1.length (.hnd st1.length) st2
      | none => .stuck) := p
    cases hg : lcGo st1.length src tg ft fe (wipeD ρ own) src.len 0 (st1 ++ [.lst []]) with
    | none => rw [hg] at p; exact p.elim
    | some stF =>
      rw [hg] at p
      have p := PostE.trans k1 p
      have kD : Keep φ1 (φ1 ++ [Da]) H1 (upd H1 Da (.lst [])) := Keep.push s1 hD
      have sD : SR K (φ1 ++ [Da]) (st1 ++ [.lst []]) (upd H1 Da (.lst [])) := s1.push hD .nil
      have nD : (φ1 ++ [Da])[st1.length]? = some Da := by rw [s1.len]; simp
      have e1 := (er.keep k1).wipe own
      refine ⟨fun i m H' => m = src.len - i ∧ i ≤ src.len ∧ ∃ φ' st', Keep (φ1 ++ [Da]) φ' (upd H1 Da (.lst [])) H' ∧ SR K φ' st' H' ∧ lcGo st1.length src tg ft fe (wipeD ρ own) (src.len - i) i st' = some stF,
        ⟨src.len, (Nat.sub_zero _).symm, Nat.zero_le _, φ1 ++ [Da], st1 ++ [.lst []], .refl, sD, hg⟩, fun i m H' hw => ?_⟩
      obtain ⟨rfl, hi, φ', st', k', s', g'⟩ := hw
      have w' := w1.later kD |>.later k'
      by_cases hlt : i < src.len
      · obtain ⟨n, hn⟩ : ∃ n, src.len - i = n + 1 := ⟨src.len - i - 1, by omega⟩
        rw [hn] at g'
        unfold lcGo at g'
        cases hd : src.nth i st' with
        | none => rw [hd] at g'; cases g'
        | some d =>
          rw [hd] at g'
          simp only at g'
          refine .inr ⟨w'.go i φ' st' H' d .refl s' hlt hd, fun H2 => ∃ φ2 st2, Keep (φ1 ++ [Da]) φ2 (upd H1 Da (.lst [])) H2 ∧ SR K φ2 st2 H2 ∧ lcGo st1.length src tg ft fe (wipeD ρ own) (src.len - (i + 1)) (i + 1) st2 = some stF,
            fun H2 ⟨φ2, st2, q1, q2, q3⟩ => ⟨src.len - (i + 1), by omega, rfl, hlt, φ2, st2, q1, q2, q3⟩, fun x H2 y => ?_⟩
          obtain ⟨k2, s2, r2⟩ := w'.yld i φ' st' H' x H2 d .refl s' hlt hd y
          have n' : src.len - (i + 1) = n := by omega
          rw [n']
          cases ha : assignT tg d (wipeD ρ own) with
          | none => rw [ha] at g'; cases g'
          | some ρ' =>
            rw [ha] at g'
            simp only at g'
            have kk : Keep φ1 φ' H1 H2 := (kD.trans k').trans k2
            refine tgG_run ha r2 (e1.keep kk) fun σ2 er2 wp => ⟨(wp own ht).trans (wipe_wipe σ own), φ', ρ', st', s2, er2, ?_⟩
            cases hT : ft ρ' st' with
            | err x st3 => rw [hT] at g'; cases g'
            | stuck => rw [hT] at g'; cases g'
            | ok b st3 =>
              rw [hT] at g'
              intro φ3 H3 k3 s3
              cases b with
              | false =>
                rw [if_neg Bool.false_ne_true]
                exact ⟨φ3, st3, (k'.trans k2).trans k3, s3, g'⟩
              | true =>
                rw [if_pos rfl]
                simp only at g'
                refine ⟨φ3, ρ', st3, s3, er2.keep k3, ?_⟩
                cases hE : fe ρ' st3 with
                | err x st4 => rw [hE] at g'; cases g'
                | stuck => rw [hE] at g'; cases g'
                | ok y st4 =>
                  rw [hE] at g'
                  intro φ4 H4 v k4 s4 r4
                  simp only at g'
                  cases hc : st4[st1.length]? with
                  | none => rw [hc] at g'; cases g'
                  | some c => cases c with
                    | lst acc =>
                      rw [hc] at g'
                      simp only at g'
                      by_cases hz : acc.length < sizeLine
                      · rw [if_pos hz] at g'
                        have kA := ((k'.trans k2).trans k3).trans k4
                        have nA := kA.at nD
                        obtain ⟨a', q1, xs, q2, q3⟩ := s4.cell _ _ hc
                        rw [nA] at q1; cases q1
                        refine ⟨xs, q2, by rw [← q3.length]; exact hz, φ4, _, kA.trans (Keep.write (List.mem_of_getElem? nA)), s4.write nA (q3.append (.cons r4 .nil)), g'⟩
                      · rw [if_neg hz] at g'; cases g'
      · have e : i = src.len := by omega
        rw [e, Nat.sub_self] at g'
        rw [e]
        unfold lcGo at g'
        by_cases hfin : src.fin st' = true
        · rw [if_pos hfin] at g'
          have e2 : st' = stF := Option.some.inj g'
          rw [← e2] at p
          refine .inl ⟨w'.stop φ' st' H' .refl s' hfin, ?_⟩
          have hr : Rep K φ' H' (.hnd st1.length) (.ref Da) := .hnd (k'.at nD)
          simp only at p
          cases mk with
          | true => rw [if_pos rfl] at p; exact p φ' H' _ (kD.trans k') s' hr
          | false =>
            rw [if_neg Bool.false_ne_true] at p
            exact exit_post (kD.trans k') s1.len s' hr p
        · rw [if_neg hfin] at g'; cases g'
theorem de_lc (mk : Bool) {elt tge iter : Expr} {ifs : List Expr} {scope : Scope} {own : List (Str × Nat)} {tg : Tgt} {fi : FI} {ft : FT} {fe : FE} {ow : List Nat} (hc : X.calm = true) (hN : X.N.Nodup) (hi : DI X W tge iter fi) (ok : BlkOk X.N X.env.scope scope own) (how : own.map (·.2) = ow) (ht : tg.in_ ow = true)
    (hg : ∀ (s : Shared) (H : Hp) (C : Addr) (cl : List (Str × Addr)) (fp : List Addr), PG (X.blk s H scope (compEnvC scope cl C X.env) fp) tge (tgG X.K tg)) (hts : ∀ (s : Shared) (H : Hp) (C : Addr) (cl : List (Str × Addr)) (fp : List Addr), DTs (X.blk s H scope (compEnvC scope cl C X.env) fp) E0 ifs ft)
    (he : ∀ (s : Shared) (H : Hp) (C : Addr) (cl : List (Str × Addr)) (fp : List Addr), DE (X.blk s H scope (compEnvC scope cl C X.env) fp) E0 elt fe) (hs : ∀ x, foldedSetIterable iter X.env x = pure x := by intro _; rfl) :
    DE X W (.ListComp elt [⟨tge, iter, ifs, 0⟩] scope pos) (e_lc mk fi tg ow ft fe) := by
  subst how
  exact PE.monoT (pe_lc hc hN hi ok hg hts he hs) fun _ _ _ h => lc_run ht h

/-! ### statements -/
def s_next : FS := fun ρ st => .nx ρ st
def s_seq (f g : FS) : FS := fun ρ st => (f ρ st).andThen g
def s_stuck : FS := fun _ _ => .stuck
variable {st0 : Stmt} {rest : List Stmt} {f g : FS} {e : Expr} {fe : FE}
theorem ds_stuck : DS X W st0 s_stuck := ⟨fun _ _ _ _ _ _ ⟨_, _, _, _, _, p⟩ => p.elim⟩
theorem dss_nil : DSs X W [] s_next := PSs.monoT pss_nil fun N σ H ⟨φ, ρ, st, s, er, p⟩ => p φ H σ .refl s er
theorem seq_run {K : PySem.W.Frag} {N : Ends} {σ : L2.St} {H : Hp} (h : tS K W (s_seq f g) N σ H) : tSeq (tS K W f) (tS K W g) N σ H := by
  obtain ⟨φ, ρ, st, s, er, p⟩ := h
  refine ⟨φ, ρ, st, s, er, ?_⟩
  unfold s_seq at p
  cases hf : f ρ st with
  | nx ρ1 st1 => rw [hf] at p; exact fun φ1 H1 σ1 k1 s1 e1 => ⟨φ1, ρ1, st1, s1, e1, PostS.trans k1 p⟩
  | rt d st1 => rw [hf] at p; exact p
  | bk d st1 => rw [hf] at p; exact p
  | ct d st1 => rw [hf] at p; exact p
  | err d st1 => rw [hf] at p; exact p
  | stuck => rw [hf] at p; exact p
theorem dss_cons (h1 : DS X W st0 f) (h2 : DSs X W rest g) : DSs X W (st0 :: rest) (s_seq f g) := PSs.monoT (pss_cons h1 h2) fun _ _ _ h => seq_run h
theorem dss_one (h1 : DS X W st0 f) : DSs X W [st0] f := pss_one h1
/-- an expression dropped -/
def s_expr (fe : FE) : FS := fun ρ st => RS.ofE (fe ρ st) fun _ st1 => .nx ρ st1
theorem ds_expr (he : DE X W e fe) (hs : swapsWith e none pos.line X.env = pure false := by rfl) : DS X W (.Expr e pos) (s_expr fe) :=
  PS.monoT (ps_expr he hs) fun N σ H ⟨φ, ρ, st, s, er, p⟩ => tE_mono (fun x H1 ⟨φ1, st1, d, a, p1⟩ => p1 φ1 H1 σ .refl a.sr a.er) (runSE (At.of s er) p)
theorem ds_doc {x j pos pos'} : DS X W (.Expr (.Constant (.str x) j pos) pos') s_next := PS.monoT ps_doc fun N σ H ⟨φ, ρ, st, s, er, p⟩ => p φ H σ .refl s er
theorem ds_pass : DS X W (.Pass pos) s_next := PS.monoT ps_pass fun N σ H ⟨φ, ρ, st, s, er, p⟩ => p φ H σ .refl s er
def s_brk : FS := fun ρ st => .bk ρ st
def s_cont : FS := fun ρ st => .ct ρ st
theorem ds_break : DS X W (.Break pos) s_brk := PS.monoT ps_break fun N σ H ⟨φ, ρ, st, s, er, p⟩ => p φ H σ .refl s er
theorem ds_continue : DS X W (.Continue pos) s_cont := PS.monoT ps_continue fun N σ H ⟨φ, ρ, st, s, er, p⟩ => p φ H σ .refl s er
def s_ret (fe : FE) : FS := fun ρ st => RS.ofE (fe ρ st) fun d st1 => .rt d st1
theorem ds_ret (he : DE X W e fe) : DS X W (.Return (some e) pos) (s_ret fe) :=
  PS.monoT (ps_ret he) fun N σ H ⟨φ, ρ, st, s, er, p⟩ => tE_mono (fun x H1 ⟨φ1, st1, d, a, p1⟩ => by
    obtain ⟨s1, e1, r⟩ := a
    cases r with
    | cons r1 _ => exact p1 φ1 H1 x .refl s1 r1) (runSE (At.of s er) p)
def s_retN : FS := fun _ st => .rt .non st
theorem ds_retN : DS X W (.Return none pos) s_retN := PS.monoT ps_retN fun N σ H ⟨φ, ρ, st, s, er, p⟩ => p φ H .non .refl s .non
def s_if (tc : FT) (f g : FS) : FS := fun ρ st => RS.ofT (tc ρ st) fun c st1 => if c = true then f ρ st1 else g ρ st1
theorem ds_if {c : Expr} {tc : FT} {a b : List Stmt} (hc : DT X W c tc) (ha : DSs X W a f) (hb : DSs X W b g) : DS X W (.If c a b pos) (s_if tc f g) :=
  PS.monoT (ps_if hc ha hb) fun N σ H ⟨φ, ρ, st, s, er, p⟩ => tT_mono (fun c H1 ⟨φ1, st1, a1, p1⟩ => by
    cases c with
    | true => rw [if_pos rfl] at p1 ⊢; exact ⟨φ1, ρ, st1, a1.sr, a1.er, p1⟩
    | false => rw [if_neg Bool.false_ne_true] at p1 ⊢; exact ⟨φ1, ρ, st1, a1.sr, a1.er, p1⟩) (runST (At.of s er) p)
/-- name = value -/
def s_set (i : Nat) (fe : FE) : FS := fun ρ st => RS.ofE (fe ρ st) fun d st1 => .nx (ρ.set i (some d)) st1
theorem set_run {K : PySem.W.Frag} {N : Ends} {σ : L2.St} {H : Hp} {i : Nat} {te : TE} (hm : ∀ Q, tE K W fe σ H Q → te σ H Q) (h : tS K W (s_set i fe) N σ H) : tAsg te (gName i) N σ H := by
  obtain ⟨φ, ρ, st, s, er, p⟩ := h
  refine hm _ (tE_mono (fun x H1 ⟨φ1, st1, d, a, p1⟩ => ?_) (runSE (At.of s er) p))
  obtain ⟨s1, e1, r⟩ := a
  cases r with
  | cons r1 _ => exact p1 φ1 H1 _ .refl s1 (e1.set i r1)
theorem ds_set {i : Nat} {x : Str} {pos' : Pos} (hN : X.N.Nodup) (hi : X.N[i]? = some x) (hx : Loc X.env.scope x) (he : DE X W e fe) (hs : swapsWith e (some (.Name x pos')) pos.line X.env = pure false := by rfl)
    (hf : X.fn x = true ∨ X.env.scope.names.lookup x = some .local := by first | exact .inl rfl | exact .inr rfl | assumption) : DS X W (.Assign [.Name x pos'] e pos) (s_set i fe) :=
  PS.monoT (ps_set hN hi hx he hs hf) fun _ _ _ h => set_run (fun _ q => q) h
/-- name = [..] on one line, the name a local -/
theorem ds_setLc (mk : Bool) {i : Nat} {y : Str} {py : Pos} {elt tge iter : Expr} {ifs : List Expr} {scope : Scope} {own : List (Str × Nat)} {pos spos : Pos} {tg : Tgt} {fi : FI} {ft : FT} {fe : FE} {ow : List Nat} (hc : X.calm = true) (hN : X.N.Nodup) (hy : X.N[i]? = some y) (hyl : X.env.scope.names.lookup y = some .local)
    (hsw : swapsWith (.ListComp elt [⟨tge, iter, ifs, 0⟩] scope pos) (some (.Name y py)) spos.line X.env = pure true) (hi : DI X W tge iter fi) (ok : BlkOk X.N X.env.scope scope own) (how : own.map (·.2) = ow) (ht : tg.in_ ow = true)
    (hg : ∀ (s : Shared) (H : Hp) (C : Addr) (cl : List (Str × Addr)) (fp : List Addr), PG (X.blk s H scope (compEnvC scope cl C X.env) fp) tge (tgG X.K tg)) (hts : ∀ (s : Shared) (H : Hp) (C : Addr) (cl : List (Str × Addr)) (fp : List Addr), DTs (X.blk s H scope (compEnvC scope cl C X.env) fp) E0 ifs ft)
    (he : ∀ (s : Shared) (H : Hp) (C : Addr) (cl : List (Str × Addr)) (fp : List Addr), DE (X.blk s H scope (compEnvC scope cl C X.env) fp) E0 elt fe) (hs : ∀ x, foldedSetIterable iter X.env x = pure x := by intro _; rfl) :
    DS X W (.Assign [.Name y py] (.ListComp elt [⟨tge, iter, ifs, 0⟩] scope pos) spos) (s_set i (e_lc mk fi tg ow ft fe)) := by
  subst how
  exact PS.monoT (ps_setLc hc hN hy hyl hsw hi ok hg hts he hs) fun _ _ _ h => set_run (fun _ q => lc_run ht q) h

/-! ### targets of assignments -/
abbrev FG := D → En → Sto → Res En
def PostG (K : PySem.W.Frag) (W : XK) (φ : List Addr) (H : Hp) (Q : L2.St → Hp → Prop) : Res En → Prop
  | .ok ρ st => ∀ φ' H' σ, Keep φ φ' H H' → SR K φ' st H' → EnvR K φ' H' ρ σ → Q σ H'
  | .err x st => ∀ φ' H' c dx, Keep φ φ' H H' → SR K φ' st H' → ExR K φ' H' x c dx → W c dx H'
  | .stuck => False
theorem PostG.trans {K : PySem.W.Frag} {φ φ1 : List Addr} {H H1 : Hp} {Q : L2.St → Hp → Prop} {r : Res En} (k : Keep φ φ1 H H1) (p : PostG K W φ H Q r) : PostG K W φ1 H1 Q r := by
  cases r with
  | ok d st => exact fun φ' H' v k' s r => p φ' H' v (k.trans k') s r
  | err x st => exact fun φ' H' c dx k' s r => p φ' H' c dx (k.trans k') s r
  | stuck => exact p
def tG (K : PySem.W.Frag) (W : XK) (f : FG) : TG := fun v σ H Q => ∃ φ ρ st d, SR K φ st H ∧ EnvR K φ H ρ σ ∧ Rep K φ H d v ∧ PostG K W φ H Q (f d ρ st)
abbrev DG (X : Cx) (W : XK) (tg : Expr) (f : FG) : Prop := PG X tg (tG X.K W f)
theorem PG.monoT {tg : Expr} {t t' : TG} (h : PG X tg t) (m : ∀ v σ H Q, t' v σ H Q → t v σ H Q) : PG X tg t' := ⟨fun pins s σ H v u Q I r q => h.run pins s σ H v u Q I r (m v σ H Q q)⟩
theorem PGs.monoT {tg : List Expr} {t t' : TGs} (h : PGs X tg t) (m : ∀ v σ H Q, t' v σ H Q → t v σ H Q) : PGs X tg t' := ⟨fun pins s σ H v u Q I r q => h.run pins s σ H v u Q I r (m v σ H Q q)⟩
def g_name (i : Nat) : FG := fun d ρ st => .ok (ρ.set i (some d)) st
theorem dg_name {i : Nat} {x : Str} (hN : X.N.Nodup) (hi : X.N[i]? = some x) (hx : Loc X.env.scope x) (hf : X.fn x = true ∨ X.env.scope.names.lookup x = some .local := by first | exact .inl rfl | exact .inr rfl | assumption) : DG X W (.Name x pos) (g_name i) :=
  PG.monoT (pg_name hN hi hx hf) fun v σ H Q ⟨φ, ρ, st, d, s, er, r, p⟩ => p φ H _ .refl s (er.set i r)
def setLD (o i d : D) (st : Sto) : Option Sto := match o, i with
  | .hnd n, .int k => (match st[n]? with
    | some (.lst ds) => (match ixN ds.length k with
      | some j => some (st.set n (.lst (ds.set j d)))
      | none => none)
    | none => none)
  | _, _ => none
def g_sub (fo fi : FE) : FG := fun d ρ st => (fo ρ st).bind fun o st1 => (fi ρ st1).bind fun i st2 => match setLD o i d st2 with
  | some st3 => .ok ρ st3
  | none => .stuck
theorem runGE {K : PySem.W.Frag} {φ : List Addr} {ρ : En} {st : Sto} {hd : List D} {σ : L2.St} {H : Hp} {hv : List V} {Q : L2.St → Hp → Prop} {fa : FE} {k : D → Sto → Res En} (a : At K φ ρ st hd σ H hv) (p : PostG K W φ H Q ((fa ρ st).bind k)) :
    tE K W fa σ H fun x H1 => ∃ φ1 st1 d, At K φ1 ρ st1 (d :: hd) σ H1 (x :: hv) ∧ PostG K W φ1 H1 Q (k d st1) := by
  refine ⟨φ, ρ, st, a.sr, a.er, ?_⟩
  cases h : fa ρ st with
  | ok d st1 => rw [h] at p; exact fun φ1 H1 x k1 s1 r1 => ⟨φ1, st1, d, ⟨s1, a.er.keep k1, .cons r1 (a.hr.keep k1)⟩, PostG.trans k1 p⟩
  | err x st1 => rw [h] at p; exact p
  | stuck => rw [h] at p; exact p
theorem dg_sub {o i : Expr} {fo fi : FE} (ho : DE X W o fo) (hi : DE X W i fi)
    (ha : ∀ v, assign (.Subscript o i pos) X.env v = (do
      let ov ← holding [v] (eval o X.env)
      let iv ← holding [v, ov] (eval i X.env)
      standAt pos
      holding [v, ov, iv] (setItem ov iv v)
      release [v, ov, iv] []) := by intro _; rfl) : DG X W (.Subscript o i pos) (g_sub fo fi) :=
  PG.monoT (pg_sub ho hi set_list ha) fun v σ H Q ⟨φ, ρ, st, d, s, er, r, p⟩ =>
    tE_mono (fun x H1 ⟨φ1, st1, d1, a1, p1⟩ => tE_mono (fun y H2 ⟨φ2, st2, d2, a2, p2⟩ => by
      obtain ⟨s2, e2, r⟩ := a2
      cases r with
      | cons ri r => cases r with
        | cons ro r => cases r with
          | cons rd _ =>
            cases hs : setLD d1 d2 d st2 with
            | none => rw [hs] at p2; exact p2.elim
            | some st3 =>
              rw [hs] at p2
              unfold setLD at hs
              cases ro with
              | @hnd n a h1 => cases ri with
                | int k =>
                  simp only at hs
                  cases hc : st2[n]? with
                  | none => rw [hc] at hs; cases hs
                  | some c => cases c with
                    | lst ds =>
                      rw [hc] at hs
                      simp only at hs
                      cases hj : ixN ds.length k with
                      | none => rw [hj] at hs; cases hs
                      | some j =>
                        rw [hj] at hs
                        cases hs
                        obtain ⟨a', q1, xs, q2, q3⟩ := s2.cell n _ hc
                        rw [h1] at q1; cases q1
                        refine ⟨a, xs, k, j, rfl, rfl, q2, by rw [← q3.length]; exact hj, ?_⟩
                        have kw : Keep φ2 φ2 H2 (upd H2 a (.lst (xs.set j v))) := Keep.write (List.mem_of_getElem? h1)
                        exact p2 φ2 _ σ kw (s2.write h1 (q3.set rd j)) (e2.keep kw)
                | _ => cases hs
              | _ => cases ri <;> cases hs) (runGE a1 p1)) (runGE (hd := [d]) (hv := [v]) ⟨s, er, .cons r .nil⟩ p)
/-- a, b = a tuple: any targets -/
def g_tups : List FG → List D → En → Sto → Res En
  | [], [], ρ, st => .ok ρ st
  | f :: fs, d :: ds, ρ, st => (f d ρ st).bind fun ρ1 st1 => g_tups fs ds ρ1 st1
  | _, _, _, _ => .stuck
def g_tup (fs : List FG) : FG := fun d ρ st => match d with
  | .tup ds => if ds.length = fs.length then g_tups fs ds ρ st else .stuck
  | _ => .stuck
def tGs (K : PySem.W.Frag) (W : XK) (fs : List FG) : TGs := fun vs σ H Q => ∃ φ ρ st ds, SR K φ st H ∧ EnvR K φ H ρ σ ∧ Reps K φ H ds vs ∧ PostG K W φ H Q (g_tups fs ds ρ st)
abbrev DGs (X : Cx) (W : XK) (tg : List Expr) (fs : List FG) : Prop := PGs X tg (tGs X.K W fs)
theorem dgs_nil : DGs X W [] [] := PGs.monoT pgs_nil fun v σ H Q ⟨φ, ρ, st, ds, s, er, r, p⟩ => by
  cases r with
  | nil => exact ⟨rfl, p φ H σ .refl s er⟩
  | cons _ _ => exact p.elim
theorem dgs_cons {e : Expr} {es : List Expr} {f : FG} {fs : List FG} (h1 : DG X W e f) (h2 : DGs X W es fs) (hs : (assignEach (e :: es) X.env).map (·.2) = assign e X.env :: (assignEach es X.env).map (·.2) := by rfl) : DGs X W (e :: es) (f :: fs) :=
  PGs.monoT (pgs_cons h1 h2 hs) fun v σ H Q ⟨φ, ρ, st, ds, s, er, r, p⟩ => by
    cases r with
    | nil => exact p.elim
    | @cons d ds x vs r rs =>
      refine ⟨_, _, rfl, φ, ρ, st, d, s, er, r, ?_⟩
      have p : PostG X.K W φ H Q ((f d ρ st).bind fun ρ1 st1 => g_tups fs ds ρ1 st1) := p
      cases h : f d ρ st with
      | ok ρ1 st1 => rw [h] at p; exact fun φ1 H1 σ1 k1 s1 e1 => ⟨φ1, ρ1, st1, ds, s1, e1, rs.keep k1, PostG.trans k1 p⟩
      | err x st1 => rw [h] at p; exact p
      | stuck => rw [h] at p; exact p
theorem dg_tup {es : List Expr} {kk : Nat} {fs : List FG} (hc : X.calm = true) (h : DGs X W es fs) (hn : (assignEach es X.env).length = fs.length := by rfl) (hst : (assignEach es X.env).findIdx? (·.1) = none := by rfl) : DG X W (.Tuple es kk pos) (g_tup fs) :=
  PG.monoT (pg_tup hc h hn hst) fun v σ H Q ⟨φ, ρ, st, d, s, er, r, p⟩ => by
    cases r with
    | @tup a xs ds h1 rs =>
      unfold g_tup at p
      simp only at p
      by_cases hl : ds.length = fs.length
      · rw [if_pos hl] at p
        exact ⟨a, xs, rfl, h1.sq, by rw [← rs.length]; exact hl, φ, ρ, st, ds, s, er, rs, p⟩
      · rw [if_neg hl] at p; exact p.elim
    | _ => exact p.elim
def RS.ofG (r : Res En) : RS := match r with
  | .ok ρ st => .nx ρ st
  | .err x st => .err x st
  | .stuck => .stuck
def s_asg (fe : FE) (fg : FG) : FS := fun ρ st => RS.ofE (fe ρ st) fun d st1 => RS.ofG (fg d ρ st1)
theorem ds_asg {tg : Expr} {fg : FG} (he : DE X W e fe) (hg : DG X W tg fg) (hs : swapsWithSole [tg] e pos.line X.env = pure false := by rfl) (hw : swappedStores [tg] e X.env = pure none := by rfl)
    (h1 : (assignEach [tg] X.env).map (·.2) = [assign tg X.env] := by rfl) : DS X W (.Assign [tg] e pos) (s_asg fe fg) :=
  PS.monoT (ps_asg he hg hs hw h1) fun N σ H ⟨φ, ρ, st, s, er, p⟩ => tE_mono (fun x H1 ⟨φ1, st1, d, a, p1⟩ => by
    obtain ⟨s1, e1, r⟩ := a
    cases r with
    | cons r1 _ =>
      refine ⟨φ1, ρ, st1, d, s1, e1, r1, ?_⟩
      cases h : fg d ρ st1 with
      | ok ρ2 st2 => rw [h] at p1; exact p1
      | err x st2 => rw [h] at p1; exact p1
      | stuck => rw [h] at p1; exact p1) (runSE (At.of s er) p)
/-- a, b = x, y with plain local names -/
def par2 (i j : Nat) (ρ : En) : List D → Sto → RS
  | [a, b], st1 => .nx ((ρ.set i (some a)).set j (some b)) st1
  | _, _ => .stuck
def s_par (i j : Nat) (fs : List FE) : FS := fun ρ st => RS.ofA (evs fs ρ st) (par2 i j ρ)
theorem ds_par {i j : Nat} {x y : Str} {a b : Expr} {fs : List FE} {px py pt : Pos} {kt k2 pt2} (hc : X.calm = true) (hN : X.N.Nodup) (hi : X.N[i]? = some x) (hj : X.N[j]? = some y) (hij : i ≠ j)
    (hx : X.env.scope.names.lookup x = some .local) (hy : X.env.scope.names.lookup y = some .local) (ha : DA X W [a, b] (evs fs))
    (hw : swappedStores [.Tuple [.Name x px, .Name y py] kt pt] (.Tuple [a, b] k2 pt2) X.env = pure (some [x, y]))
    (hs : swapsWithSole [.Tuple [.Name x px, .Name y py] kt pt] (.Tuple [a, b] k2 pt2) pos.line X.env = pure false := by rfl) :
    DS X W (.Assign [.Tuple [.Name x px, .Name y py] kt pt] (.Tuple [a, b] k2 pt2) pos) (s_par i j fs) :=
  PS.monoT (ps_par hc hN hi hj hij hx hy ha hw hs) fun N σ H ⟨φ, ρ, st, s, er, p⟩ => by
    refine ⟨φ, ρ, st, s, er, ?_⟩
    unfold s_par at p
    cases h : evs fs ρ st with
    | ok ds st1 =>
      rw [h] at p
      intro φ1 H1 vs k1 s1 r1
      have p : PostS X.K W φ H N (par2 i j ρ ds st1) := p
      cases r1 with
      | nil => exact p.elim
      | cons ra r1 => cases r1 with
        | nil => exact p.elim
        | cons rb r1 => cases r1 with
          | cons _ _ => exact p.elim
          | nil => exact ⟨_, _, rfl, p φ1 H1 _ k1 s1 (((er.keep k1).set i ra).set j rb)⟩
    | err x st1 => rw [h] at p; exact p
    | stuck => rw [h] at p; exact p
/-- name op= e -/
def s_aug (i : Nat) (g : D → D → Sto → Res D) (fe : FE) : FS := fun ρ st => match ρ[i]? with
  | some (some d0) => RS.ofE (fe ρ st) fun d st1 => RS.ofE (g d0 d st1) fun z st2 => .nx (ρ.set i (some z)) st2
  | _ => .stuck
theorem ds_aug {i : Nat} {x : Str} {op : Operator} {g : D → D → Sto → Res D} {pos' : Pos} (hN : X.N.Nodup) (hi : X.N[i]? = some x) (hx : Loc X.env.scope x) (he : DE X W e fe) (ho : PIp X op (rOp X.K W g)) (hf : X.fn x = true ∨ X.env.scope.names.lookup x = some .local := by first | exact .inl rfl | exact .inr rfl | assumption) :
    DS X W (.AugAssign (.Name x pos') op e pos) (s_aug i g fe) :=
  PS.monoT (ps_aug hN hi hx he ho hf) fun N σ H ⟨φ, ρ, st, s, er, p⟩ => by
    unfold s_aug at p
    cases h1 : ρ[i]? with
    | none => rw [h1] at p; exact p.elim
    | some o => cases o with
      | none => rw [h1] at p; exact p.elim
      | some d0 =>
        rw [h1] at p
        obtain ⟨v, e1, r0⟩ := er.val i d0 h1
        refine ⟨v, e1, tE_mono (fun y H1 ⟨φ1, st1, d, a, p1⟩ => ?_) (runSE (hd := [d0]) (hv := [v]) ⟨s, er, .cons r0 .nil⟩ p)⟩
        obtain ⟨s1, er1, r⟩ := a
        cases r with
        | cons r1 r => cases r with
          | cons r0 _ =>
            refine ⟨φ1, st1, d0, d, s1, r0, r1, ?_⟩
            cases h : g d0 d st1 with
            | ok z st2 => rw [h] at p1; exact fun φ2 H2 v2 k2 s2 r2 => p1 φ2 H2 _ k2 s2 ((er1.keep k2).set i r2)
            | err x st2 => rw [h] at p1; exact p1
            | stuck => rw [h] at p1; exact p1
def iaddD : D → D → Sto → Res D
  | .int a, .int b, st => .ok (.int (a + b)) st
  | .str a, .str b, st => if a.length + b.length ≤ sizeLine then .ok (.str (a ++ b)) st else .stuck
  | _, _, _ => .stuck
theorem pip_add : PIp X .Add (rOp X.K W iaddD) := by
  intro pins s σ H x y v u Q I rx ry ⟨φ, st, d1, d2, sr, r1, r2, p⟩
  cases r1 with
  | int a => cases r2 with
    | int b => exact iop_add pins s σ H _ _ v u Q I rx ry ⟨a, b, rfl, rfl, PostE.now sr (.int _) p⟩
    | _ => exact p.elim
  | str a => cases r2 with
    | str b =>
      unfold iaddD at p
      simp only at p
      by_cases hz : a.length + b.length ≤ sizeLine
      · rw [if_pos hz] at p
        exact iop_add_str pins s σ H _ _ v u Q I rx ry ⟨a, b, rfl, rfl, hz, PostE.now sr (.str _) p⟩
      · rw [if_neg hz] at p; exact p.elim
    | _ => exact p.elim
  | _ => cases r2 <;> exact p.elim
theorem pip_sub : PIp X .Sub (rOp X.K W subD) := by
  intro pins s σ H x y v u Q I rx ry ⟨φ, st, d1, d2, sr, r1, r2, p⟩
  cases r1 with
  | int a => cases r2 with
    | int b => exact iop_sub pins s σ H _ _ v u Q I rx ry ⟨a, b, rfl, rfl, PostE.now sr (.int _) p⟩
    | _ => exact p.elim
  | _ => cases r2 <;> exact p.elim

/-! ### for -/
def forGo (src : Src) (tg : Tgt) (fb : FS) : Nat → Nat → En → Sto → RS
  | 0, _, ρ, st => if src.fin st = true then .nx ρ st else .stuck
  | k + 1, i, ρ, st => match src.nth i st with
    | none => .stuck
    | some d => match assignT tg d ρ with
      | none => .stuck
      | some ρ' => match fb ρ' st with
        | .nx ρ2 st2 => forGo src tg fb k (i + 1) ρ2 st2
        | .ct ρ2 st2 => forGo src tg fb k (i + 1) ρ2 st2
        | .bk ρ2 st2 => .nx ρ2 st2
        | r => r
def s_for (fi : FI) (tg : Tgt) (fb : FS) : FS := fun ρ st => match fi ρ st with
  | .ok src st1 => forGo src tg fb src.len 0 ρ st1
  | .err x st1 => .err x st1
  | .stuck => .stuck
theorem ds_for {tge iter : Expr} {body : List Stmt} {fi : FI} {tg : Tgt} {fb : FS} (hp : PassesOwn (model X.prog X.w) X.A X.env X.xe) (hc : X.calm = true) (hi : DI X W tge iter fi) (hg : PG X tge (tgG X.K tg)) (hb : DSs X W body fb)
    (hs : ∀ x, foldedSetIterable iter X.env x = pure x := by intro _; rfl) : DS X W (.For tge iter body [] pos) (s_for fi tg fb) :=
  PS.monoT (ps_for hp hc hi hg hb hs) fun N σ H ⟨φ, ρ, st, s, er, p⟩ => by
    refine ⟨φ, ρ, st, s, er, ?_⟩
    unfold s_for at p
    cases hf : fi ρ st with
    | err x st1 => rw [hf] at p; exact p
    | stuck => rw [hf] at p; exact p
    | ok src st1 =>
      rw [hf] at p
      intro φ1 H1 J k1 s1 w1
      refine ⟨fun i m σ' H' => m = src.len - i ∧ i ≤ src.len ∧ ∃ φ' ρ' st', Keep φ1 φ' H1 H' ∧ SR X.K φ' st' H' ∧ EnvR X.K φ' H' ρ' σ' ∧ PostS X.K W φ' H' N (forGo src tg fb (src.len - i) i ρ' st'),
        ⟨src.len, (Nat.sub_zero _).symm, Nat.zero_le _, φ1, ρ, st1, .refl, s1, er.keep k1, PostS.trans k1 p⟩, fun i m σ' H' hw => ?_⟩
      obtain ⟨rfl, hi, φ', ρ', st', k', s', e', p'⟩ := hw
      have w' := w1.later k'
      by_cases hlt : i < src.len
      · obtain ⟨n, hn⟩ : ∃ n, src.len - i = n + 1 := ⟨src.len - i - 1, by omega⟩
        have n' : src.len - (i + 1) = n := by omega
        rw [hn] at p'
        unfold forGo at p'
        cases hd : src.nth i st' with
        | none => rw [hd] at p'; exact p'.elim
        | some d =>
          rw [hd] at p'
          simp only at p'
          refine .inr ⟨w'.go i φ' st' H' d .refl s' hlt hd, fun σ2 H2 => ∃ φ2 ρ2 st2, Keep φ1 φ2 H1 H2 ∧ SR X.K φ2 st2 H2 ∧ EnvR X.K φ2 H2 ρ2 σ2 ∧ PostS X.K W φ2 H2 N (forGo src tg fb n (i + 1) ρ2 st2),
            fun σ2 H2 ⟨φ2, ρ2, st2, q1, q2, q3, q4⟩ => ⟨src.len - (i + 1), by omega, rfl, hlt, φ2, ρ2, st2, q1, q2, q3, by rw [n']; exact q4⟩, fun x H2 y => ?_⟩
          obtain ⟨k2, s2, r2⟩ := w'.yld i φ' st' H' x H2 d .refl s' hlt hd y
          cases ha : assignT tg d ρ' with
          | none => rw [ha] at p'; exact p'.elim
          | some ρ2 =>
            rw [ha] at p'
            simp only at p'
            refine tgG_run ha r2 (e'.keep k2) fun σ2 er2 _ => ⟨φ', ρ2, st', s2, er2, ?_⟩
            have p' := PostS.trans k2 p'
            cases hB : fb ρ2 st' with
            | nx ρ3 st3 => rw [hB] at p'; exact fun φ3 H3 σ3 k3 s3 e3 => ⟨φ3, ρ3, st3, (k'.trans k2).trans k3, s3, e3, PostS.trans k3 p'⟩
            | ct ρ3 st3 => rw [hB] at p'; exact fun φ3 H3 σ3 k3 s3 e3 => ⟨φ3, ρ3, st3, (k'.trans k2).trans k3, s3, e3, PostS.trans k3 p'⟩
            | bk ρ3 st3 => rw [hB] at p'; exact fun φ3 H3 σ3 k3 s3 e3 => p' φ3 H3 σ3 k3 s3 e3
            | rt d st3 => rw [hB] at p'; exact p'
            | err x st3 => rw [hB] at p'; exact p'
            | stuck => rw [hB] at p'; exact p'
      · have e : i = src.len := by omega
        subst e
        rw [Nat.sub_self] at p'
        unfold forGo at p'
        by_cases hfin : src.fin st' = true
        · rw [if_pos hfin] at p'
          exact .inl ⟨w'.stop φ' st' H' .refl s' hfin, p' φ' H' σ' .refl s' e'⟩
        · rw [if_neg hfin] at p'; exact p'.elim

/-! ### while: at most n turns -/
def whileGo (tc : FT) (fb : FS) : Nat → En → Sto → RS
  | 0, _, _ => .stuck
  | k + 1, ρ, st => RS.ofT (tc ρ st) fun c st1 => if c = true then (match fb ρ st1 with
      | .nx ρ2 st2 => whileGo tc fb k ρ2 st2
      | .ct ρ2 st2 => whileGo tc fb k ρ2 st2
      | .bk ρ2 st2 => .nx ρ2 st2
      | r => r) else .nx ρ st1
def s_while (n : Nat) (tc : FT) (fb : FS) : FS := fun ρ st => whileGo tc fb n ρ st
theorem ds_while (n : Nat) {c : Expr} {body : List Stmt} {tc : FT} {fb : FS} (hp : PassesOwn (model X.prog X.w) X.A X.env X.xe) (hc : DT X W c tc) (hb : DSs X W body fb) : DS X W (.While c body [] pos) (s_while n tc fb) :=
  PS.monoT (ps_while hp hc hb) fun N σ H ⟨φ, ρ, st, s, er, p⟩ => by
    refine ⟨fun m σ' H' => ∃ φ' ρ' st', SR X.K φ' st' H' ∧ EnvR X.K φ' H' ρ' σ' ∧ PostS X.K W φ' H' N (whileGo tc fb m ρ' st'), ⟨n, φ, ρ, st, s, er, p⟩, fun m σ' H' ⟨φ', ρ', st', s', e', p'⟩ => ?_⟩
    cases m with
    | zero => exact p'.elim
    | succ k =>
      refine tT_mono (fun b H1 ⟨φ1, st1, a1, p1⟩ => ?_) (runST (At.of s' e') p')
      cases b with
      | false => rw [if_neg Bool.false_ne_true] at p1 ⊢; exact p1 φ1 H1 σ' .refl a1.sr a1.er
      | true =>
        rw [if_pos rfl] at p1 ⊢
        refine ⟨fun σ2 H2 => ∃ φ2 ρ2 st2, SR X.K φ2 st2 H2 ∧ EnvR X.K φ2 H2 ρ2 σ2 ∧ PostS X.K W φ2 H2 N (whileGo tc fb k ρ2 st2), fun σ2 H2 q => ⟨k, Nat.lt_succ_self k, q⟩, φ1, ρ', st1, a1.sr, a1.er, ?_⟩
        cases hB : fb ρ' st1 with
        | nx ρ3 st3 => rw [hB] at p1; exact fun φ3 H3 σ3 k3 s3 e3 => ⟨φ3, ρ3, st3, s3, e3, PostS.trans k3 p1⟩
        | ct ρ3 st3 => rw [hB] at p1; exact fun φ3 H3 σ3 k3 s3 e3 => ⟨φ3, ρ3, st3, s3, e3, PostS.trans k3 p1⟩
        | bk ρ3 st3 => rw [hB] at p1; exact fun φ3 H3 σ3 k3 s3 e3 => p1 φ3 H3 σ3 k3 s3 e3
        | rt d st3 => rw [hB] at p1; exact p1
        | err x st3 => rw [hB] at p1; exact p1
        | stuck => rw [hB] at p1; exact p1
end

/-! ### defs -/
def startD (n : Nat) (ds : List D) : En := ds.map some ++ List.replicate (n - ds.length) none
/-- the mirror of a body with n slots: what it returns; its new handles stay -/
def fnM (n : Nat) (f : FS) : List D → Sto → Res D := fun ds st => match f (startD n ds) st with
  | .rt d st' => .ok d st'
  | .nx _ st' => .ok .non st'
  | .err x st' => .err x st'
  | _ => .stuck
/-- .. its new handles are given up -/
def fnT (n : Nat) (f : FS) : List D → Sto → Res D := fun ds st => match f (startD n ds) st with
  | .rt d st' => exitD st.length d st'
  | .nx _ st' => exitD st.length .non st'
  | .err x st' => .err x st'
  | _ => .stuck
theorem start_env {K : PySem.W.Frag} {φ : List Addr} {H : Hp} {N : List Str} {ds : List D} {vs : List V} (r : Reps K φ H ds vs) : EnvR K φ H (startD N.length ds) (L2.start N vs) := by
  unfold startD L2.start
  refine ⟨by rw [List.length_append, List.length_append, List.length_map, List.length_map, List.length_replicate, List.length_replicate, r.length], fun i d h => ?_⟩
  by_cases hi : i < ds.length
  · rw [List.getElem?_append_left (by rw [List.length_map]; exact hi), List.getElem?_map] at h
    cases h1 : ds[i]? with
    | none => rw [h1] at h; cases h
    | some d' =>
      rw [h1] at h
      cases h
      obtain ⟨v, e, rv⟩ := r.get h1
      exact ⟨v, by rw [List.getElem?_append_left (by rw [List.length_map, ← r.length]; exact hi), List.getElem?_map, e]; rfl, rv⟩
  · rw [List.getElem?_append_right (by rw [List.length_map]; omega), List.getElem?_replicate] at h
    split at h <;> cases h
section
variable {P : Program} {w : World} {K : PySem.W.Frag} {mg : Str → Option Value} {base : Heap} {x qual : Str} {params : Arguments} {body : List Stmt} {scope : Scope} {dvs : List V} {kws : List (Str × V)} {f : Addr} {fd : FuncData}
/-- the context of a body at a call -/
abbrev cxD (P : Program) (w : World) (K : PySem.W.Frag) (mg : Str → Option Value) (base : Heap) (N : List Str) (qual : Str) (scope : Scope) (f : Addr) (cdv : Value) (A : Around) (outer : List Env) (s : Shared) (H : Hp) (E : XK) : Cx := cxOf (L2.CX P w) P w K mg base N qual scope f cdv A outer s H E
theorem fn_ok {N ps : List Str} {k : Nat} {g : FS} {tr : Bool} (F : FunD K x qual params body scope dvs kws f fd) (S : FnScope N ps scope)
    (hb : ∀ (cdv : Value) (A : Around) (outer : List Env) (s : Shared) (H : Hp) (E : XK), Room k (cxD P w K mg base N qual scope f cdv A outer s H E).A → Passes (L2.CX P w) (cxD P w K mg base N qual scope f cdv A outer s H E) E →
      PassesOwn (model P w) (cxD P w K mg base N qual scope f cdv A outer s H E).A (cxD P w K mg base N qual scope f cdv A outer s H E).env (cxD P w K mg base N qual scope f cdv A outer s H E).xe →
      DSs (cxD P w K mg base N qual scope f cdv A outer s H E) E body g) :
    FnOk P w K mg base (L2.CX P w) (k + 1) f fd ps (spD K ps.length (arity ps.length (if tr = true then fnT N.length g else fnM N.length g))) := by
  refine F.ok S (fun vs H Q E h => h.1) (fun cdv A outer s H vs Q E hr h => ⟨tS K E g, hb cdv A outer s H E hr ?_ ?_, ?_⟩)
  · exact passes_call (X := cxD P w K mg base N qual scope f cdv A outer s H E) (takes_of (X := cxD P w K mg base N qual scope f cdv A outer s H E) (E := E) rfl rfl rfl rfl) fun _ _ _ _ h => h
  · exact passes_of (X := cxD P w K mg base N qual scope f cdv A outer s H E) (K := fun e s'' => L2.CX P w outer H s E e s'') rfl
  · obtain ⟨hl, φ, st, ds, sr, rs, p⟩ := h
    obtain ⟨hl2, p⟩ := post_arity p
    refine ⟨φ, startD N.length ds, st, sr, start_env rs, ?_⟩
    have ex : ∀ (d : D) (st' : Sto), PostE K E φ H Q (exitD st.length d st') → ∀ φ' H' v, Keep φ φ' H H' → SR K φ' st' H' → Rep K φ' H' d v → Q v H' := fun d st' p φ' H' v k s r => exit_post k sr.len s r p
    cases hg : g (startD N.length ds) st with
    | nx ρ' st' =>
      intro φ' H' σ' k' s' e'
      cases tr with
      | true => rw [if_pos rfl] at p; unfold fnT at p; rw [hg] at p; exact ex .non st' p φ' H' .non k' s' .non
      | false => rw [if_neg Bool.false_ne_true] at p; unfold fnM at p; rw [hg] at p; exact p φ' H' .non k' s' .non
    | rt d st' =>
      intro φ' H' v k' s' r'
      cases tr with
      | true => rw [if_pos rfl] at p; unfold fnT at p; rw [hg] at p; exact ex d st' p φ' H' v k' s' r'
      | false => rw [if_neg Bool.false_ne_true] at p; unfold fnM at p; rw [hg] at p; exact p φ' H' v k' s' r'
    | bk ρ' st' => cases tr with
      | true => rw [if_pos rfl] at p; unfold fnT at p; rw [hg] at p; exact p.elim
      | false => rw [if_neg Bool.false_ne_true] at p; unfold fnM at p; rw [hg] at p; exact p.elim
    | ct ρ' st' => cases tr with
      | true => rw [if_pos rfl] at p; unfold fnT at p; rw [hg] at p; exact p.elim
      | false => rw [if_neg Bool.false_ne_true] at p; unfold fnM at p; rw [hg] at p; exact p.elim
    | err x st' => cases tr with
      | true => rw [if_pos rfl] at p; unfold fnT at p; rw [hg] at p; exact p
      | false => rw [if_neg Bool.false_ne_true] at p; unfold fnM at p; rw [hg] at p; exact p
    | stuck => cases tr with
      | true => rw [if_pos rfl] at p; unfold fnT at p; rw [hg] at p; exact p.elim
      | false => rw [if_neg Bool.false_ne_true] at p; unfold fnM at p; rw [hg] at p; exact p.elim
end
end DL

/-! DL7: enumerate and zip over lists and tuples; calls with keywords; the law's end. -/
namespace DL
open PySem PySem.Spec L2

/-! ### one step of an iterator of tuples -/
section
variable {X : Cx} {pins : List (Addr × Obj)} {σ : L2.St} {H : Hp} {s : Shared} {Ia : Addr} {fp wr : List Addr} {n i : Nat} {Pt : Nat → Array Value → Prop} {St : Nat → Heap → Prop} {Mid : Nat → Addr → Heap → Prop} {E : Value → Shared → Prop} {elts : List Expr} {kk : Nat} {tpos : Pos}
theorem stepT {G : List V → Prop} (W : WalksT X.prog X.w X.A Ia fp wr n Pt St Mid) (I : L2.Inv X pins σ H s) (hwr : ∀ b ∈ wr, FpOk X pins H b) (hi : i < n) (hst : St i s.heap)
    (hv : ∀ vals, Pt i vals → ∃ xs : List V, Vals xs vals.toList ∧ xs.length ≤ 1000 ∧ G xs) :
    wpAny (model X.prog X.w) X.A (pyNext (.ref Ia)) (fun r s1 => ∃ u, r = some u ∧ wpAny (model X.prog X.w) X.A (letOwnedTupleGo (.Tuple elts kk tpos) (.ref Ia) u)
      (fun _ s2 => ∃ T xs, u = .ref T ∧ G xs ∧ H T = none ∧ s.heap.objs.size ≤ T ∧ L2.Inv X pins σ (upd H T (.tup xs)) s2 ∧ St (i + 1) s2.heap) E s1) E s := by
  refine W.item i s _ _ hi hst fun T vals h' tk hP hT hTup hMid hk => ⟨.ref T, rfl, W.go elts kk tpos i T { s with heap := h', toks := tk } _ _ hMid fun h2 st2 hk2 => ?_⟩
  obtain ⟨xs, rv, hl, g⟩ := hv vals hP
  have hTw := W.apart i T h' hMid
  have hTup2 : h2.IsTuple T vals := hTup.at fun o e => hk2 T o hTw e
  have new : ObjOk X.prog X.w (upd H T (.tup xs)) h2 T (.tup xs) := ⟨small_sz (by omega), vals.toList, rv, by rw [Array.toArray_toList]; exact hTup2⟩
  exact ⟨T, xs, rfl, g, I.hok.fresh hT, hT, I.turnedNew (t' := tk) (ch := wr) (fun b o hb e => hk2 b o hb (hk b o hb e)) hwr hT new, st2⟩
theorem doneT (W : WalksT X.prog X.w X.A Ia fp wr n Pt St Mid) (I : L2.Inv X pins σ H s) (hwr : ∀ b ∈ wr, FpOk X pins H b) (hst : St n s.heap) :
    wpAny (model X.prog X.w) X.A (pyNext (.ref Ia)) (fun r s1 => r = none ∧ L2.Inv X pins σ H s1) E s :=
  W.done s _ _ hst fun h' tk hk => ⟨rfl, I.turnedL (t' := tk) (ch := wr) (fun b o hb e => hk b o hb e) hwr⟩
end

/-! ### a list or a tuple as a source -/
inductive SK where
  | l (a : Addr)
  | t (a : Addr)
def SK.adr : SK → Addr
  | .l a => a
  | .t a => a
def SK.sq (K : PySem.W.Frag) : SK → Hp → List V → Prop
  | .l a, H, xs => SqL K H a xs
  | .t a, H, xs => SqT K H a xs
def SK.st : SK → Addr → Nat → Heap → Prop
  | .l a, it, i, h => h.IsListIter it a i
  | .t a, it, i, h => h.IsTupleIter it a i
def SK.is : SK → Array Value → Heap → Prop
  | .l a, its, h => h.IsList a its
  | .t a, its, h => h.IsTuple a its
section
variable {prog : Program} {w : World} {A : Around} {K : PySem.W.Frag}
theorem SK.draw (k : SK) (hh : A.handled = none) (it : Addr) (hne : k.adr ≠ it) (its : Array Value) : Draws prog w A it [it, k.adr] its.size (fun i v => its[i]? = some v) (fun i h => k.st it i h ∧ k.is its h) := by
  cases k with
  | l a => exact Draws.list hh it a hne its
  | t a => exact Draws.tuple hh it a hne its
theorem SK.of {X : Cx} {pins : List (Addr × Obj)} {σ : L2.St} {H : Hp} {s : Shared} (k : SK) {xs : List V} (I : L2.Inv X pins σ H s) (h : k.sq X.K H xs) : ∃ its : List Value, Vals xs its ∧ k.is its.toArray s.heap := by
  cases k with
  | l a => obtain ⟨its, rv, p, _⟩ := I.list h; exact ⟨its, rv, p.isList⟩
  | t a => obtain ⟨its, rv, p, _⟩ := I.tuple h; exact ⟨its, rv, p⟩
theorem SK.inj {X : Cx} {pins : List (Addr × Obj)} {σ : L2.St} {H : Hp} {s : Shared} (k : SK) {xs ys : List V} (I : L2.Inv X pins σ H s) (h : k.sq X.K H xs) (h' : k.sq X.K H ys) : xs = ys := by
  cases k with
  | l a => exact I.list_inj h h'
  | t a => exact I.tuple_inj h h'
theorem SK.keep (k : SK) {it : Addr} {i : Nat} {h h' : Heap} (e : k.st it i h) (kk : ∀ o, h.get? it = some o → h'.get? it = some o) : k.st it i h' := by
  cases k with
  | l a => exact Heap.IsListIter.at e kk
  | t a => exact Heap.IsTupleIter.at e kk
theorem SK.there (k : SK) {it : Addr} {i : Nat} {h : Heap} (e : k.st it i h) : ∃ o, h.get? it = some o ∧ ∀ v, o.data ≠ .cell v := by
  cases k with
  | l a => obtain ⟨o, e, c, d⟩ := e; exact ⟨o, e, fun v z => by rw [d] at z; cases z⟩
  | t a => obtain ⟨o, e, c, d⟩ := e; exact ⟨o, e, fun v z => by rw [d] at z; cases z⟩
end
/-! ### enumerate -/
def ItE (K : PySem.W.Frag) (k0 : Int) (k : SK) : It :=
  ⟨fun i H => ∃ xs x, k.sq K H xs ∧ xs[i]? = some x, fun i H v H' => ∃ T x, v = .ref T ∧ H T = none ∧ H' = upd H T (.tup [.int (k0 + (i : Nat)), x]) ∧ ∀ xs, k.sq K H xs → xs[i]? = some x, fun i H => ∃ xs : List V, k.sq K H xs ∧ xs.length = i⟩
theorem turn_enumE {P : Program} {w : World} {K : PySem.W.Frag} {elts : List Expr} {kk : Nat} {tpos : Pos} (k0 : Int) (k : SK) (e it : Addr) (h1 : e ≠ it) (h2 : e ≠ k.adr) (h3 : k.adr ≠ it) :
    Turn P w K (.Tuple elts kk tpos) (ItE K k0 k) [e, it] e (fun i h => (∃ old, IsEnum h e it (k0 + (i : Int)) old) ∧ k.st it i h) where
  mem := by simp
  obj := fun i h st b hb => by
    obtain ⟨⟨old, he⟩, hi⟩ := st
    have e' : b = e ∨ b = it := by simpa using hb
    rcases e' with z | z
    · rw [z]; exact ⟨_, he, fun v q => nomatch q⟩
    · rw [z]; exact k.there hi
  keep := fun i h h' st kp => let ⟨⟨old, he⟩, hi⟩ := st; ⟨⟨old, kp e (by simp) _ he⟩, k.keep hi fun o q => kp it (by simp) o q⟩
  item := by
    intro X hP hw hK hc i pins s σ H E I hf st hg
    subst hP hw hK
    obtain ⟨he, hit⟩ := st
    obtain ⟨xs, x, hq, hx⟩ := hg
    obtain ⟨its, rv, p⟩ := k.of I hq
    have hi : i < its.toArray.size := by rw [List.size_toArray, ← rv.length]; exact (List.getElem?_eq_some_iff.mp hx).1
    have D := k.draw (prog := X.prog) (w := X.w) (A := X.A.in1) (I.ok.hd hc) it h3 its.toArray
    have W := WalksT.enumFrom k0 D e h1 (by simp [h1, h2]) (by simp)
    have hel : e < s.heap.objs.size := let ⟨_, q⟩ := he; Heap.lt_size q
    have hil : it < s.heap.objs.size := let ⟨_, q, _⟩ := k.there hit; Heap.lt_size q
    refine wpAny_mono (stepT (elts := elts) (kk := kk) (tpos := tpos) (G := fun ys => ys = [.int (k0 + (i : Nat)), x]) W I hf hi ⟨he, hit, p⟩ fun vals ⟨t, y, hy, ev⟩ => ?_) (fun r s1 ⟨u, hu, h⟩ => ⟨u, hu, wpAny_mono h (fun _ s2 ⟨T, ys, eu, g, hT, hsz, I2, st2⟩ => ?_) fun _ _ z => z⟩) fun _ _ z => z
    · obtain ⟨u, hu, ru⟩ := rv.get hx
      have hy' : its[i]? = some y := by simpa using hy
      rw [hu] at hy'
      cases hy'
      subst ev
      exact ⟨[.int (k0 + (i : Nat)), x], .cons ⟨t, rfl⟩ (.cons ru .nil), by simp, rfl⟩
    · subst g
      refine ⟨.ref T, _, I2, eu, ⟨T, x, rfl, hT, rfl, fun ys hy => by rw [k.inj I hy hq]; exact hx⟩, ⟨st2.1, st2.2.1⟩, fun b hb => ?_⟩
      have hb' : b < s.heap.objs.size := by
        have e' : b = e ∨ b = it := by simpa using hb
        rcases e' with z | z
        · rw [z]; exact hel
        · rw [z]; exact hil
      rw [upd_ne (Nat.ne_of_lt (Nat.lt_of_lt_of_le hb' hsz))]
      exact (hf b hb).1
  done := by
    intro X hP hw hK hc i pins s σ H E I hf st hg
    subst hP hw hK
    obtain ⟨he, hit⟩ := st
    obtain ⟨xs, hq, hx⟩ := hg
    obtain ⟨its, rv, p⟩ := k.of I hq
    have hn : its.toArray.size = i := by rw [List.size_toArray, ← rv.length]; exact hx
    have D := k.draw (prog := X.prog) (w := X.w) (A := X.A.in1) (I.ok.hd hc) it h3 its.toArray
    have W := WalksT.enumFrom k0 D e h1 (by simp [h1, h2]) (by simp)
    exact doneT W I hf (by rw [hn]; exact ⟨he, hit, p⟩)
  self := fun A i s Q E st h => let ⟨⟨_, he⟩, _⟩ := st; wpAny_pyIter_enum he h
theorem SK.lt {K : PySem.W.Frag} {its : Array Value} {h : Heap} (k : SK) (p : k.is its h) : k.adr < h.objs.size := by
  cases k with
  | l a => obtain ⟨o, e, _⟩ := p; exact Heap.lt_size e
  | t a => obtain ⟨o, e, _⟩ := p; exact Heap.lt_size e
/-- what a value is walked as: frozen lists, tuples -/
def fzOf : D → Option (List D)
  | .tup ds => some ds
  | .lst ds => some ds
  | .ro ds => some ds
  | _ => none
/-- its iterator, made -/
theorem SK.beg (k : SK) (its : Array Value) : ∃ o, Begins (.ref k.adr) o (k.is its) ∧ ∀ h it, h.get? it = some o → k.st it 0 h := by
  cases k with
  | l a => exact ⟨_, begins_list a its, fun h it e => ⟨_, e, rfl, rfl⟩⟩
  | t a => exact ⟨_, begins_tuple a its, fun h it e => ⟨_, e, rfl, rfl⟩⟩
theorem fzOf_sk {K : PySem.W.Frag} {φ : List Addr} {H : Hp} {d : D} {v : V} {ds : List D} (r : Rep K φ H d v) (e : fzOf d = some ds) : ∃ k : SK, ∃ xs, v = .ref k.adr ∧ Reps K φ H ds xs ∧ ∀ φ' H', Keep φ φ' H H' → k.sq K H' xs := by
  cases r with
  | @tup a xs _ h rr => cases e; exact ⟨.t a, xs, rfl, rr, fun φ' H' k => (h.keep k).sq⟩
  | @lst a xs _ h rr => cases e; exact ⟨.l a, xs, rfl, rr, fun φ' H' k => (h.keep k).sq⟩
  | @ro a xs _ h rr => cases e; exact ⟨.l a, xs, rfl, rr, fun φ' H' k => (h.keep k).sq⟩
  | _ => cases e
def enumL (k0 : Int) (ds : List D) : List D := (List.range ds.length).map fun (i : Nat) => .tup [.int (k0 + (i : Nat)), ds.getD i .non]
theorem enumL_get {k0 : Int} {ds : List D} {i : Nat} {d : D} (e : (enumL k0 ds)[i]? = some d) : ∃ x, ds[i]? = some x ∧ d = .tup [.int (k0 + (i : Nat)), x] := by
  unfold enumL at e
  rw [List.getElem?_map] at e
  by_cases h : i < ds.length
  · rw [List.getElem?_range h] at e
    cases e
    exact ⟨ds[i], List.getElem?_eq_getElem h, by show D.tup [D.int (k0 + (i : Nat)), ds.getD i D.non] = _; rw [List.getD_eq_getElem?_getD, List.getElem?_eq_getElem h]; rfl⟩
  · rw [List.getElem?_eq_none (by rw [List.length_range]; omega)] at e
    cases e
theorem enumL_len {k0 : Int} {ds : List D} : (enumL k0 ds).length = ds.length := by unfold enumL; rw [List.length_map, List.length_range]
theorem walkE {K : PySem.W.Frag} {φ : List Addr} {H : Hp} {k : SK} {xs : List V} {ds : List D} (k0 : Int) (sq : ∀ φ' H', Keep φ φ' H H' → k.sq K H' xs) (r : Reps K φ H ds xs) : WalkD K φ H (ItE K k0 k) (.fz (enumL k0 ds)) := by
  refine ⟨fun i φ' st H' d kp s hi e => ?_, fun φ' st H' kp s _ => ⟨xs, sq _ _ kp, by show _ = (enumL k0 ds).length; rw [enumL_len, r.length]⟩, fun i φ' st H' v H2 d kp s hi e y => ?_⟩
  · obtain ⟨x, e1, _⟩ := enumL_get (show (enumL k0 ds)[i]? = some d from e)
    obtain ⟨v, e2, _⟩ := r.get e1
    exact ⟨xs, v, sq _ _ kp, e2⟩
  · obtain ⟨x, e1, rfl⟩ := enumL_get (show (enumL k0 ds)[i]? = some d from e)
    obtain ⟨u, e2, ru⟩ := r.get e1
    obtain ⟨T, x', rfl, hT, rfl, f⟩ := y
    have e3 := f xs (sq _ _ kp)
    rw [e2] at e3
    cases e3
    exact ⟨Keep.fresh hT, s.fresh hT, .tup (.inl ⟨upd_same, s.notin hT⟩) (.cons (.int _) (.cons ((ru.keep kp).keep (Keep.fresh hT)) .nil))⟩
def enumF1 : List D → Sto → Res Src
  | [d], st => match fzOf d with
    | some ds => .ok (.fz (enumL 0 ds)) st
    | none => .stuck
  | _, _ => .stuck
def enumF : List D → Sto → Res Src
  | [d, .int k], st => if -(2 ^ 63) ≤ k ∧ k < 2 ^ 63 then (match fzOf d with
    | some ds => .ok (.fz (enumL k ds)) st
    | none => .stuck) else .stuck
  | _, _ => .stuck
set_option maxHeartbeats 4000000 in
theorem meets_enum1 {v : Value} {o : Obj} {H : Heap → Prop} (B : Begins v o H) :
    Meets (Builtin.«enumerate.__new__» ⟨[.type "enumerate", v], []⟩) (fun _ R s => H s.heap ∧
      R (.ok (.ret (.ref (s.heap.push o).objs.size))) { s with heap := (s.heap.push o).push { cls := .type "enumerate", data := .fields #[.none, .bool false, .ref s.heap.objs.size, rawInt 0, .none, .none] } }) :=
  .of_wp fun prog w A R s h => by
    obtain ⟨hp, g, d, tk, os⟩ := s; obtain ⟨h1, h⟩ := h
    have hsub := sub_enumerate
    have q1 : ∀ {A' : Around} {E : Value → Shared → Prop} {Q : Value → Shared → Prop}, Q (.ref hp.objs.size) ⟨hp.push o, g, d, tk, os⟩ → wpAny (model prog w) A' (pyIter v) Q E ⟨hp, g, d, tk, os⟩ :=
      fun q => B.iter prog w _ _ ⟨hp, g, d, tk, os⟩ _ h1 q
    wp_walk using q1
    refine wpAny_stack_any fun st => wpAny_pure ?_
    split
    · rename_i c _ _ _ _ _
      cases (c == Value.type "enumerate")
      · wp_walk using q1
        exact ⟨_, rfl, h⟩
      · wp_walk using q1
        exact ⟨_, rfl, h⟩
    · wp_walk using q1
      exact ⟨_, rfl, h⟩
theorem enum_begins1 {prog : Program} {w : World} {A : Around} {E : Value → Shared → Prop} {s : Shared} {v : Value} {o : Obj} {H : Heap → Prop} {Q : Value → Shared → Prop} (B : Begins v o H) (h1 : H s.heap)
    (h : ∀ h', IsEnum h' (s.heap.objs.size + 1) s.heap.objs.size 0 .none → h'.get? s.heap.objs.size = some o → h'.objs.size = s.heap.objs.size + 2 →
      (∀ b o, s.heap.get? b = some o → h'.get? b = some o) → Q (.ref (s.heap.objs.size + 1)) { s with heap := h' }) :
    wpAny (model prog w) A (call (.type "enumerate") [v]) Q E s := by
  refine callType_new F.called_enumerate (by decide) (F.typeCall_enumerate_1 _) (F.newCall_enumerate_1 _) (fun obj => F.args_object_init_2 obj _) F.entry_enumerate_new (meets_enum1 B) ⟨h1, ?_⟩
  have hz : (s.heap.push o).objs.size = s.heap.objs.size + 1 := Heap.size_push ..
  show _ ∧ _
  rw [hz]
  have he : IsEnum ((s.heap.push o).push { cls := .type "enumerate", data := .fields #[.none, .bool false, .ref s.heap.objs.size, rawInt 0, .none, .none] }) (s.heap.objs.size + 1) s.heap.objs.size 0 .none := by
    have := Heap.get?_push_size (s.heap.push o) (o := { cls := .type "enumerate", data := .fields #[.none, .bool false, .ref s.heap.objs.size, rawInt 0, .none, .none] }) rfl
    rw [hz] at this; exact this
  refine ⟨⟨_, he, rfl⟩, h _ he (Heap.get?_push_of_some _ (Heap.get?_push_size _ B.free)) (by rw [Heap.size_push, hz]) fun b o x => Heap.get?_push_of_some _ (Heap.get?_push_of_some _ x)⟩

/-! ### zip -/
def ItZ (K : PySem.W.Frag) (k1 k2 : SK) : It :=
  ⟨fun i H => ∃ xs ys x y, k1.sq K H xs ∧ k2.sq K H ys ∧ xs[i]? = some x ∧ ys[i]? = some y,
    fun i H v H' => ∃ T x y, v = .ref T ∧ H T = none ∧ H' = upd H T (.tup [x, y]) ∧ (∀ xs, k1.sq K H xs → xs[i]? = some x) ∧ ∀ ys, k2.sq K H ys → ys[i]? = some y,
    fun i H => ∃ xs ys : List V, k1.sq K H xs ∧ k2.sq K H ys ∧ i = min xs.length ys.length⟩
theorem turn_zipE {P : Program} {w : World} {K : PySem.W.Frag} {elts : List Expr} {kk : Nat} {tpos : Pos} (k1 k2 : SK) {z TI TO i1 i2 : Addr} (S : ZipSep2 z TI TO i1 i2 [i1, k1.adr] [i2, k2.adr]) (n1 : k1.adr ≠ i1) (n2 : k2.adr ≠ i2) :
    Turn P w K (.Tuple elts kk tpos) (ItZ K k1 k2) [z, TI, TO, i1, i2] z (fun i h => IsZip h z TI TO .none ∧ IsTupOf2 h TI (.ref i1) (.ref i2) ∧ (∃ a1 a2, IsTupOf2 h TO a1 a2) ∧ k1.st i1 i h ∧ k2.st i2 i h) where
  mem := by simp
  obj := fun i h st b hb => by
    obtain ⟨hz, hTI, ⟨a1, a2, hTO⟩, s1, s2⟩ := st
    have e' : b = z ∨ b = TI ∨ b = TO ∨ b = i1 ∨ b = i2 := by simpa using hb
    rcases e' with q | q | q | q | q
    · rw [q]; exact ⟨_, hz, fun v q => nomatch q⟩
    · rw [q]; exact ⟨_, hTI, fun v q => nomatch q⟩
    · rw [q]; exact ⟨_, hTO, fun v q => nomatch q⟩
    · rw [q]; exact k1.there s1
    · rw [q]; exact k2.there s2
  keep := fun i h h' st kp => let ⟨hz, hTI, ⟨a1, a2, hTO⟩, s1, s2⟩ := st
    ⟨kp z (by simp) _ hz, kp TI (by simp) _ hTI, ⟨a1, a2, kp TO (by simp) _ hTO⟩, k1.keep s1 fun o q => kp i1 (by simp) o q, k2.keep s2 fun o q => kp i2 (by simp) o q⟩
  item := by
    intro X hP hw hK hc i pins s σ H E I hf st hg
    subst hP hw hK
    obtain ⟨hz, hTI, hTO, s1, s2⟩ := st
    obtain ⟨xs, ys, x, y, hq1, hq2, hx, hy⟩ := hg
    obtain ⟨its1, rv1, p1⟩ := k1.of I hq1
    obtain ⟨its2, rv2, p2⟩ := k2.of I hq2
    have hi : i < min its1.toArray.size its2.toArray.size := by
      rw [List.size_toArray, List.size_toArray, ← rv1.length, ← rv2.length]
      have a1 := (List.getElem?_eq_some_iff.mp hx).1
      have a2 := (List.getElem?_eq_some_iff.mp hy).1
      omega
    have D1 := k1.draw (prog := X.prog) (w := X.w) (A := X.A.in1) (I.ok.hd hc) i1 n1 its1.toArray
    have D2 := k2.draw (prog := X.prog) (w := X.w) (A := X.A.in1) (I.ok.hd hc) i2 n2 its2.toArray
    have W := WalksT.zipD2 S D1 D2
    refine wpAny_mono (stepT (elts := elts) (kk := kk) (tpos := tpos) (G := fun zs => zs = [x, y]) W I (fun b hb => hf b (by
        have e' : b = z ∨ b = TO ∨ b = i1 ∨ b = i2 := by simpa using hb
        rcases e' with q | q | q | q <;> simp [q])) hi ⟨hz, hTI, hTO, ⟨s1, p1⟩, ⟨s2, p2⟩⟩ fun vals ⟨y1, y2, h1, h2, ev⟩ => ?_) (fun r t1 ⟨u, hu, h⟩ => ⟨u, hu, wpAny_mono h (fun _ t2 ⟨T, zs, eu, g, hT, hsz, I2, st2⟩ => ?_) fun _ _ z => z⟩) fun _ _ z => z
    · obtain ⟨u1, hu1, ru1⟩ := rv1.get hx
      obtain ⟨u2, hu2, ru2⟩ := rv2.get hy
      have e1 : its1[i]? = some y1 := by simpa using h1
      have e2 : its2[i]? = some y2 := by simpa using h2
      rw [hu1] at e1; cases e1
      rw [hu2] at e2; cases e2
      subst ev
      exact ⟨[x, y], .cons ru1 (.cons ru2 .nil), by simp, rfl⟩
    · subst g
      obtain ⟨q1, q2, q3, q4, q5⟩ := st2
      refine ⟨.ref T, _, I2, eu, ⟨T, x, y, rfl, hT, rfl, fun zs hz' => by rw [k1.inj I hz' hq1]; exact hx, fun zs hz' => by rw [k2.inj I hz' hq2]; exact hy⟩, ⟨q1, q2, q3, q4.1, q5.1⟩, fun b hb => ?_⟩
      have hb' : b < s.heap.objs.size := by
        have e' : b = z ∨ b = TI ∨ b = TO ∨ b = i1 ∨ b = i2 := by simpa using hb
        obtain ⟨a1, a2, hTO⟩ := hTO
        rcases e' with q | q | q | q | q
        · rw [q]; exact Heap.lt_size hz
        · rw [q]; exact Heap.lt_size hTI
        · rw [q]; exact Heap.lt_size hTO
        · rw [q]; exact let ⟨_, q, _⟩ := k1.there s1; Heap.lt_size q
        · rw [q]; exact let ⟨_, q, _⟩ := k2.there s2; Heap.lt_size q
      rw [upd_ne (Nat.ne_of_lt (Nat.lt_of_lt_of_le hb' hsz))]
      exact (hf b hb).1
  done := by
    intro X hP hw hK hc i pins s σ H E I hf st hg
    subst hP hw hK
    obtain ⟨hz, hTI, hTO, s1, s2⟩ := st
    obtain ⟨xs, ys, hq1, hq2, hn⟩ := hg
    obtain ⟨its1, rv1, p1⟩ := k1.of I hq1
    obtain ⟨its2, rv2, p2⟩ := k2.of I hq2
    have hn : min its1.toArray.size its2.toArray.size = i := by rw [List.size_toArray, List.size_toArray, ← rv1.length, ← rv2.length]; exact hn.symm
    have D1 := k1.draw (prog := X.prog) (w := X.w) (A := X.A.in1) (I.ok.hd hc) i1 n1 its1.toArray
    have D2 := k2.draw (prog := X.prog) (w := X.w) (A := X.A.in1) (I.ok.hd hc) i2 n2 its2.toArray
    have W := WalksT.zipD2 S D1 D2
    exact doneT W I (fun b hb => hf b (by
        have e' : b = z ∨ b = TO ∨ b = i1 ∨ b = i2 := by simpa using hb
        rcases e' with q | q | q | q <;> simp [q])) (by rw [hn]; exact ⟨hz, hTI, hTO, ⟨s1, p1⟩, ⟨s2, p2⟩⟩)
  self := fun A i s Q E st h => wpAny_pyIter_zip st.1 h
section
variable {X : Cx} {W : XK} {fs : FA} {elts : List Expr} {kk : Nat} {tpos p pos : Pos}
/-- enumerate(v, k) -/
theorem di_enum2 {e e2 : Expr} (hg : Gl X "enumerate") (hm : X.mg "enumerate" = none) (ha : DA X W [e, e2] fs) (hs : starEach [e, e2] X.env = (false, eval e X.env) :: starEach [e2] X.env := by rfl) (hpl : (backTo pos (starEach [e2] X.env)).any (·.1) = false := by rfl) :
    DI X W (.Tuple elts kk tpos) (.Call (.Name "enumerate" p) [e, e2] [] pos) (i_call enumF fs) := by
  refine ⟨fun pins s σ H R I ⟨φ, ρ, st, sr, er, pp⟩ => ?_⟩
  refine PyProof.Rows.Call_ (ld_blt I hg hm PyProof.Rows.boot_enumerate (PyProof.Rows.callWith_type1 (thn (ha.run pos pins s σ H _ I (runIA sr er pp)) fun us s1 ⟨vs, H1, I1, r1, φ1, st1, ds, s1r, rs, p1⟩ => ?_) hs hpl))
  cases rs with
  | nil => exact p1.elim
  | cons ra rs => cases rs with
    | nil => exact p1.elim
    | cons rb rs => cases rs with
      | cons _ _ => cases rb <;> exact p1.elim
      | nil =>
        rename_i d v _ _
        cases rb with
        | int k =>
          unfold enumF at p1
          simp only at p1
          by_cases hk : -(2 ^ 63) ≤ k ∧ k < 2 ^ 63
          · rw [if_pos hk] at p1
            cases hz : fzOf d with
            | none => rw [hz] at p1; exact p1.elim
            | some es =>
              rw [hz] at p1
              obtain ⟨sk, xs, rfl, rr, sq⟩ := fzOf_sk ra hz
              cases r1 with
              | cons q1 r1 => cases r1 with
                | cons q2 r1 =>
                  cases r1
                  obtain ⟨t, rfl⟩ := q2
                  cases q1
                  obtain ⟨its, rv, pis⟩ := sk.of I1 (sq _ _ .refl)
                  obtain ⟨o, B, hb⟩ := sk.beg its.toArray
                  have hlt := sk.lt (K := X.K) pis
                  refine enum_begins B pis hk.1 hk.2 fun h' he hit hsz hkp => wpAny_pyIter_enum he ?_
                  have I2 : L2.Inv X pins σ H1 { s1 with heap := h' } := I1.kept (t' := s1.toks) hkp
                  refine ⟨s1.heap.objs.size + 1, [s1.heap.objs.size + 1, s1.heap.objs.size], _, _, H1, rfl, I2, turn_enumE k sk (s1.heap.objs.size + 1) s1.heap.objs.size (Nat.succ_ne_self _) (Nat.ne_of_gt (Nat.lt_succ_of_lt hlt)) (Nat.ne_of_lt hlt), ⟨⟨.none, by simpa using he⟩, hb _ _ hit⟩, fun b hb' => ?_, p1 φ1 H1 _ .refl s1r (walkE k sq rr)⟩
                  have e' : b = s1.heap.objs.size + 1 ∨ b = s1.heap.objs.size := by simpa using hb'
                  have hle : s1.heap.objs.size ≤ b := by
                    rcases e' with z | z
                    · rw [z]; exact Nat.le_add_right _ _
                    · rw [z]; exact Nat.le_refl _
                  exact I1.fpOk hle (I1.hok.fresh hle)
          · rw [if_neg hk] at p1; exact p1.elim
        | _ => exact p1.elim
/-- enumerate(v) -/
theorem di_enum1 {e : Expr} (hg : Gl X "enumerate") (hm : X.mg "enumerate" = none) (ha : DA X W [e] fs) (hs : starEach [e] X.env = [(false, eval e X.env)] := by rfl) :
    DI X W (.Tuple elts kk tpos) (.Call (.Name "enumerate" p) [e] [] pos) (i_call enumF1 fs) := by
  refine ⟨fun pins s σ H R I ⟨φ, ρ, st, sr, er, pp⟩ => ?_⟩
  refine PyProof.Rows.Call_ (ld_blt I hg hm PyProof.Rows.boot_enumerate (PyProof.Rows.callWith_type1 (thn (ha.run pos pins s σ H _ I (runIA sr er pp)) fun us s1 ⟨vs, H1, I1, r1, φ1, st1, ds, s1r, rs, p1⟩ => ?_) hs rfl))
  cases rs with
  | nil => exact p1.elim
  | cons ra rs => cases rs with
    | cons _ _ => exact p1.elim
    | nil =>
      rename_i d v
      unfold enumF1 at p1
      simp only at p1
      cases hz : fzOf d with
      | none => rw [hz] at p1; exact p1.elim
      | some es =>
        rw [hz] at p1
        obtain ⟨sk, xs, rfl, rr, sq⟩ := fzOf_sk ra hz
        cases r1 with
        | cons q1 r1 =>
          cases r1
          cases q1
          obtain ⟨its, rv, pis⟩ := sk.of I1 (sq _ _ .refl)
          obtain ⟨o, B, hb⟩ := sk.beg its.toArray
          have hlt := sk.lt (K := X.K) pis
          refine enum_begins1 B pis fun h' he hit hsz hkp => wpAny_pyIter_enum he ?_
          have I2 : L2.Inv X pins σ H1 { s1 with heap := h' } := I1.kept (t' := s1.toks) hkp
          refine ⟨s1.heap.objs.size + 1, [s1.heap.objs.size + 1, s1.heap.objs.size], _, _, H1, rfl, I2, turn_enumE 0 sk (s1.heap.objs.size + 1) s1.heap.objs.size (Nat.succ_ne_self _) (Nat.ne_of_gt (Nat.lt_succ_of_lt hlt)) (Nat.ne_of_lt hlt), ⟨⟨.none, by simpa using he⟩, hb _ _ hit⟩, fun b hb' => ?_, p1 φ1 H1 _ .refl s1r (walkE 0 sq rr)⟩
          have e' : b = s1.heap.objs.size + 1 ∨ b = s1.heap.objs.size := by simpa using hb'
          have hle : s1.heap.objs.size ≤ b := by
            rcases e' with z | z
            · rw [z]; exact Nat.le_add_right _ _
            · rw [z]; exact Nat.le_refl _
          exact I1.fpOk hle (I1.hok.fresh hle)
/-- zip(v, w) -/
def zipL (ds es : List D) : List D := List.zipWith (fun a b => .tup [a, b]) ds es
def zipF : List D → Sto → Res Src
  | [d, e], st => match fzOf d, fzOf e with
    | some ds, some es => .ok (.fz (zipL ds es)) st
    | _, _ => .stuck
  | _, _ => .stuck
theorem walkZ {K : PySem.W.Frag} {φ : List Addr} {H : Hp} {k1 k2 : SK} {xs ys : List V} {ds es : List D} (sq1 : ∀ φ' H', Keep φ φ' H H' → k1.sq K H' xs) (r1 : Reps K φ H ds xs) (sq2 : ∀ φ' H', Keep φ φ' H H' → k2.sq K H' ys) (r2 : Reps K φ H es ys) :
    WalkD K φ H (ItZ K k1 k2) (.fz (zipL ds es)) := by
  have get : ∀ {i : Nat} {d : D}, (zipL ds es)[i]? = some d → ∃ a b, ds[i]? = some a ∧ es[i]? = some b ∧ d = D.tup [a, b] := fun {i d} e => by
    unfold zipL at e
    rw [List.getElem?_zipWith] at e
    cases h1 : ds[i]? with
    | none => rw [h1] at e; cases e
    | some a =>
      cases h2 : es[i]? with
      | none => rw [h1, h2] at e; cases e
      | some b => rw [h1, h2] at e; cases e; exact ⟨a, b, rfl, rfl, rfl⟩
  refine ⟨fun i φ' st H' d kp s hi e => ?_, fun φ' st H' kp s _ => ⟨xs, ys, sq1 _ _ kp, sq2 _ _ kp, by show (zipL ds es).length = _; unfold zipL; rw [List.length_zipWith, r1.length, r2.length]⟩, fun i φ' st H' v H2 d kp s hi e y => ?_⟩
  · obtain ⟨a, b, e1, e2, rfl⟩ := get e
    obtain ⟨u, q1, _⟩ := r1.get e1
    obtain ⟨v, q2, _⟩ := r2.get e2
    exact ⟨xs, ys, u, v, sq1 _ _ kp, sq2 _ _ kp, q1, q2⟩
  · obtain ⟨a, b, e1, e2, rfl⟩ := get e
    obtain ⟨u, q1, ru⟩ := r1.get e1
    obtain ⟨u2, q2, ru2⟩ := r2.get e2
    obtain ⟨T, x', y', rfl, hT, rfl, f, g⟩ := y
    have e3 := f xs (sq1 _ _ kp)
    have e4 := g ys (sq2 _ _ kp)
    rw [q1] at e3; cases e3
    rw [q2] at e4; cases e4
    exact ⟨Keep.fresh hT, s.fresh hT, .tup (.inl ⟨upd_same, s.notin hT⟩) (.cons ((ru.keep kp).keep (Keep.fresh hT)) (.cons ((ru2.keep kp).keep (Keep.fresh hT)) .nil))⟩
theorem di_zip {e e2 : Expr} (hg : Gl X "zip") (hm : X.mg "zip" = none) (ha : DA X W [e, e2] fs) (hs : starEach [e, e2] X.env = (false, eval e X.env) :: starEach [e2] X.env := by rfl) (hpl : (backTo pos (starEach [e2] X.env)).any (·.1) = false := by rfl) :
    DI X W (.Tuple elts kk tpos) (.Call (.Name "zip" p) [e, e2] [] pos) (i_call zipF fs) := by
  refine ⟨fun pins s σ H R I ⟨φ, ρ, st, sr, er, pp⟩ => ?_⟩
  refine PyProof.Rows.Call_ (ld_blt I hg hm PyProof.Rows.boot_zip (PyProof.Rows.callWith_type1 (thn (ha.run pos pins s σ H _ I (runIA sr er pp)) fun us s1 ⟨vs, H1, I1, r1, φ1, st1, ds, s1r, rs, p1⟩ => ?_) hs hpl))
  cases rs with
  | nil => exact p1.elim
  | cons ra rs => cases rs with
    | nil => exact p1.elim
    | cons rb rs => cases rs with
      | cons _ _ => exact p1.elim
      | nil =>
        rename_i d v d2 v2
        unfold zipF at p1
        simp only at p1
        cases hz : fzOf d with
        | none => rw [hz] at p1; exact p1.elim
        | some es =>
          cases hz2 : fzOf d2 with
          | none => rw [hz, hz2] at p1; exact p1.elim
          | some es2 =>
            rw [hz, hz2] at p1
            obtain ⟨sk, xs, rfl, rr, sq⟩ := fzOf_sk ra hz
            obtain ⟨sk2, ys, rfl, rr2, sq2⟩ := fzOf_sk rb hz2
            cases r1 with
            | cons q1 r1 => cases r1 with
              | cons q2 r1 =>
                cases r1
                cases q1
                cases q2
                obtain ⟨its, rv, pis⟩ := sk.of I1 (sq _ _ .refl)
                obtain ⟨its2, rv2, pis2⟩ := sk2.of I1 (sq2 _ _ .refl)
                obtain ⟨o, B, hb⟩ := sk.beg its.toArray
                obtain ⟨o2, B2, hb2⟩ := sk2.beg its2.toArray
                have hlt := sk.lt (K := X.K) pis
                have hlt2 := sk2.lt (K := X.K) pis2
                refine zip_begins2 B B2 pis pis2 fun h' hzz hTI hTO hit hit2 hsz hkp => wpAny_pyIter_zip hzz ?_
                have I2 : L2.Inv X pins σ H1 { s1 with heap := h' } := I1.kept (t' := s1.toks) hkp
                have S := zip_sep2 (N := s1.heap.objs.size) (fp1 := [sk.adr]) (fp2 := [sk2.adr]) (fun b hb => by rw [List.mem_singleton.mp hb]; exact hlt) (fun b hb => by rw [List.mem_singleton.mp hb]; exact hlt2)
                refine ⟨s1.heap.objs.size + 4, [s1.heap.objs.size + 4, s1.heap.objs.size + 2, s1.heap.objs.size + 3, s1.heap.objs.size, s1.heap.objs.size + 1], _, _, H1, rfl, I2, turn_zipE sk sk2 S (Nat.ne_of_lt hlt) (Nat.ne_of_lt (Nat.lt_succ_of_lt hlt2)), ⟨hzz, hTI, ⟨_, _, hTO⟩, hb _ _ hit, hb2 _ _ hit2⟩, fun c hcm => ?_, p1 φ1 H1 _ .refl s1r (walkZ sq rr sq2 rr2)⟩
                have e' : c = s1.heap.objs.size + 4 ∨ c = s1.heap.objs.size + 2 ∨ c = s1.heap.objs.size + 3 ∨ c = s1.heap.objs.size ∨ c = s1.heap.objs.size + 1 := by simpa using hcm
                have hle : s1.heap.objs.size ≤ c := by
                  rcases e' with z | z | z | z | z
                  · rw [z]; exact Nat.le_add_right _ _
                  · rw [z]; exact Nat.le_add_right _ _
                  · rw [z]; exact Nat.le_add_right _ _
                  · rw [z]; exact Nat.le_refl _
                  · rw [z]; exact Nat.le_add_right _ _
                exact I1.fpOk hle (I1.hok.fresh hle)
end
end DL

/-! DL8: calls with keywords; the law's end. -/
namespace DL
open PySem PySem.Spec L2

/-! ### calls with keywords -/
def pick {α : Type} (is : List Nat) (l : List α) : List α := is.filterMap fun i => l[i]?
theorem pick_vals : ∀ (is : List Nat) {vs : List V} {us : List Value}, Vals vs us → Vals (pick is vs) (pick is us)
  | [], _, _, _ => .nil
  | i :: is, vs, us, r => by
    unfold pick
    rw [List.filterMap_cons, List.filterMap_cons]
    cases h : vs[i]? with
    | none => rw [r.none_of h]; exact pick_vals is r
    | some v =>
      obtain ⟨u, e, ru⟩ := r.get h
      rw [e]
      exact .cons ru (pick_vals is r)
theorem pick_reps {K : PySem.W.Frag} {φ : List Addr} {H : Hp} : ∀ (is : List Nat) {ds : List D} {vs : List V}, Reps K φ H ds vs → Reps K φ H (pick is ds) (pick is vs)
  | [], _, _, _ => .nil
  | i :: is, ds, vs, r => by
    unfold pick
    rw [List.filterMap_cons, List.filterMap_cons]
    cases h : ds[i]? with
    | none =>
      have h2 : vs[i]? = none := List.getElem?_eq_none_iff.mpr (by rw [← r.length]; exact List.getElem?_eq_none_iff.mp h)
      rw [h2]; exact pick_reps is r
    | some d =>
      obtain ⟨v, e, rv⟩ := r.get h
      rw [e]
      exact .cons rv (pick_reps is r)
section
variable {K : PySem.W.Frag} {x qual : Str} {params : Arguments} {body : List Stmt} {scope : Scope} {kws : List (Str × V)} {f : Addr} {fd : FuncData} {ps : List Str}
theorem kb_of (F : FunD K x qual params body scope [] kws f fd) (n : Nat) (ks : List Str) (is : List Nat)
    (h : ∀ (kV doc pm : Value) (an : Option Addr) (cdv ct : Value) (us ws : List Value), us.length = n → ws.length = ks.length → bindArgs (PySem.W.fnOf x qual params body scope .none kV doc pm an cdv ct) ⟨us, ks.zip ws⟩ = pure (ps.zip (pick is (us ++ ws)))) :
    KBn K fd ps n ks (fun us ws => pick is (us ++ ws)) (fun vs zs => pick is (vs ++ zs)) := by
  obtain ⟨oc, od, dV, kV, doc, pm, an, cdv, ct, osl, rfl, lk, hcd, hD, hK⟩ := F.ex
  rcases hD with ⟨_, rfl⟩ | ⟨e, _⟩
  · exact ⟨fun s us ws _ l1 l2 => .of_eq (h kV doc pm an cdv ct us ws l1 l2), fun r1 r2 => pick_vals is (r1.append r2)⟩
  · exact absurd rfl e
theorem b_of (F : FunD K x qual params body scope [] kws f fd)
    (h : ∀ (kV doc pm : Value) (an : Option Addr) (cdv ct : Value) (us : List Value), us.length = ps.length → bindArgs (PySem.W.fnOf x qual params body scope .none kV doc pm an cdv ct) ⟨us, []⟩ = pure (ps.zip us)) : Binds K fd ps [] := F.bindsN h
end
abbrev DK (X : Cx) (W : XK) (kws : List Keyword) (fs : List FE) : Prop := PK X kws (tA X.K W (evs fs))
theorem PK.monoT {X : Cx} {e : List Keyword} {t t' : TA} (h : PK X e t) (m : ∀ σ H Q, t' σ H Q → t σ H Q) : PK X e t' := ⟨fun pos pins s σ H Q I q => h.run pos pins s σ H Q I (m σ H Q q)⟩
section
variable {X : Cx} {W : XK} {e : Expr} {es : List Expr} {fe : FE} {fs ks : List FE} {kws : List Keyword} {nm : Option Str} {kpos pos p : Pos}
theorem dk_nil : DK X W [] [] := PK.monoT pk_nil fun σ H Q ⟨φ, ρ, st, s, er, p⟩ => p φ H [] .refl s .nil
theorem dk_cons (ha : DE X W e fe) (hr : DK X W kws fs) : DK X W (⟨nm, e, kpos⟩ :: kws) (fe :: fs) :=
  PK.monoT (pk_cons ha hr) fun σ H Q ⟨φ, ρ, st, s, er, p⟩ => tE_mono (fun x H1 ⟨φ1, st1, d1, a1, p1⟩ => by
    refine ⟨φ1, ρ, st1, a1.sr, a1.er, ?_⟩
    obtain ⟨s1, e1, r⟩ := a1
    cases r with
    | cons r1 _ =>
      cases h : evs fs ρ st1 with
      | ok ds st2 => rw [h] at p1; exact fun φ2 H2 vs k2 s2 rs => p1 φ2 H2 (x :: vs) k2 s2 (.cons (r1.keep k2) rs)
      | err x st2 => rw [h] at p1; exact p1
      | stuck => rw [h] at p1; exact p1) (runEs (At.of s er) p)
def e_callK (m : List D → Sto → Res D) (is : List Nat) (fs ks : List FE) : FE := fun ρ st => (evs fs ρ st).bind fun ds st1 => (evs ks ρ st1).bind fun zs st2 => m (pick is (ds ++ zs)) st2
theorem runK {K : PySem.W.Frag} {φ : List Addr} {ρ : En} {st : Sto} {σ : L2.St} {H : Hp} {Q : VK} {is : List Nat} {m : List D → Sto → Res D} (s : SR K φ st H) (er : EnvR K φ H ρ σ) (p : PostE K W φ H Q (e_callK m is fs ks ρ st)) :
    tA K W (evs fs) σ H fun vs H1 => tA K W (evs ks) σ H1 fun zs H2 => vs.length = fs.length ∧ zs.length = ks.length ∧ ∃ φ2 st2 ds, SR K φ2 st2 H2 ∧ Reps K φ2 H2 ds (pick is (vs ++ zs)) ∧ PostE K W φ2 H2 Q (m ds st2) := by
  refine ⟨φ, ρ, st, s, er, ?_⟩
  unfold e_callK at p
  cases h : evs fs ρ st with
  | err x st1 => rw [h] at p; exact p
  | stuck => rw [h] at p; exact p
  | ok ds st1 =>
    rw [h] at p
    intro φ1 H1 vs k1 s1 r1
    refine ⟨φ1, ρ, st1, s1, er.keep k1, ?_⟩
    have p : PostE K W φ H Q ((evs ks ρ st1).bind fun zs st2 => m (pick is (ds ++ zs)) st2) := p
    cases h2 : evs ks ρ st1 with
    | err x st2 => rw [h2] at p; exact PostEs.trans k1 (r := .err x st2) p
    | stuck => rw [h2] at p; exact p
    | ok zs st2 =>
      rw [h2] at p
      intro φ2 H2 ws k2 s2 r2
      exact ⟨by rw [← r1.length, evs_len h], by rw [← r2.length, evs_len h2], φ2, st2, _, s2, pick_reps is ((r1.keep k2).append r2), PostE.trans (k1.trans k2) p⟩
variable {CX : CXT} {k n : Nat} {f : Addr} {fd : FuncData} {ps kn : List Str} {m : List D → Sto → Res D} {x : Str} {is : List Nat}
theorem de_callK (F : FnOk X.prog X.w X.K X.mg X.base CX k f fd ps (spD X.K n (arity n m))) (hr : Room k X.A) (hg : Gl X x) (hm : X.mg x = some (.ref f)) (hk : PySem.W.keepIn X.K (.ref f) = true)
    (hb : KBn X.K fd ps fs.length kn (fun us ws => pick is (us ++ ws)) (fun vs zs => pick is (vs ++ zs))) (hx : Passes CX X W) (hl : kn.length = ks.length)
    (ha : DA X W (e :: es) (evs fs)) (hkw : DK X W kws ks) (hall : (backToKw pos (keywordEach kws X.env)).all (·.1.isSome) = true := by rfl) (hks : (backToKw pos (keywordEach kws X.env)).filterMap (·.1) = kn := by rfl)
    (hdb : (x == ("__debug__" : Str)) = false := by decide) (he : starEach (e :: es) X.env = (false, eval e X.env) :: starEach es X.env := by rfl)
    (hpl : ((backTo pos (starEach (e :: es) X.env)).any (·.1) || (backToKw pos (keywordEach kws X.env)).any (·.1.isNone)) = false := by rfl) :
    DE X W (.Call (.Name x p) (e :: es) kws pos) (e_callK (arity n m) is fs ks) :=
  PE.monoT (pe_callN F hr hg hm hk hb hx ha hkw hall hks hdb he hpl) fun σ H Q ⟨φ, ρ, st, s, er, p⟩ => tA_mono (fun vs H1 h1 => tA_mono (fun zs H2 ⟨l1, l2, φ2, st2, ds, s2, r2, p2⟩ => ⟨l1, by rw [hl]; exact l2, by rw [← r2.length]; exact (post_arity p2).1, φ2, st2, ds, s2, r2, p2⟩) h1) (runK s er p)
theorem de_callK0 (F : FnOk X.prog X.w X.K X.mg X.base CX k f fd ps (spD X.K n (arity n m))) (hr : Room k X.A) (hg : Gl X x) (hm : X.mg x = some (.ref f)) (hk : PySem.W.keepIn X.K (.ref f) = true)
    (hb : KBn X.K fd ps 0 kn (fun us ws => pick is (us ++ ws)) (fun vs zs => pick is (vs ++ zs))) (hx : Passes CX X W) (hl : kn.length = ks.length)
    (hkw : DK X W kws ks) (hall : (backToKw pos (keywordEach kws X.env)).all (·.1.isSome) = true := by rfl) (hks : (backToKw pos (keywordEach kws X.env)).filterMap (·.1) = kn := by rfl)
    (hdb : (x == ("__debug__" : Str)) = false := by decide) (hpl : ((backTo pos (starEach [] X.env)).any (·.1) || (backToKw pos (keywordEach kws X.env)).any (·.1.isNone)) = false := by rfl) :
    DE X W (.Call (.Name x p) [] kws pos) (e_callK (arity n m) is [] ks) := by
  refine ⟨fun pins s σ H Q I ⟨φ, ρ, st, sr, er, pp⟩ => ?_⟩
  refine wpAny_Call_Name_kw (ld_glob I hg hm ?_ hdb)
  refine PySem.W.callWith_KW0 (h₀ := X.base) I.ok.mod.kin hk hall ?_ hpl
  obtain ⟨φ0, ρ0, st0, s0, e0, p0⟩ := runK (fs := []) sr er pp
  have p0 := p0 φ0 H [] .refl s0 .nil
  refine thn (hkw.run pos pins s σ H _ I p0) fun ws s2 ⟨zs, H2, I2, rz, l1, l2, φ2, st2, ds, s2', r2, p2⟩ => ⟨I2.kIn, ?_⟩
  rw [hks]
  exact run_fnN (us := []) (vs := []) F hr hb hx I2 .nil rz rfl (by rw [hl]; exact l2) ⟨by rw [← r2.length]; exact (post_arity p2).1, φ2, st2, ds, s2', r2, p2⟩
end

/-! ### fn_ok with its numbers said -/
section
variable {P : Program} {w : World} {K : PySem.W.Frag} {mg : Str → Option Value} {base : Heap} {x qual : Str} {params : Arguments} {body : List Stmt} {scope : Scope} {dvs : List V} {kws : List (Str × V)} {f : Addr} {fd : FuncData} {N ps : List Str} {k nn np : Nat} {g : FS}
theorem fn_okM (F : FunD K x qual params body scope dvs kws f fd) (S : FnScope N ps scope) (h1 : N.length = nn) (h2 : ps.length = np)
    (hb : ∀ (cdv : Value) (A : Around) (outer : List Env) (s : Shared) (H : Hp) (E : XK), Room k (cxD P w K mg base N qual scope f cdv A outer s H E).A → Passes (L2.CX P w) (cxD P w K mg base N qual scope f cdv A outer s H E) E →
      PassesOwn (model P w) (cxD P w K mg base N qual scope f cdv A outer s H E).A (cxD P w K mg base N qual scope f cdv A outer s H E).env (cxD P w K mg base N qual scope f cdv A outer s H E).xe →
      DSs (cxD P w K mg base N qual scope f cdv A outer s H E) E body g) :
    FnOk P w K mg base (L2.CX P w) (k + 1) f fd ps (spD K np (arity np (fnM nn g))) := by
  subst h1 h2
  exact fn_ok (tr := false) F S hb
theorem fn_okT (F : FunD K x qual params body scope dvs kws f fd) (S : FnScope N ps scope) (h1 : N.length = nn) (h2 : ps.length = np)
    (hb : ∀ (cdv : Value) (A : Around) (outer : List Env) (s : Shared) (H : Hp) (E : XK), Room k (cxD P w K mg base N qual scope f cdv A outer s H E).A → Passes (L2.CX P w) (cxD P w K mg base N qual scope f cdv A outer s H E) E →
      PassesOwn (model P w) (cxD P w K mg base N qual scope f cdv A outer s H E).A (cxD P w K mg base N qual scope f cdv A outer s H E).env (cxD P w K mg base N qual scope f cdv A outer s H E).xe →
      DSs (cxD P w K mg base N qual scope f cdv A outer s H E) E body g) :
    FnOk P w K mg base (L2.CX P w) (k + 1) f fd ps (spD K np (arity np (fnT nn g))) := by
  subst h1 h2
  exact fn_ok (tr := true) F S hb
end

theorem dss_stuck {X : Cx} {W : XK} {b : List Stmt} : DSs X W b s_stuck := ⟨fun _ _ _ _ _ _ ⟨_, _, _, _, _, p⟩ => p.elim⟩

/-! ### the law's end -/
/-- what the law promises: True for every list of ints of at most 63 -/
def spLaw (K : PySem.W.Frag) : Sp := fun vs H Q _ => ∃ (a : Addr) (ns : List Int), vs = [.ref a] ∧ SqL K H a (ns.map V.int) ∧ ns.length ≤ 63 ∧ ∀ H', Q (.bl true) H'
theorem ints_reps {K : PySem.W.Frag} {φ : List Addr} {H : Hp} : ∀ ns : List Int, Reps K φ H (ns.map D.int) (ns.map V.int)
  | [] => .nil
  | n :: ns => .cons (.int n) (ints_reps ns)
theorem rep_script {K : PySem.W.Frag} {H : Hp} {a : Addr} {ns : List Int} (h : SqL K H a (ns.map V.int)) : Rep K [] H (.lst (ns.map D.int)) (.ref a) ∨ Rep K [] H (.ro (ns.map D.int)) (.ref a) := by
  rcases h with (h | ⟨o, h⟩) | h
  · exact .inl (.lst ⟨h, by simp⟩ (ints_reps ns))
  · exact .inr (.ro (.inl ⟨⟨o, h⟩, by simp⟩) (ints_reps ns))
  · exact .inr (.ro (.inr h) (ints_reps ns))
/-- from the law's mirror to its promise; what it may raise is nothing -/
theorem law_ok {P : Program} {w : World} {K : PySem.W.Frag} {mg : Str → Option Value} {base : Heap} {k : Nat} {f : Addr} {fd : FuncData} {m : List D → Sto → Res D}
    (F : FnOk P w K mg base (L2.CX P w) k f fd ["script"] (spD K 1 (arity 1 m)))
    (h : ∀ ns : List Int, ns.length ≤ 63 → (∃ st, m [.lst (ns.map D.int)] [] = .ok (.bl true) st) ∧ ∃ st, m [.ro (ns.map D.int)] [] = .ok (.bl true) st) :
    FnOk P w K mg base CX0 k f fd ["script"] (spLaw K) := by
  refine ⟨fun vs H Q E ⟨a, ns, e, _⟩ => by rw [e]; rfl, fun A outer s H args us vs Q E hr e0 hb rv hs => ?_⟩
  obtain ⟨a, ns, rfl, hS, hl, hq⟩ := hs
  have s0 : SR K [] [] H := ⟨List.nodup_nil, rfl, fun i c e => by simp at e⟩
  have post : ∀ {d : D} {st : Sto}, m [d] [] = .ok (.bl true) st → PostE K (fun _ _ _ => False) [] H Q (arity 1 m [d] []) := fun {d st} e => by
    unfold arity
    rw [if_pos (show [d].length = 1 from rfl), e]
    intro φ' H' v _ _ r
    cases r
    exact hq H'
  have sp : spD K 1 (arity 1 m) [.ref a] H Q (fun _ _ _ => False) := by
    obtain ⟨⟨st1, e1⟩, ⟨st2, e2⟩⟩ := h ns hl
    rcases rep_script hS with r | r
    · exact ⟨rfl, [], [], _, s0, .cons r .nil, post e1⟩
    · exact ⟨rfl, [], [], _, s0, .cons r .nil, post e2⟩
  refine codeAny_mono (F.run A outer s H args us _ Q _ hr e0 hb rv sp) fun r s' z => ?_
  cases r with
  | ok fl => cases fl with
    | ret u => exact z
    | _ => exact z.elim
  | error e =>
    obtain ⟨_, _, _, _, _, _, _, _, _, _, _, _, q⟩ := (show L2.CX P w outer H s (fun _ _ _ => False) e s' from z)
    exact q.elim
end DL

/-! DL9: plain reasoning over the readings: what a result satisfies. No program in sight. -/
namespace DL
open PySem PySem.Spec L2

/-! ### results -/
/-- what depends on q: simp leaves q alone -/
abbrev Hold {β : Type} (_q : β) : Type := Unit
def Res.sat {α : Type} (r : Res α) (Q : α → Sto → Prop) (h : Hold Q := Unit.unit) : Prop := match r with
  | .ok a st => Q a st
  | _ => False
theorem sat_cong {α : Type} {r : Res α} {Q Q' : α → Sto → Prop} (h : ∀ a st, Q a st = Q' a st) : r.sat Q = r.sat Q' := by
  rw [show Q = Q' from funext fun a => funext fun st => h a st]
@[simp] theorem sat_ok {α : Type} {a : α} {st : Sto} {Q : α → Sto → Prop} : (Res.ok a st).sat Q = Q a st := (rfl)
@[simp] theorem sat_stuck {α : Type} {Q : α → Sto → Prop} : (Res.stuck : Res α).sat Q = False := (rfl)
@[simp] theorem sat_err {α : Type} {x : Ex} {st : Sto} {Q : α → Sto → Prop} : (Res.err x st : Res α).sat Q = False := (rfl)
@[simp] theorem sat_bind {α β : Type} {r : Res α} {f : α → Sto → Res β} {Q : β → Sto → Prop} : (r.bind f).sat Q = r.sat fun a st => (f a st).sat Q := by cases r <;> rfl
theorem sat_ite {α : Type} {c : Prop} [Decidable c] {a b : Res α} {Q : α → Sto → Prop} : (if c then a else b).sat Q = if c then a.sat Q else b.sat Q := by split <;> rfl
@[simp] theorem sat_if {α : Type} {c : Prop} [Decidable c] {a : Res α} {Q : α → Sto → Prop} : (if c then a else .stuck).sat Q = (c ∧ a.sat Q) := by
  by_cases h : c
  · rw [if_pos h]; exact propext ⟨fun z => ⟨h, z⟩, fun z => z.2⟩
  · rw [if_neg h]; exact propext ⟨fun z => z.elim, fun z => h z.1⟩
theorem Res.sat.mono {α : Type} {r : Res α} {Q Q' : α → Sto → Prop} (h : r.sat Q) (m : ∀ a st, Q a st → Q' a st) : r.sat Q' := by
  cases r with
  | ok a st => exact m _ _ h
  | _ => exact h
theorem Res.sat.eq {α : Type} {r : Res α} {a : α} {st : Sto} (h : r.sat fun b t => b = a ∧ t = st) : r = .ok a st := by
  cases r with
  | ok b t => obtain ⟨rfl, rfl⟩ := h; rfl
  | _ => exact h.elim
theorem Res.sat.ex {α : Type} {r : Res α} {Q : α → Sto → Prop} (h : r.sat Q) : ∃ a st, r = .ok a st ∧ Q a st := by
  cases r with
  | ok b t => exact ⟨b, t, rfl, h⟩
  | _ => exact h.elim
theorem sat_of {α : Type} {r : Res α} {a : α} {st : Sto} {Q : α → Sto → Prop} (e : r = .ok a st) (h : Q a st) : r.sat Q := by rw [e]; exact h

/-! ### statements -/
structure Nd where
  nx : En → Sto → Prop
  rt : D → Sto → Prop := fun _ _ => False
  bk : En → Sto → Prop := fun _ _ => False
  ct : En → Sto → Prop := fun _ _ => False
def RS.sat (r : RS) (N : Nd) (h : Hold N := Unit.unit) : Prop := match r with
  | .nx ρ st => N.nx ρ st
  | .rt d st => N.rt d st
  | .bk ρ st => N.bk ρ st
  | .ct ρ st => N.ct ρ st
  | _ => False
theorem RS.sat.mono {r : RS} {N N' : Nd} (h : r.sat N) (h1 : ∀ ρ st, N.nx ρ st → N'.nx ρ st) (h2 : ∀ d st, N.rt d st → N'.rt d st := by intro _ _ z; exact z) (h3 : ∀ ρ st, N.bk ρ st → N'.bk ρ st := by intro _ _ z; exact z) (h4 : ∀ ρ st, N.ct ρ st → N'.ct ρ st := by intro _ _ z; exact z) : r.sat N' := by
  cases r with
  | nx ρ st => exact h1 _ _ h
  | rt d st => exact h2 _ _ h
  | bk ρ st => exact h3 _ _ h
  | ct ρ st => exact h4 _ _ h
  | err _ _ => exact h
  | stuck => exact h
theorem RS.sat.from {r : RS} {P : En → Sto → Prop} {N : Nd} (h : r.sat { nx := P }) (h1 : ∀ ρ st, P ρ st → N.nx ρ st) : r.sat N := h.mono h1 (fun _ _ z => z.elim) (fun _ _ z => z.elim) (fun _ _ z => z.elim)
section
variable {N : Nd} {ρ : En} {st : Sto} {f g : FS} {fe : FE} {tc : FT} {Q : D → Sto → Prop}
@[simp] theorem rs_nx : (RS.nx ρ st).sat N = N.nx ρ st := (rfl)
@[simp] theorem rs_rt {d : D} : (RS.rt d st).sat N = N.rt d st := (rfl)
@[simp] theorem rs_bk : (RS.bk ρ st).sat N = N.bk ρ st := (rfl)
@[simp] theorem rs_ct : (RS.ct ρ st).sat N = N.ct ρ st := (rfl)
@[simp] theorem rs_stuck : (RS.stuck).sat N = False := (rfl)
@[simp] theorem rs_err {x : Ex} : (RS.err x st).sat N = False := (rfl)
@[simp] theorem rs_ofE {r : Res D} {k : D → Sto → RS} : (RS.ofE r k).sat N = r.sat fun d st => (k d st).sat N := by cases r <;> rfl
@[simp] theorem rs_ofT {r : Res Bool} {k : Bool → Sto → RS} : (RS.ofT r k).sat N = r.sat fun d st => (k d st).sat N := by cases r <;> rfl
@[simp] theorem rs_ofA {r : Res (List D)} {k : List D → Sto → RS} : (RS.ofA r k).sat N = r.sat fun d st => (k d st).sat N := by cases r <;> rfl
@[simp] theorem rs_ofG {r : Res En} : (RS.ofG r).sat N = r.sat fun ρ st => N.nx ρ st := by cases r <;> rfl
theorem rs_ite {c : Prop} [Decidable c] {a b : RS} : (if c then a else b).sat N = if c then a.sat N else b.sat N := by split <;> rfl
@[simp] theorem ss_next : (s_next ρ st).sat N = N.nx ρ st := (rfl)
@[simp] theorem ss_seq : (s_seq f g ρ st).sat N = (f ρ st).sat { N with nx := fun ρ st => (g ρ st).sat N } := by
  unfold s_seq
  cases h : f ρ st <;> rfl
@[simp] theorem ss_stuck : (s_stuck ρ st).sat N = False := (rfl)
@[simp] theorem ss_expr : (s_expr fe ρ st).sat N = (fe ρ st).sat fun _ st1 => N.nx ρ st1 := by unfold s_expr; rw [rs_ofE]; rfl
@[simp] theorem ss_brk : (s_brk ρ st).sat N = N.bk ρ st := (rfl)
@[simp] theorem ss_cont : (s_cont ρ st).sat N = N.ct ρ st := (rfl)
@[simp] theorem ss_ret : (s_ret fe ρ st).sat N = (fe ρ st).sat fun d st1 => N.rt d st1 := by unfold s_ret; rw [rs_ofE]; rfl
@[simp] theorem ss_retN : (s_retN ρ st).sat N = N.rt .non st := (rfl)
@[simp] theorem ss_if : (s_if tc f g ρ st).sat N = (tc ρ st).sat fun c st1 => if c = true then (f ρ st1).sat N else (g ρ st1).sat N := by
  unfold s_if; rw [rs_ofT]
  refine sat_cong fun c st1 => ?_; cases c <;> rfl
@[simp] theorem ss_set {i : Nat} : (s_set i fe ρ st).sat N = (fe ρ st).sat fun d st1 => N.nx (ρ.set i (some d)) st1 := by unfold s_set; rw [rs_ofE]; rfl
@[simp] theorem ss_asg {fg : FG} : (s_asg fe fg ρ st).sat N = (fe ρ st).sat fun d st1 => (fg d ρ st1).sat N.nx := by unfold s_asg; rw [rs_ofE]; refine sat_cong fun d st1 => ?_; rw [rs_ofG]
@[simp] theorem ss_par {i j : Nat} {fa fb : FE} : (s_par i j [fa, fb] ρ st).sat N = (fa ρ st).sat fun a st1 => (fb ρ st1).sat fun b st2 => N.nx ((ρ.set i (some a)).set j (some b)) st2 := by
  unfold s_par; rw [rs_ofA]
  unfold evs; rw [sat_bind]
  refine sat_cong fun a st1 => ?_
  rw [sat_bind]
  unfold evs; rw [sat_bind]
  refine sat_cong fun b st2 => ?_
  rfl
theorem ss_aug {i : Nat} {op : D → D → Sto → Res D} {d0 : D} (h : ρ[i]? = some (some d0)) : (s_aug i op fe ρ st).sat N = (fe ρ st).sat fun d st1 => (op d0 d st1).sat fun z st2 => N.nx (ρ.set i (some z)) st2 := by
  unfold s_aug; rw [h]
  show (RS.ofE (fe ρ st) fun d st1 => RS.ofE (op d0 d st1) fun z st2 => .nx (ρ.set i (some z)) st2).sat N = _
  rw [rs_ofE]
  refine sat_cong fun d st1 => ?_
  rw [rs_ofE]; rfl
/-! ### targets -/
variable {P : En → Sto → Prop} {d : D}
@[simp] theorem sg_name {i : Nat} : (g_name i d ρ st).sat P = P (ρ.set i (some d)) st := (rfl)
@[simp] theorem sg_sub {fo fi : FE} : (g_sub fo fi d ρ st).sat P = (fo ρ st).sat fun o st1 => (fi ρ st1).sat fun i st2 => ∃ st3, setLD o i d st2 = some st3 ∧ P ρ st3 := by
  unfold g_sub; rw [sat_bind]
  refine sat_cong fun o st1 => ?_
  rw [sat_bind]
  refine sat_cong fun i st2 => ?_
  cases h : setLD o i d st2 with
  | none => exact propext ⟨fun z => z.elim, fun ⟨_, e, _⟩ => by cases e⟩
  | some st3 => exact propext ⟨fun z => ⟨_, rfl, z⟩, fun ⟨_, e, z⟩ => by cases e; exact z⟩
@[simp] theorem sgs_nil : (g_tups [] [] ρ st).sat P = P ρ st := (rfl)
@[simp] theorem sgs_cons {f : FG} {fs : List FG} {ds : List D} : (g_tups (f :: fs) (d :: ds) ρ st).sat P = (f d ρ st).sat fun ρ1 st1 => (g_tups fs ds ρ1 st1).sat P := by
  show ((f d ρ st).bind fun ρ1 st1 => g_tups fs ds ρ1 st1).sat P = _
  rw [sat_bind]
@[simp] theorem sg_tup {fs : List FG} {ds : List D} : (g_tup fs (.tup ds) ρ st).sat P = (ds.length = fs.length ∧ (g_tups fs ds ρ st).sat P) := by
  show (if ds.length = fs.length then g_tups fs ds ρ st else .stuck).sat P = _
  rw [sat_if]
end

/-! ### expressions -/
section
variable {ρ : En} {st : Sto} {fa fb fc : FE} {ta tb : FT} {fs : List FE} {Q : D → Sto → Prop} {B : Bool → Sto → Prop}
theorem x_var {i : Nat} {d : D} (h : ρ[i]? = some (some d)) : (e_var i ρ st).sat Q = Q d st := by unfold e_var; rw [h]; rfl
@[simp] theorem x_var0 {d : D} {r : En} : (e_var 0 (some d :: r) st).sat Q = Q d st := (rfl)
@[simp] theorem x_varS {i : Nat} {o : Option D} {r : En} : (e_var (i + 1) (o :: r) st).sat Q = (e_var i r st).sat Q := by
  unfold e_var
  rw [List.getElem?_cons_succ]
@[simp] theorem x_c {d : D} : (e_c d ρ st).sat Q = Q d st := (rfl)
@[simp] theorem x_bin {g : D → D → Sto → Res D} : (e_bin g fa fb ρ st).sat Q = (fa ρ st).sat fun a st1 => (fb ρ st1).sat fun b st2 => (g a b st2).sat Q := by
  unfold e_bin; rw [sat_bind]; refine sat_cong fun a st1 => ?_; rw [sat_bind]
@[simp] theorem x_un {g : D → Sto → Res D} : (e_un g fa ρ st).sat Q = (fa ρ st).sat fun a st1 => (g a st1).sat Q := by unfold e_un; rw [sat_bind]
@[simp] theorem x_call {m : List D → Sto → Res D} {f : FA} : (e_call m f ρ st).sat Q = (f ρ st).sat fun ds st1 => (m ds st1).sat Q := by unfold e_call; rw [sat_bind]
@[simp] theorem xs_nil {R : List D → Sto → Prop} : (evs [] ρ st).sat R = R [] st := (rfl)
@[simp] theorem xs_cons {f : FE} {R : List D → Sto → Prop} : (evs (f :: fs) ρ st).sat R = (f ρ st).sat fun d st1 => (evs fs ρ st1).sat fun ds st2 => R (d :: ds) st2 := by
  show ((f ρ st).bind fun d st1 => (evs fs ρ st1).bind fun ds st2 => .ok (d :: ds) st2).sat R = _
  rw [sat_bind]; refine sat_cong fun d st1 => ?_; rw [sat_bind]; rfl
@[simp] theorem x_callK {m : List D → Sto → Res D} {is : List Nat} {ks : List FE} : (e_callK m is fs ks ρ st).sat Q = (evs fs ρ st).sat fun ds st1 => (evs ks ρ st1).sat fun zs st2 => (m (pick is (ds ++ zs)) st2).sat Q := by
  unfold e_callK; rw [sat_bind]; refine sat_cong fun a st1 => ?_; rw [sat_bind]
@[simp] theorem x_tup : (e_tup fs ρ st).sat Q = (evs fs ρ st).sat fun ds st1 => Q (.tup ds) st1 := by unfold e_tup; rw [sat_bind]; rfl
@[simp] theorem x_lstF : (e_lst false fs ρ st).sat Q = (evs fs ρ st).sat fun ds st1 => Q (.lst ds) st1 := by unfold e_lst; rw [sat_bind]; rfl
@[simp] theorem x_lstT : (e_lst true fs ρ st).sat Q = (evs fs ρ st).sat fun ds st1 => Q (.hnd st1.length) (st1 ++ [.lst ds]) := by unfold e_lst; rw [sat_bind]; rfl
@[simp] theorem x_if : (e_if ta fa fb ρ st).sat Q = (ta ρ st).sat fun c st1 => if c = true then (fa ρ st1).sat Q else (fb ρ st1).sat Q := by
  unfold e_if; rw [sat_bind]; refine sat_cong fun c st1 => ?_; cases c <;> rfl
@[simp] theorem x_and : (e_and fa fb ρ st).sat Q = (fa ρ st).sat fun d st1 => (truD d st1).sat fun k st2 => if k = true then (fb ρ st2).sat Q else Q d st2 := by
  unfold e_and; rw [sat_bind]; refine sat_cong fun d st1 => ?_; rw [sat_bind]; refine sat_cong fun k st2 => ?_; cases k <;> rfl
@[simp] theorem x_or : (e_or fa fb ρ st).sat Q = (fa ρ st).sat fun d st1 => (truD d st1).sat fun k st2 => if k = true then Q d st2 else (fb ρ st2).sat Q := by
  unfold e_or; rw [sat_bind]; refine sat_cong fun d st1 => ?_; rw [sat_bind]; refine sat_cong fun k st2 => ?_; cases k <;> rfl
@[simp] theorem x_not : (e_not fa ρ st).sat Q = (fa ρ st).sat fun d st1 => (truD d st1).sat fun k st2 => Q (.bl (!k)) st2 := by
  unfold e_not; rw [sat_bind]; refine sat_cong fun d st1 => ?_; rw [sat_bind]; rfl
@[simp] theorem y_val : (t_val fa ρ st).sat B = (fa ρ st).sat fun d st1 => (boolD d st1).sat B := by unfold t_val; rw [sat_bind]
@[simp] theorem y_tru : (t_tru fa ρ st).sat B = (fa ρ st).sat fun d st1 => (truD d st1).sat B := by unfold t_tru; rw [sat_bind]
@[simp] theorem y_and : (t_and ta tb ρ st).sat B = (ta ρ st).sat fun c st1 => if c = true then (tb ρ st1).sat B else B false st1 := by
  unfold t_and; rw [sat_bind]; refine sat_cong fun c st1 => ?_; cases c <;> rfl
@[simp] theorem y_or : (t_or ta tb ρ st).sat B = (ta ρ st).sat fun c st1 => if c = true then B true st1 else (tb ρ st1).sat B := by
  unfold t_or; rw [sat_bind]; refine sat_cong fun c st1 => ?_; cases c <;> rfl
@[simp] theorem y_not : (t_not ta ρ st).sat B = (ta ρ st).sat fun c st1 => B (!c) st1 := by unfold t_not; rw [sat_bind]; rfl
@[simp] theorem y_yes : (t_yes ρ st).sat B = B true st := (rfl)
@[simp] theorem boolD_bl {b : Bool} : (boolD (.bl b) st).sat B = B b st := (rfl)
@[simp] theorem tru_bl {b : Bool} : (truD (.bl b) st).sat B = B b st := (rfl)
@[simp] theorem tru_int {i : Int} : (truD (.int i) st).sat B = B (i != 0) st := (rfl)
@[simp] theorem tru_non : (truD .non st).sat B = B false st := (rfl)
@[simp] theorem tru_tup {ds : List D} : (truD (.tup ds) st).sat B = B (!ds.isEmpty) st := (rfl)
@[simp] theorem tru_lst {ds : List D} : (truD (.lst ds) st).sat B = B (!ds.isEmpty) st := (rfl)
@[simp] theorem tru_ro {ds : List D} : (truD (.ro ds) st).sat B = B (!ds.isEmpty) st := (rfl)
theorem x_chain {g g' : D → D → Sto → Res D} : (e_chain g g' fa fb fc ρ st).sat Q = (fa ρ st).sat fun a st1 => (fb ρ st1).sat fun b st2 => (g a b st2).sat fun d st3 => match d with
  | .bl true => (fc ρ st3).sat fun c st4 => (g' b c st4).sat Q
  | .bl false => Q (.bl false) st3
  | _ => False := by
  unfold e_chain; rw [sat_bind]; refine sat_cong fun a st1 => ?_; rw [sat_bind]; refine sat_cong fun b st2 => ?_; rw [sat_bind]; refine sat_cong fun d st3 => ?_
  split
  · rw [sat_bind]
  · rfl
  · rename_i h1 h2
    cases d with
    | bl k => cases k with
      | true => exact absurd rfl h1
      | false => exact absurd rfl h2
    | _ => rfl
@[simp] theorem p_none {R : Option Int → Sto → Prop} : (partF none ρ st).sat R = R none st := (rfl)
@[simp] theorem p_some {f : FE} {R : Option Int → Sto → Prop} : (partF (some f) ρ st).sat R = (f ρ st).sat fun d st1 => (intD d st1).sat fun i st2 => R (some i) st2 := by
  show ((f ρ st).bind fun d st => (intD d st).bind fun i st => .ok (some i) st).sat R = _
  rw [sat_bind]; refine sat_cong fun d st1 => ?_; rw [sat_bind]; rfl
@[simp] theorem intD_int {i : Int} {R : Int → Sto → Prop} : (intD (.int i) st).sat R = R i st := (rfl)
@[simp] theorem x_sl {g : D → Option Int → Option Int → Sto → Res D} {fl fh : Option FE} : (e_sl g fa fl fh ρ st).sat Q = (fa ρ st).sat fun d st1 => (partF fl ρ st1).sat fun lo st2 => (partF fh ρ st2).sat fun hi st3 => (g d lo hi st3).sat Q := by
  unfold e_sl; rw [sat_bind]; refine sat_cong fun d st1 => ?_; rw [sat_bind]; refine sat_cong fun lo st2 => ?_; rw [sat_bind]
@[simp] theorem x_mt {T : String} {g : D → List D → Sto → Res D} {f : FA} : (e_mt T g fa f ρ st).sat Q = (fa ρ st).sat fun d st1 => tyD T st1 d = true ∧ (f ρ st1).sat fun ds st2 => (g d ds st2).sat Q := by
  unfold e_mt; rw [sat_bind]; refine sat_cong fun d st1 => ?_; rw [sat_if]; rw [sat_bind]
end

/-! ### operations at ints, texts -/
section
variable {st : Sto} {Q : D → Sto → Prop} {a b : Int} {mk : Bool} {x y : Str} {as bs : List D}
@[simp] theorem add_ii : (addD mk (.int a) (.int b) st).sat Q = Q (.int (a + b)) st := (rfl)
@[simp] theorem add_tt : (addD mk (.tup as) (.tup bs) st).sat Q = (as.length + bs.length ≤ sizeLine ∧ Q (.tup (as ++ bs)) st) := by
  show (if as.length + bs.length ≤ sizeLine then Res.ok (D.tup (as ++ bs)) st else .stuck).sat Q = _
  rw [sat_if]; rfl
@[simp] theorem add_ss : (addD mk (.str x) (.str y) st).sat Q = (x.length + y.length ≤ sizeLine ∧ Q (.str (x ++ y)) st) := by
  show (if x.length + y.length ≤ sizeLine then Res.ok (D.str (x ++ y)) st else .stuck).sat Q = _
  rw [sat_if]; rfl
@[simp] theorem add_ll : (addD false (.lst as) (.lst bs) st).sat Q = (as.length + bs.length ≤ sizeLine ∧ Q (.lst (as ++ bs)) st) := by
  show (if as.length + bs.length ≤ sizeLine then mkL false (as ++ bs) st else .stuck).sat Q = _
  rw [sat_if]; rfl
@[simp] theorem sub_ii : (subD (.int a) (.int b) st).sat Q = Q (.int (a - b)) st := (rfl)
theorem mul_ii : (mulD mk (.int a) (.int b) st).sat Q = (((-(2 ^ 64) < a ∧ a < 2 ^ 64) ∨ (-(2 ^ 64) < b ∧ b < 2 ^ 64)) ∧ Q (.int (a * b)) st) := by
  show (if (-(2 ^ 64) < a ∧ a < 2 ^ 64) ∨ (-(2 ^ 64) < b ∧ b < 2 ^ 64) then Res.ok (D.int (a * b)) st else .stuck).sat Q = _
  rw [sat_if]; rfl
theorem mul_tk {k : Int} (h1 : -(2 ^ 63) ≤ k) (h2 : k ≤ 1000) (h3 : as.length ≤ 1000) (h4 : as.isEmpty = false) : (mulD mk (.tup as) (.int k) st).sat Q = Q (.tup (List.replicate k.toNat as).flatten) st := by
  show (if -(2 ^ 63) ≤ k ∧ k ≤ 1000 ∧ as.length ≤ 1000 ∧ as.isEmpty = false then Res.ok (D.tup (List.replicate k.toNat as).flatten) st else .stuck).sat Q = _
  rw [if_pos ⟨h1, h2, h3, h4⟩]; rfl
theorem mul_lk {k : Int} (h1 : -(2 ^ 63) ≤ k) (h2 : k < 2 ^ 63) (h3 : as.length * k.toNat ≤ sizeLine) : (mulD mk (.lst as) (.int k) st).sat Q = (mkL mk (List.replicate k.toNat as).flatten st).sat Q := by
  show (if -(2 ^ 63) ≤ k ∧ k < 2 ^ 63 ∧ as.length * k.toNat ≤ sizeLine then mkL mk (List.replicate k.toNat as).flatten st else .stuck).sat Q = _
  rw [if_pos ⟨h1, h2, h3⟩]
@[simp] theorem mkL_T : (mkL true as st).sat Q = Q (.hnd st.length) (st ++ [.lst as]) := (rfl)
@[simp] theorem mkL_F : (mkL false as st).sat Q = Q (.lst as) st := (rfl)
@[simp] theorem fdiv_ii : (fdivD (.int a) (.int b) st).sat Q = ((0 < b ∧ b < 1073741824) ∧ Q (.int (a / b)) st) := by
  show (if 0 < b ∧ b < 1073741824 then Res.ok (D.int (a / b)) st else .stuck).sat Q = _
  rw [sat_if]; rfl
@[simp] theorem mod_ii : (modD (.int a) (.int b) st).sat Q = (0 < b ∧ Q (.int (a % b)) st) := by
  show (if 0 < b then Res.ok (D.int (a % b)) st else .stuck).sat Q = _
  rw [sat_if]; rfl
@[simp] theorem pow_ii : (powD (.int a) (.int b) st).sat Q = ((0 ≤ b ∧ b ≤ 1000000 ∧ a.natAbs < 2 ^ 64) ∧ Q (.int (a ^ b.toNat)) st) := by
  show (if 0 ≤ b ∧ b ≤ 1000000 ∧ a.natAbs < 2 ^ 64 then Res.ok (D.int (a ^ b.toNat)) st else .stuck).sat Q = _
  rw [sat_if]; rfl
@[simp] theorem neg_i : (negD (.int a) st).sat Q = Q (.int (-a)) st := (rfl)
@[simp] theorem lt_ii : (ltD (.int a) (.int b) st).sat Q = Q (.bl (decide (a < b))) st := (rfl)
@[simp] theorem gt_ii : (gtD (.int a) (.int b) st).sat Q = Q (.bl (decide (b < a))) st := (rfl)
@[simp] theorem le_ii : (leD (.int a) (.int b) st).sat Q = Q (.bl (decide (a ≤ b))) st := (rfl)
@[simp] theorem ge_ii : (geD (.int a) (.int b) st).sat Q = Q (.bl (decide (b ≤ a))) st := (rfl)
theorem eq_of {d e : D} {k : Bool} (h : eqB st d e = some k) : (eqD d e st).sat Q = Q (.bl k) st := by unfold eqD; rw [h]; rfl
theorem ne_of {d e : D} {k : Bool} (h : eqB st d e = some k) : (neD d e st).sat Q = Q (.bl (!k)) st := by unfold neD; rw [h]; rfl
@[simp] theorem eq_ii : (eqD (.int a) (.int b) st).sat Q = Q (.bl (decide (a = b))) st := eq_of (by simp [eqB])
@[simp] theorem eq_ss : (eqD (.str x) (.str y) st).sat Q = Q (.bl (decide (x = y))) st := eq_of (by simp [eqB])
@[simp] theorem eq_bb {p q : Bool} : (eqD (.bl p) (.bl q) st).sat Q = Q (.bl (decide (p = q))) st := eq_of (by simp [eqB])
@[simp] theorem eq_nn : (eqD .non .non st).sat Q = Q (.bl true) st := eq_of (by simp [eqB])
@[simp] theorem ne_ii : (neD (.int a) (.int b) st).sat Q = Q (.bl (!decide (a = b))) st := ne_of (by simp [eqB])
@[simp] theorem ne_ss : (neD (.str x) (.str y) st).sat Q = Q (.bl (!decide (x = y))) st := ne_of (by simp [eqB])
@[simp] theorem ne_bb {p q : Bool} : (neD (.bl p) (.bl q) st).sat Q = Q (.bl (!decide (p = q))) st := ne_of (by simp [eqB])
@[simp] theorem is_n : (isD .non .non st).sat Q = Q (.bl true) st := (rfl)
@[simp] theorem is_i : (isD (.int a) .non st).sat Q = Q (.bl false) st := (rfl)
@[simp] theorem is_b {p : Bool} : (isD (.bl p) .non st).sat Q = Q (.bl false) st := (rfl)
@[simp] theorem is_bb {p q : Bool} : (isD (.bl p) (.bl q) st).sat Q = Q (.bl (decide (p = q))) st := (rfl)
@[simp] theorem is_s : (isD (.str x) .non st).sat Q = Q (.bl false) st := (rfl)
@[simp] theorem is_t : (isD (.tup as) .non st).sat Q = Q (.bl false) st := (rfl)
@[simp] theorem is_l : (isD (.lst as) .non st).sat Q = Q (.bl false) st := (rfl)
@[simp] theorem is_r : (isD (.ro as) .non st).sat Q = Q (.bl false) st := (rfl)
@[simp] theorem is_h {n : Nat} : (isD (.hnd n) .non st).sat Q = Q (.bl false) st := (rfl)
@[simp] theorem isnt_n : (isntD .non .non st).sat Q = Q (.bl false) st := (rfl)
@[simp] theorem isnt_i : (isntD (.int a) .non st).sat Q = Q (.bl true) st := (rfl)
@[simp] theorem isnt_b {p : Bool} : (isntD (.bl p) .non st).sat Q = Q (.bl true) st := (rfl)
@[simp] theorem isnt_bb {p q : Bool} : (isntD (.bl p) (.bl q) st).sat Q = Q (.bl (!decide (p = q))) st := (rfl)
@[simp] theorem isnt_s : (isntD (.str x) .non st).sat Q = Q (.bl true) st := (rfl)
@[simp] theorem isnt_t : (isntD (.tup as) .non st).sat Q = Q (.bl true) st := (rfl)
@[simp] theorem isnt_l : (isntD (.lst as) .non st).sat Q = Q (.bl true) st := (rfl)
@[simp] theorem isnt_r : (isntD (.ro as) .non st).sat Q = Q (.bl true) st := (rfl)
@[simp] theorem isnt_h {n : Nat} : (isntD (.hnd n) .non st).sat Q = Q (.bl true) st := (rfl)
/-! ### calls of builtins -/
@[simp] theorem len_t : (lenD [.tup as] st).sat Q = Q (.int as.length) st := (rfl)
@[simp] theorem len_l : (lenD [.lst as] st).sat Q = Q (.int as.length) st := (rfl)
@[simp] theorem len_r : (lenD [.ro as] st).sat Q = Q (.int as.length) st := (rfl)
@[simp] theorem len_s : (lenD [.str x] st).sat Q = (x.length ≤ sizeLine ∧ Q (.int x.length) st) := by
  show (if x.length ≤ sizeLine then Res.ok (D.int x.length) st else .stuck).sat Q = _
  rw [sat_if]; rfl
theorem len_h {n : Nat} (h : st[n]? = some (.lst as)) : (lenD [.hnd n] st).sat Q = Q (.int as.length) st := by
  show (match (match st[n]? with | some (Cell.lst ds) => some ds | none => none) with | some ds => Res.ok (D.int (ds.length : Int)) st | none => .stuck).sat Q = _
  rw [h]; rfl
@[simp] theorem int_i : (intF [.int a] st).sat Q = Q (.int a) st := (rfl)
@[simp] theorem int_b {p : Bool} : (intF [.bl p] st).sat Q = Q (.int (if p then 1 else 0)) st := (rfl)
@[simp] theorem list_t : (listF mk [.tup as] st).sat Q = (mkL mk as st).sat Q := (rfl)
@[simp] theorem list_l : (listF mk [.lst as] st).sat Q = (mkL mk as st).sat Q := (rfl)
@[simp] theorem list_r : (listF mk [.ro as] st).sat Q = (mkL mk as st).sat Q := (rfl)
theorem list_h {n : Nat} (h : st[n]? = some (.lst as)) : (listF mk [.hnd n] st).sat Q = (mkL mk as st).sat Q := by
  show (match (match st[n]? with | some (Cell.lst ds) => some ds | none => none) with | some ds => mkL mk ds st | none => .stuck).sat Q = _
  rw [h]
@[simp] theorem tup_t : (tupF [.tup as] st).sat Q = Q (.tup as) st := (rfl)
@[simp] theorem tup_l : (tupF [.lst as] st).sat Q = Q (.tup as) st := (rfl)
@[simp] theorem tup_r : (tupF [.ro as] st).sat Q = Q (.tup as) st := (rfl)
theorem tup_h {n : Nat} (h : st[n]? = some (.lst as)) : (tupF [.hnd n] st).sat Q = Q (.tup as) st := by
  show (match (match st[n]? with | some (Cell.lst ds) => some ds | none => none) with | some ds => Res.ok (D.tup ds) st | none => .stuck).sat Q = _
  rw [h]; rfl
theorem all_l {bs : List Bool} (h : blsOf as = some bs) : (allF [.lst as] st).sat Q = Q (.bl (bs.all id)) st := by
  show (match blsOf as with | some bs => Res.ok (D.bl (bs.all id)) st | none => .stuck).sat Q = _
  rw [h]; rfl
theorem any_l {bs : List Bool} (h : blsOf as = some bs) : (anyF [.lst as] st).sat Q = Q (.bl (bs.any id)) st := by
  show (match blsOf as with | some bs => Res.ok (D.bl (bs.any id)) st | none => .stuck).sat Q = _
  rw [h]; rfl
theorem sum_l {is : List Int} (h : intsOf as = some is) : (sumF [.lst as] st).sat Q = Q (.int is.sum) st := by
  show (match intsOf as with | some bs => Res.ok (D.int bs.sum) st | none => .stuck).sat Q = _
  rw [h]; rfl
/-! ### items, slices -/
theorem atI_nat1 {α : Type} {xs : List α} {k : Nat} : atI xs (k : Int) = xs[k]? := by
  unfold atI ixN
  by_cases h : k < xs.length
  · simp [h]
  · simp [h, List.getElem?_eq_none (Nat.le_of_not_lt h)]
theorem ix_t {i : Int} {y : D} (h : atI as i = some y) : (ixD (.tup as) (.int i) st).sat Q = Q y st := by
  show (match atI as i with | some y => Res.ok y st | none => .stuck).sat Q = _
  rw [h]; rfl
theorem ix_l {i : Int} {y : D} (h : atI as i = some y) : (ixD (.lst as) (.int i) st).sat Q = Q y st := by
  show (match atI as i with | some y => Res.ok y st | none => .stuck).sat Q = _
  rw [h]; rfl
theorem ix_r {i : Int} {y : D} (h : atI as i = some y) : (ixD (.ro as) (.int i) st).sat Q = Q y st := by
  show (match atI as i with | some y => Res.ok y st | none => .stuck).sat Q = _
  rw [h]; rfl
theorem ix_h {n : Nat} {i : Int} {y : D} (hn : st[n]? = some (.lst as)) (h : atI as i = some y) : (ixD (.hnd n) (.int i) st).sat Q = Q y st := by
  show (match (match st[n]? with | some (Cell.lst ds) => some ds | none => none).bind (fun ds => atI ds i) with | some y => Res.ok y st | none => .stuck).sat Q = _
  rw [hn]
  show (match atI as i with | some y => Res.ok y st | none => .stuck).sat Q = _
  rw [h]; rfl
theorem set_h {n j : Nat} {d : D} (hn : st[n]? = some (.lst as)) (h : j < as.length) : setLD (.hnd n) (.int (j : Int)) d st = some (st.set n (.lst (as.set j d))) := by
  show (match st[n]? with | some (Cell.lst ds) => (match ixN ds.length j with | some j => some (st.set n (.lst (ds.set j d))) | none => none) | none => none) = _
  rw [hn]
  show (match ixN as.length j with | some j => some (st.set n (.lst (as.set j d))) | none => none) = _
  unfold ixN
  simp [h]
@[simp] theorem sl_t {lo hi : Option Int} : (slD mk (.tup as) lo hi st).sat Q = Q (.tup (cutL as lo hi)) st := (rfl)
@[simp] theorem sl_l {lo hi : Option Int} : (slD mk (.lst as) lo hi st).sat Q = (mkL mk (cutL as lo hi) st).sat Q := (rfl)
@[simp] theorem sl_r {lo hi : Option Int} : (slD mk (.ro as) lo hi st).sat Q = (mkL mk (cutL as lo hi) st).sat Q := (rfl)
theorem sl_h {n : Nat} {lo hi : Option Int} (h : st[n]? = some (.lst as)) : (slD mk (.hnd n) lo hi st).sat Q = (mkL mk (cutL as lo hi) st).sat Q := by
  show (match (match st[n]? with | some (Cell.lst ds) => some ds | none => none) with | some ds => mkL mk (cutL ds lo hi) st | none => .stuck).sat Q = _
  rw [h]
theorem cutL_to {α : Type} (xs : List α) (k : Nat) : cutL xs none (some (k : Int)) = xs.take k := by
  have h0 : ¬ ((k : Int) < 0) := by omega
  unfold cutL HT.sIx
  simp [h0]
theorem cutL_from {α : Type} (xs : List α) (k : Nat) : cutL xs (some (k : Int)) none = xs.drop k := by
  have h0 : ¬ ((k : Int) < 0) := by omega
  unfold cutL HT.sIx
  simp [h0]
  rcases Nat.le_total k xs.length with h | h
  · rw [Nat.min_eq_left h, List.take_of_length_le (by simp)]
  · rw [Nat.min_eq_right h, List.drop_of_length_le h]; simp
/-! ### methods -/
theorem app_h {n : Nat} {d : D} (h : st[n]? = some (.lst as)) (hl : as.length < sizeLine) : (appendM (.hnd n) [d] st).sat Q = Q .non (st.set n (.lst (as ++ [d]))) := by
  show (match st[n]? with | some (Cell.lst ds) => (if ds.length < sizeLine then Res.ok D.non (st.set n (.lst (ds ++ [d]))) else .stuck) | none => .stuck).sat Q = _
  rw [h]
  show (if as.length < sizeLine then Res.ok D.non (st.set n (.lst (as ++ [d]))) else .stuck).sat Q = _
  rw [if_pos hl]; rfl
/-! ### isinstance -/
theorem isi_of {d : D} {b : String} {a : String} {k : Bool} (h : tyN st d = some a) (hk : kitB a b = some k) : (isiF [d, .ty b] st).sat Q = Q (.bl k) st := by
  show (match (tyN st d).bind (fun a => kitB a b) with | some k => Res.ok (D.bl k) st | none => .stuck).sat Q = _
  rw [h]
  show (match kitB a b with | some k => Res.ok (D.bl k) st | none => .stuck).sat Q = _
  rw [hk]; rfl
end
/-! ### defs -/
section
variable {n : Nat} {f : FS} {ds : List D} {st : Sto} {Q : D → Sto → Prop}
theorem sat_M : (fnM n f ds st).sat Q = (f (startD n ds) st).sat { nx := fun _ st' => Q .non st', rt := Q } := by
  unfold fnM
  cases h : f (startD n ds) st <;> rfl
theorem sat_T : (fnT n f ds st).sat Q = (f (startD n ds) st).sat { nx := fun _ st' => (exitD st.length .non st').sat Q, rt := fun d st' => (exitD st.length d st').sat Q } := by
  unfold fnT
  cases h : f (startD n ds) st <;> rfl
theorem sat_arity {m : List D → Sto → Res D} (h : ds.length = n) : (arity n m ds st).sat Q = (m ds st).sat Q := by unfold arity; rw [if_pos h]
end
end DL

/-! DL10: plain reasoning: handles given up, loops, comprehensions. -/
namespace DL
open PySem PySem.Spec L2

/-! ### handles below n -/
mutual
@[simp] def hbd (n : Nat) : D → Bool
  | .hnd m => decide (m < n)
  | .tup ds => hbds n ds
  | .lst ds => hbds n ds
  | .ro ds => hbds n ds
  | .non => true
  | .bl _ => true
  | .int _ => true
  | .str _ => true
  | .ty _ => true
@[simp] def hbds (n : Nat) : List D → Bool
  | [] => true
  | d :: ds => hbd n d && hbds n ds
end
mutual
theorem fzD_id {n : Nat} {g : Nat → Option D} (hg : ∀ i, i < n → g i = some (.hnd i)) : ∀ {d : D}, hbd n d = true → fzD g d = some d
  | .hnd m, h => hg m (of_decide_eq_true h)
  | .tup ds, h => by unfold fzD; rw [fzDs_id hg h]; rfl
  | .lst ds, h => by unfold fzD; rw [fzDs_id hg h]; rfl
  | .ro ds, h => by unfold fzD; rw [fzDs_id hg h]; rfl
  | .non, _ => rfl
  | .bl _, _ => rfl
  | .int _, _ => rfl
  | .str _, _ => rfl
  | .ty _, _ => rfl
theorem fzDs_id {n : Nat} {g : Nat → Option D} (hg : ∀ i, i < n → g i = some (.hnd i)) : ∀ {ds : List D}, hbds n ds = true → fzDs g ds = some ds
  | [], _ => rfl
  | d :: ds, h => by
    rw [hbds, Bool.and_eq_true] at h
    unfold fzDs
    rw [fzD_id hg h.1, fzDs_id hg h.2]
end
theorem hbds_append {n : Nat} {as bs : List D} : hbds n (as ++ bs) = (hbds n as && hbds n bs) := by
  induction as with
  | nil => rfl
  | cons a as ih => rw [List.cons_append, hbds, hbds, ih, Bool.and_assoc]
theorem hbds_all {n : Nat} {as : List D} : hbds n as = as.all (hbd n) := by
  induction as with
  | nil => rfl
  | cons a as ih => rw [hbds, List.all_cons, ih]
theorem hbds_map {α : Type} {n : Nat} {as : List α} {f : α → D} (h : ∀ a ∈ as, hbd n (f a) = true) : hbds n (as.map f) = true := by
  rw [hbds_all, List.all_map, List.all_eq_true]
  exact fun a m => h a m
theorem hbds_mem {n : Nat} {as : List D} (h : ∀ a ∈ as, hbd n a = true) : hbds n as = true := by
  rw [hbds_all, List.all_eq_true]; exact h
mutual
theorem hbd_mono {n m : Nat} (k : n ≤ m) : ∀ {d : D}, hbd n d = true → hbd m d = true
  | .hnd j, h => decide_eq_true (Nat.lt_of_lt_of_le (of_decide_eq_true h) k)
  | .tup ds, h => hbds_mono k (ds := ds) h
  | .lst ds, h => hbds_mono k (ds := ds) h
  | .ro ds, h => hbds_mono k (ds := ds) h
  | .non, _ => rfl
  | .bl _, _ => rfl
  | .int _, _ => rfl
  | .str _, _ => rfl
  | .ty _, _ => rfl
theorem hbds_mono {n m : Nat} (k : n ≤ m) : ∀ {ds : List D}, hbds n ds = true → hbds m ds = true
  | [], _ => rfl
  | d :: ds, h => by
    rw [hbds, Bool.and_eq_true] at h ⊢
    exact ⟨hbd_mono k h.1, hbds_mono k h.2⟩
end
/-- every cell's items lie below n -/
def WF (n : Nat) : Sto → Prop
  | [] => True
  | .lst ds :: r => hbds n ds = true ∧ WF n r
@[simp] theorem wf_nil {n : Nat} : WF n [] = True := (rfl)
@[simp] theorem wf_cons {n : Nat} {ds : List D} {r : Sto} : WF n (.lst ds :: r) = (hbds n ds = true ∧ WF n r) := (rfl)
theorem wf_append {n : Nat} {r s : Sto} : WF n (r ++ s) ↔ WF n r ∧ WF n s := by
  induction r with
  | nil => simp
  | cons c r ih => cases c with | lst ds => rw [List.cons_append, wf_cons, wf_cons, ih, and_assoc]
theorem WF.mono {n m : Nat} (k : n ≤ m) : ∀ {r : Sto}, WF n r → WF m r
  | [], _ => trivial
  | .lst _ :: r, h => ⟨hbds_mono k h.1, WF.mono k h.2⟩
theorem wf_set {n i : Nat} {ds : List D} : ∀ {r : Sto}, WF n r → hbds n ds = true → ∀ i, WF n (r.set i (.lst ds))
  | [], _, _, _ => trivial
  | .lst _ :: r, h, hd, 0 => ⟨hd, h.2⟩
  | .lst _ :: r, h, hd, i + 1 => ⟨h.1, wf_set (i := i) h.2 hd i⟩
theorem wf_take {n : Nat} : ∀ {r : Sto} (k : Nat), WF n r → WF n (r.take k)
  | [], k, _ => by rw [List.take_nil]; trivial
  | .lst _ :: r, 0, _ => trivial
  | .lst _ :: r, k + 1, h => ⟨h.1, wf_take k h.2⟩
theorem fzCells_id {n : Nat} {g : Nat → Option D} (hg : ∀ i, i < n → g i = some (.hnd i)) : ∀ {r : Sto}, WF n r → fzCells g r = some r
  | [], _ => rfl
  | .lst ds :: r, h => by
    unfold fzCells
    rw [fzDs_id hg h.1, fzCells_id hg h.2]
theorem resH_old {n0 i k : Nat} {st : Sto} (h : i < n0) : resH n0 st (k + 1) i = some (.hnd i) := by unfold resH; rw [if_pos h]
theorem resH_new {n0 i k : Nat} {st : Sto} {ys : List D} (h : n0 ≤ i) (e : st[i]? = some (.lst ys)) (hy : hbds n0 ys = true) : resH n0 st (k + 2) i = some (.lst ys) := by
  unfold resH
  rw [if_neg (Nat.not_lt.mpr h), e]
  show (fzDs (resH n0 st (k + 1)) ys).map D.lst = _
  rw [fzDs_id (fun i hi => resH_old hi) hy]; rfl
theorem exitD_of {n0 : Nat} {d d' : D} {st : Sto} (h : fzD (resH n0 st (st.length + 1)) d = some d') (hw : WF n0 (st.take n0)) : exitD n0 d st = .ok d' (st.take n0) := by
  unfold exitD
  rw [h, fzCells_id (fun i hi => resH_old hi) hw]
/-- nothing new is returned -/
theorem exitD_id {n0 : Nat} {d : D} {st : Sto} (h : hbd n0 d = true) (hw : WF n0 (st.take n0)) : exitD n0 d st = .ok d (st.take n0) :=
  exitD_of (fzD_id (fun i hi => resH_old hi) h) hw
theorem exitD_id' {n0 : Nat} {d : D} {s r : Sto} (h : hbd n0 d = true) (hl : s.length = n0) (hw : WF n0 s) : exitD n0 d (s ++ r) = .ok d s := by
  have e : (s ++ r).take n0 = s := by rw [← hl, List.take_left]
  rw [exitD_id h (by rw [e]; exact hw), e]
/-- a new list is returned -/
theorem exitD_new {n0 i : Nat} {s r : Sto} {ys : List D} (hi : n0 ≤ i) (hl : s.length = n0) (e : (s ++ r)[i]? = some (.lst ys)) (hy : hbds n0 ys = true) (hw : WF n0 s) : exitD n0 (.hnd i) (s ++ r) = .ok (.lst ys) s := by
  have e2 : (s ++ r).take n0 = s := by rw [← hl, List.take_left]
  have hp : (s ++ r).length + 1 = ((s ++ r).length - 1) + 2 := by
    have := (List.getElem?_eq_some_iff.mp e).1
    omega
  have := exitD_of (n0 := n0) (d := .hnd i) (d' := .lst ys) (st := s ++ r) (by
    rw [hp]
    show resH n0 (s ++ r) _ i = _
    exact resH_new hi e hy) (by rw [e2]; exact hw)
  rw [this, e2]

/-! ### loops -/
section
variable {ρ : En} {st : Sto} {tg : Tgt} {fb : FS} {fi : FI} {fe : FE} {ft : FT} {N : Nd} {R : Src → Sto → Prop}
@[simp] theorem ss_for : (s_for fi tg fb ρ st).sat N = (fi ρ st).sat fun src st1 => (forGo src tg fb src.len 0 ρ st1).sat N := by
  unfold s_for
  cases h : fi ρ st <;> rfl
@[simp] theorem i_val_sat {f : FE} : (i_val f ρ st).sat R = (f ρ st).sat fun d st1 => (srcOf d st1).sat R := by unfold i_val; rw [sat_bind]
@[simp] theorem i_call_sat {g : List D → Sto → Res Src} {fs : FA} : (i_call g fs ρ st).sat R = (fs ρ st).sat fun ds st1 => (g ds st1).sat R := by unfold i_call; rw [sat_bind]
@[simp] theorem src_t {ds : List D} : (srcOf (.tup ds) st).sat R = R (.fz ds) st := (rfl)
@[simp] theorem src_l {ds : List D} : (srcOf (.lst ds) st).sat R = R (.fz ds) st := (rfl)
@[simp] theorem src_r {ds : List D} : (srcOf (.ro ds) st).sat R = R (.fz ds) st := (rfl)
theorem src_h {n : Nat} {ds : List D} (h : st[n]? = some (.lst ds)) : (srcOf (.hnd n) st).sat R = R (.hd n ds.length) st := by
  show (match st[n]? with | some (Cell.lst ds) => Res.ok (Src.hd n ds.length) st | none => .stuck).sat R = _
  rw [h]; rfl
@[simp] theorem rng1_i {j : Int} : (rng1 [.int j] st).sat R = ((-(2 ^ 62) ≤ j ∧ j < 2 ^ 62) ∧ R (.fz (rangeL 0 j)) st) := by
  show (if -(2 ^ 62) ≤ j ∧ j < 2 ^ 62 then Res.ok (Src.fz (rangeL 0 j)) st else .stuck).sat R = _
  rw [sat_if]; rfl
@[simp] theorem rng2_i {i j : Int} : (rng2 [.int i, .int j] st).sat R = ((-(2 ^ 62) ≤ i ∧ i < 2 ^ 62 ∧ -(2 ^ 62) ≤ j ∧ j < 2 ^ 62) ∧ R (.fz (rangeL i j)) st) := by
  show (if -(2 ^ 62) ≤ i ∧ i < 2 ^ 62 ∧ -(2 ^ 62) ≤ j ∧ j < 2 ^ 62 then Res.ok (Src.fz (rangeL i j)) st else .stuck).sat R = _
  rw [sat_if]; rfl
@[simp] theorem srclen_fz {ds : List D} : (Src.fz ds).len = ds.length := (rfl)
@[simp] theorem srclen_hd {n l : Nat} : (Src.hd n l).len = l := (rfl)
theorem for_fz {ds : List D} (I : Nat → En → Sto → Prop) (h0 : I 0 ρ st)
    (step : ∀ i d ρ st, ds[i]? = some d → I i ρ st → ∃ ρ1, assignT tg d ρ = some ρ1 ∧ (fb ρ1 st).sat { nx := I (i + 1), ct := I (i + 1), bk := N.nx, rt := N.rt })
    (fin : ∀ ρ st, I ds.length ρ st → N.nx ρ st) : (forGo (.fz ds) tg fb ds.length 0 ρ st).sat N := by
  have go : ∀ (k i : Nat) (ρ : En) (st : Sto), i + k = ds.length → I i ρ st → (forGo (.fz ds) tg fb k i ρ st).sat N := by
    intro k
    induction k with
    | zero =>
      intro i ρ st e h
      have : i = ds.length := by omega
      subst this
      exact fin _ _ h
    | succ k ih =>
      intro i ρ st e h
      have hi : ds[i]? = some ds[i] := List.getElem?_eq_getElem (by omega)
      obtain ⟨ρ1, e1, s1⟩ := step i _ ρ st hi h
      show (match ds[i]? with
        | none => RS.stuck
        | some d => match assignT tg d ρ with
          | none => .stuck
          | some ρ' => match fb ρ' st with
            | .nx ρ2 st2 => forGo (.fz ds) tg fb k (i + 1) ρ2 st2
            | .ct ρ2 st2 => forGo (.fz ds) tg fb k (i + 1) ρ2 st2
            | .bk ρ2 st2 => .nx ρ2 st2
            | r => r).sat N
      rw [hi]
      simp only
      rw [e1]
      simp only
      cases hb : fb ρ1 st with
      | nx ρ2 st2 => rw [hb] at s1; exact ih _ _ _ (by omega) s1
      | ct ρ2 st2 => rw [hb] at s1; exact ih _ _ _ (by omega) s1
      | bk ρ2 st2 => rw [hb] at s1; exact s1
      | rt d st2 => rw [hb] at s1; exact s1
      | err x st2 => rw [hb] at s1; exact s1
      | stuck => rw [hb] at s1; exact s1
  exact go ds.length 0 ρ st (by omega) h0
theorem for_hd {n : Nat} {ds : List D} (I : Nat → En → Sto → Prop) (hI : ∀ i ρ st, I i ρ st → st[n]? = some (.lst ds)) (h0 : I 0 ρ st)
    (step : ∀ i d ρ st, ds[i]? = some d → I i ρ st → ∃ ρ1, assignT tg d ρ = some ρ1 ∧ (fb ρ1 st).sat { nx := I (i + 1), ct := I (i + 1), bk := N.nx, rt := N.rt })
    (fin : ∀ ρ st, I ds.length ρ st → N.nx ρ st) : (forGo (.hd n ds.length) tg fb ds.length 0 ρ st).sat N := by
  have go : ∀ (k i : Nat) (ρ : En) (st : Sto), i + k = ds.length → I i ρ st → (forGo (.hd n ds.length) tg fb k i ρ st).sat N := by
    intro k
    induction k with
    | zero =>
      intro i ρ st e h
      have : i = ds.length := by omega
      subst this
      have f : (Src.hd n ds.length).fin st = true := by
        show (match st[n]? with | some (Cell.lst es) => es.length == ds.length | none => false) = true
        rw [hI _ _ _ h]; simp
      show (if (Src.hd n ds.length).fin st = true then RS.nx ρ st else .stuck).sat N
      rw [if_pos f]
      exact fin _ _ h
    | succ k ih =>
      intro i ρ st e h
      have hi : ds[i]? = some ds[i] := List.getElem?_eq_getElem (by omega)
      obtain ⟨ρ1, e1, s1⟩ := step i _ ρ st hi h
      show (match (match st[n]? with | some (Cell.lst ds) => ds[i]? | none => none) with
        | none => RS.stuck
        | some d => match assignT tg d ρ with
          | none => .stuck
          | some ρ' => match fb ρ' st with
            | .nx ρ2 st2 => forGo (.hd n ds.length) tg fb k (i + 1) ρ2 st2
            | .ct ρ2 st2 => forGo (.hd n ds.length) tg fb k (i + 1) ρ2 st2
            | .bk ρ2 st2 => .nx ρ2 st2
            | r => r).sat N
      rw [hI _ _ _ h]
      simp only
      rw [hi]
      simp only
      rw [e1]
      simp only
      cases hb : fb ρ1 st with
      | nx ρ2 st2 => rw [hb] at s1; exact ih _ _ _ (by omega) s1
      | ct ρ2 st2 => rw [hb] at s1; exact ih _ _ _ (by omega) s1
      | bk ρ2 st2 => rw [hb] at s1; exact s1
      | rt d st2 => rw [hb] at s1; exact s1
      | err x st2 => rw [hb] at s1; exact s1
      | stuck => rw [hb] at s1; exact s1
  exact go ds.length 0 ρ st (by omega) h0
/-! ### comprehensions -/
def lcRes (mk : Bool) (tg : Tgt) (ft : FT) (fe : FE) (ρw : En) (src : Src) (st1 : Sto) : Res D :=
  match lcGo st1.length src tg ft fe ρw src.len 0 (st1 ++ [.lst []]) with
  | some st2 => if mk = true then .ok (.hnd st1.length) st2 else exitD st1.length (.hnd st1.length) st2
  | none => .stuck
@[simp] theorem x_lc {mk : Bool} {own : List Nat} {Q : D → Sto → Prop} : (e_lc mk fi tg own ft fe ρ st).sat Q = (fi ρ st).sat fun src st1 => (lcRes mk tg ft fe (wipeD ρ own) src st1).sat Q := by
  show ((fi ρ st).bind fun src st1 => lcRes mk tg ft fe (wipeD ρ own) src st1).sat Q = _
  rw [sat_bind]
theorem lcGo_fz {ds : List D} {ρw : En} {s0 : Sto} (I : Nat → Sto → List D → Prop) (hl : ds.length ≤ sizeLine) (h0 : I 0 s0 [])
    (step : ∀ i d s acc, ds[i]? = some d → I i s acc → s.length = s0.length → ∃ ρ1, assignT tg d ρw = some ρ1 ∧ (ft ρ1 (s ++ [.lst acc])).sat fun b s1 =>
      if b = true then (fe ρ1 s1).sat fun y s2 => ∃ s', s2 = s' ++ [.lst acc] ∧ s'.length = s0.length ∧ I (i + 1) s' (acc ++ [y]) else ∃ s', s1 = s' ++ [.lst acc] ∧ s'.length = s0.length ∧ I (i + 1) s' acc) :
    ∃ s ys, lcGo s0.length (.fz ds) tg ft fe ρw ds.length 0 (s0 ++ [.lst []]) = some (s ++ [.lst ys]) ∧ s.length = s0.length ∧ I ds.length s ys := by
  have go : ∀ (k i : Nat) (s : Sto) (acc : List D), i + k = ds.length → acc.length ≤ i → s.length = s0.length → I i s acc →
      ∃ s' ys, lcGo s0.length (.fz ds) tg ft fe ρw k i (s ++ [.lst acc]) = some (s' ++ [.lst ys]) ∧ s'.length = s0.length ∧ I ds.length s' ys := by
    intro k
    induction k with
    | zero =>
      intro i s acc e la ls h
      have : i = ds.length := by omega
      subst this
      exact ⟨s, acc, rfl, ls, h⟩
    | succ k ih =>
      intro i s acc e la ls h
      have hi : ds[i]? = some ds[i] := List.getElem?_eq_getElem (by omega)
      obtain ⟨ρ1, e1, st1⟩ := step i _ s acc hi h ls
      show ∃ s' ys, (match ds[i]? with
        | none => none
        | some d => match assignT tg d ρw with
          | none => none
          | some ρ' => match ft ρ' (s ++ [.lst acc]) with
            | .ok true st1 => (match fe ρ' st1 with
              | .ok y st2 => (match st2[s0.length]? with
                | some (.lst acc) => if acc.length < sizeLine then lcGo s0.length (.fz ds) tg ft fe ρw k (i + 1) (st2.set s0.length (.lst (acc ++ [y]))) else none
                | none => none)
              | _ => none)
            | .ok false st1 => lcGo s0.length (.fz ds) tg ft fe ρw k (i + 1) st1
            | _ => none) = some (s' ++ [.lst ys]) ∧ s'.length = s0.length ∧ I ds.length s' ys
      rw [hi]
      simp only
      rw [e1]
      simp only
      cases hb : ft ρ1 (s ++ [.lst acc]) with
      | err x s1 => rw [hb] at st1; exact st1.elim
      | stuck => rw [hb] at st1; exact st1.elim
      | ok b s1 =>
        rw [hb, sat_ok] at st1
        cases b with
        | false =>
          rw [if_neg Bool.false_ne_true] at st1
          obtain ⟨s', e', l', h'⟩ := st1
          subst e'
          exact ih _ _ _ (by omega) (by omega) l' h'
        | true =>
          rw [if_pos rfl] at st1
          simp only
          cases he : fe ρ1 s1 with
          | err x s2 => rw [he] at st1; exact st1.elim
          | stuck => rw [he] at st1; exact st1.elim
          | ok y s2 =>
            rw [he, sat_ok] at st1
            obtain ⟨s', e', l', h'⟩ := st1
            subst e'
            simp only
            have g1 : (s' ++ [Cell.lst acc])[s0.length]? = some (.lst acc) := by rw [← l']; simp
            rw [g1]
            simp only
            rw [if_pos (by omega)]
            have g2 : (s' ++ [Cell.lst acc]).set s0.length (.lst (acc ++ [y])) = s' ++ [.lst (acc ++ [y])] := by rw [← l']; simp
            rw [g2]
            exact ih _ _ _ (by omega) (by simp; omega) l' h'
  exact go ds.length 0 s0 [] (by omega) (Nat.le_refl _) rfl h0
theorem lc_fz {ds : List D} {ρw : En} {s0 : Sto} {Q : D → Sto → Prop} (I : Nat → Sto → List D → Prop) (hl : ds.length ≤ sizeLine) (h0 : I 0 s0 [])
    (step : ∀ i d s acc, ds[i]? = some d → I i s acc → s.length = s0.length → ∃ ρ1, assignT tg d ρw = some ρ1 ∧ (ft ρ1 (s ++ [.lst acc])).sat fun b s1 =>
      if b = true then (fe ρ1 s1).sat fun y s2 => ∃ s', s2 = s' ++ [.lst acc] ∧ s'.length = s0.length ∧ I (i + 1) s' (acc ++ [y]) else ∃ s', s1 = s' ++ [.lst acc] ∧ s'.length = s0.length ∧ I (i + 1) s' acc)
    (fin : ∀ s ys, s.length = s0.length → I ds.length s ys → WF s0.length s ∧ hbds s0.length ys = true ∧ Q (.lst ys) s) : (lcRes false tg ft fe ρw (.fz ds) s0).sat Q := by
  obtain ⟨s, ys, e, l, h⟩ := lcGo_fz I hl h0 step
  unfold lcRes
  rw [srclen_fz, e]
  simp only
  rw [if_neg Bool.false_ne_true]
  obtain ⟨w, hy, q⟩ := fin s ys l h
  rw [exitD_new (Nat.le_refl _) l (by rw [← l]; simp) hy w]
  exact q
theorem lc_fzT {ds : List D} {ρw : En} {s0 : Sto} {Q : D → Sto → Prop} (I : Nat → Sto → List D → Prop) (hl : ds.length ≤ sizeLine) (h0 : I 0 s0 [])
    (step : ∀ i d s acc, ds[i]? = some d → I i s acc → s.length = s0.length → ∃ ρ1, assignT tg d ρw = some ρ1 ∧ (ft ρ1 (s ++ [.lst acc])).sat fun b s1 =>
      if b = true then (fe ρ1 s1).sat fun y s2 => ∃ s', s2 = s' ++ [.lst acc] ∧ s'.length = s0.length ∧ I (i + 1) s' (acc ++ [y]) else ∃ s', s1 = s' ++ [.lst acc] ∧ s'.length = s0.length ∧ I (i + 1) s' acc)
    (fin : ∀ s ys, s.length = s0.length → I ds.length s ys → Q (.hnd s0.length) (s ++ [.lst ys])) : (lcRes true tg ft fe ρw (.fz ds) s0).sat Q := by
  obtain ⟨s, ys, e, l, h⟩ := lcGo_fz I hl h0 step
  unfold lcRes
  rw [srclen_fz, e]
  simp only
  rw [if_pos trivial]
  exact fin s ys l h
/-- no writes, no tests: a map -/
theorem lc_map {ds : List D} {ρw : En} {s0 : Sto} {Q : D → Sto → Prop} (f : Nat → D → D) (hl : ds.length ≤ sizeLine) (hw : WF s0.length s0) (hf : ∀ i d, ds[i]? = some d → hbd s0.length (f i d) = true)
    (step : ∀ i d acc, ds[i]? = some d → hbds s0.length acc = true → ∃ ρ1, assignT tg d ρw = some ρ1 ∧ (fe ρ1 (s0 ++ [.lst acc])).sat fun y s2 => y = f i d ∧ s2 = s0 ++ [.lst acc])
    (fin : Q (.lst (ds.mapIdx f)) s0) : (lcRes false tg t_yes fe ρw (.fz ds) s0).sat Q := by
  refine lc_fz (fun i s acc => s = s0 ∧ acc = (ds.take i).mapIdx f ∧ hbds s0.length acc = true) hl ⟨rfl, rfl, rfl⟩ ?_ ?_
  · rintro i d s acc hd ⟨rfl, ea, hb⟩ _
    obtain ⟨ρ1, e1, h1⟩ := step i d acc hd hb
    refine ⟨ρ1, e1, ?_⟩
    rw [y_yes, if_pos rfl]
    refine h1.mono fun y s2 ⟨ey, es⟩ => ?_
    subst ey
    have hi : i < ds.length := (List.getElem?_eq_some_iff.mp hd).1
    have e3 : ds[i] = d := (List.getElem?_eq_some_iff.mp hd).2
    refine ⟨_, es, rfl, rfl, ?_, ?_⟩
    · rw [ea, List.take_add_one, hd]
      simp [List.mapIdx_append, Nat.min_eq_left (Nat.le_of_lt hi)]
    · rw [hbds_append, hb]
      simp [hf i d hd]
  · rintro s ys _ ⟨rfl, ea, hb⟩
    rw [List.take_length] at ea
    subst ea
    exact ⟨hw, hb, fin⟩
theorem lc_mapT {ds : List D} {ρw : En} {s0 : Sto} {Q : D → Sto → Prop} (f : Nat → D → D) (hl : ds.length ≤ sizeLine)
    (step : ∀ i d acc, ds[i]? = some d → ∃ ρ1, assignT tg d ρw = some ρ1 ∧ (fe ρ1 (s0 ++ [.lst acc])).sat fun y s2 => y = f i d ∧ s2 = s0 ++ [.lst acc])
    (fin : Q (.hnd s0.length) (s0 ++ [.lst (ds.mapIdx f)])) : (lcRes true tg t_yes fe ρw (.fz ds) s0).sat Q := by
  refine lc_fzT (fun i s acc => s = s0 ∧ acc = (ds.take i).mapIdx f) hl ⟨rfl, rfl⟩ ?_ ?_
  · rintro i d s acc hd ⟨rfl, ea⟩ _
    obtain ⟨ρ1, e1, h1⟩ := step i d acc hd
    refine ⟨ρ1, e1, ?_⟩
    rw [y_yes, if_pos rfl]
    refine h1.mono fun y s2 ⟨ey, es⟩ => ?_
    subst ey
    have hi : i < ds.length := (List.getElem?_eq_some_iff.mp hd).1
    refine ⟨_, es, rfl, rfl, ?_⟩
    rw [ea, List.take_add_one, hd]
    simp [List.mapIdx_append, Nat.min_eq_left (Nat.le_of_lt hi)]
  · rintro s ys _ ⟨rfl, ea⟩
    rw [List.take_length] at ea
    subst ea
    exact fin
/-! ### ranges -/
theorem rangeL_len {lo hi : Int} : (rangeL lo hi).length = (hi - lo).toNat := by unfold rangeL; simp
theorem rangeL_get {lo hi : Int} {i : Nat} {d : D} (h : (rangeL lo hi)[i]? = some d) : d = .int (lo + (i : Nat)) ∧ (i : Int) < hi - lo := by
  unfold rangeL at h
  rw [List.getElem?_map] at h
  by_cases hi' : i < (hi - lo).toNat
  · rw [List.getElem?_range hi'] at h
    simp at h
    exact ⟨h.symm, by omega⟩
  · rw [List.getElem?_eq_none (by simp; omega)] at h
    cases h
theorem rangeL_map {lo hi : Int} (f : Nat → D → D) : (rangeL lo hi).mapIdx f = (List.range (hi - lo).toNat).map fun (i : Nat) => f i (.int (lo + (i : Nat))) := by
  unfold rangeL
  apply List.ext_getElem?
  intro i
  rw [List.getElem?_mapIdx, List.getElem?_map, List.getElem?_map]
  by_cases h : i < (hi - lo).toNat
  · rw [List.getElem?_range h]; rfl
  · rw [List.getElem?_eq_none (by simp; omega)]; rfl
theorem rangeL0 {n : Nat} : rangeL 0 (n : Int) = (List.range n).map fun (i : Nat) => D.int (i : Nat) := by
  unfold rangeL
  simp
end
end DL

/-! DL11: plain reasoning: isinstance, the first handle, equal trees. -/
namespace DL
open PySem PySem.Spec L2
@[simp] theorem kit_NoneType_bool : kitB "NoneType" "bool" = some false := by decide +kernel
@[simp] theorem kit_NoneType_int : kitB "NoneType" "int" = some false := by decide +kernel
@[simp] theorem kit_NoneType_str : kitB "NoneType" "str" = some false := by decide +kernel
@[simp] theorem kit_NoneType_dict : kitB "NoneType" "dict" = some false := by decide +kernel
@[simp] theorem kit_NoneType_tuple : kitB "NoneType" "tuple" = some false := by decide +kernel
@[simp] theorem kit_NoneType_list : kitB "NoneType" "list" = some false := by decide +kernel
@[simp] theorem kit_NoneType_float : kitB "NoneType" "float" = some false := by decide +kernel
@[simp] theorem kit_bool_bool : kitB "bool" "bool" = some true := by decide +kernel
@[simp] theorem kit_bool_int : kitB "bool" "int" = some true := by decide +kernel
@[simp] theorem kit_bool_str : kitB "bool" "str" = some false := by decide +kernel
@[simp] theorem kit_bool_dict : kitB "bool" "dict" = some false := by decide +kernel
@[simp] theorem kit_bool_tuple : kitB "bool" "tuple" = some false := by decide +kernel
@[simp] theorem kit_bool_list : kitB "bool" "list" = some false := by decide +kernel
@[simp] theorem kit_bool_float : kitB "bool" "float" = some false := by decide +kernel
@[simp] theorem kit_int_bool : kitB "int" "bool" = some false := by decide +kernel
@[simp] theorem kit_int_int : kitB "int" "int" = some true := by decide +kernel
@[simp] theorem kit_int_str : kitB "int" "str" = some false := by decide +kernel
@[simp] theorem kit_int_dict : kitB "int" "dict" = some false := by decide +kernel
@[simp] theorem kit_int_tuple : kitB "int" "tuple" = some false := by decide +kernel
@[simp] theorem kit_int_list : kitB "int" "list" = some false := by decide +kernel
@[simp] theorem kit_int_float : kitB "int" "float" = some false := by decide +kernel
@[simp] theorem kit_str_bool : kitB "str" "bool" = some false := by decide +kernel
@[simp] theorem kit_str_int : kitB "str" "int" = some false := by decide +kernel
@[simp] theorem kit_str_str : kitB "str" "str" = some true := by decide +kernel
@[simp] theorem kit_str_dict : kitB "str" "dict" = some false := by decide +kernel
@[simp] theorem kit_str_tuple : kitB "str" "tuple" = some false := by decide +kernel
@[simp] theorem kit_str_list : kitB "str" "list" = some false := by decide +kernel
@[simp] theorem kit_str_float : kitB "str" "float" = some false := by decide +kernel
@[simp] theorem kit_tuple_bool : kitB "tuple" "bool" = some false := by decide +kernel
@[simp] theorem kit_tuple_int : kitB "tuple" "int" = some false := by decide +kernel
@[simp] theorem kit_tuple_str : kitB "tuple" "str" = some false := by decide +kernel
@[simp] theorem kit_tuple_dict : kitB "tuple" "dict" = some false := by decide +kernel
@[simp] theorem kit_tuple_tuple : kitB "tuple" "tuple" = some true := by decide +kernel
@[simp] theorem kit_tuple_list : kitB "tuple" "list" = some false := by decide +kernel
@[simp] theorem kit_tuple_float : kitB "tuple" "float" = some false := by decide +kernel
@[simp] theorem kit_list_bool : kitB "list" "bool" = some false := by decide +kernel
@[simp] theorem kit_list_int : kitB "list" "int" = some false := by decide +kernel
@[simp] theorem kit_list_str : kitB "list" "str" = some false := by decide +kernel
@[simp] theorem kit_list_dict : kitB "list" "dict" = some false := by decide +kernel
@[simp] theorem kit_list_tuple : kitB "list" "tuple" = some false := by decide +kernel
@[simp] theorem kit_list_list : kitB "list" "list" = some true := by decide +kernel
@[simp] theorem kit_list_float : kitB "list" "float" = some false := by decide +kernel
@[simp] theorem kit_dict_bool : kitB "dict" "bool" = some false := by decide +kernel
@[simp] theorem kit_dict_int : kitB "dict" "int" = some false := by decide +kernel
@[simp] theorem kit_dict_str : kitB "dict" "str" = some false := by decide +kernel
@[simp] theorem kit_dict_dict : kitB "dict" "dict" = some true := by decide +kernel
@[simp] theorem kit_dict_tuple : kitB "dict" "tuple" = some false := by decide +kernel
@[simp] theorem kit_dict_list : kitB "dict" "list" = some false := by decide +kernel
@[simp] theorem kit_dict_float : kitB "dict" "float" = some false := by decide +kernel
section
variable {st : Sto} {Q : D → Sto → Prop} {b : String} {as : List D}
def optB (o : Option Bool) (P : Bool → Prop) : Prop := match o with
  | some k => P k
  | none => False
@[simp] theorem optB_some {k : Bool} {P : Bool → Prop} : optB (some k) P = P k := (rfl)
theorem isi_gen {d : D} {a : String} (h : tyN st d = some a) : (isiF [d, .ty b] st).sat Q = optB (kitB a b) fun k => Q (.bl k) st := by
  show (match (tyN st d).bind (fun a => kitB a b) with | some k => Res.ok (D.bl k) st | none => .stuck).sat Q = _
  rw [h]
  show (match kitB a b with | some k => Res.ok (D.bl k) st | none => .stuck).sat Q = _
  cases kitB a b <;> rfl
@[simp] theorem isi_n : (isiF [.non, .ty b] st).sat Q = optB (kitB "NoneType" b) fun k => Q (.bl k) st := isi_gen rfl
@[simp] theorem isi_b {k : Bool} : (isiF [.bl k, .ty b] st).sat Q = optB (kitB "bool" b) fun k => Q (.bl k) st := isi_gen rfl
@[simp] theorem isi_i {k : Int} : (isiF [.int k, .ty b] st).sat Q = optB (kitB "int" b) fun k => Q (.bl k) st := isi_gen rfl
@[simp] theorem isi_s {k : Str} : (isiF [.str k, .ty b] st).sat Q = optB (kitB "str" b) fun k => Q (.bl k) st := isi_gen rfl
@[simp] theorem isi_t : (isiF [.tup as, .ty b] st).sat Q = optB (kitB "tuple" b) fun k => Q (.bl k) st := isi_gen rfl
@[simp] theorem isi_l : (isiF [.lst as, .ty b] st).sat Q = optB (kitB "list" b) fun k => Q (.bl k) st := isi_gen rfl
@[simp] theorem isi_r : (isiF [.ro as, .ty b] st).sat Q = optB (kitB "list" b) fun k => Q (.bl k) st := isi_gen rfl
theorem isi_h {n : Nat} (h : st[n]? = some (.lst as)) : (isiF [.hnd n, .ty b] st).sat Q = optB (kitB "list" b) fun k => Q (.bl k) st := isi_gen (by
  show (match st[n]? with | some (.lst _) => some "list" | none => none) = _
  rw [h])
@[simp] theorem len_h0 {r : Sto} : (lenD [.hnd 0] (.lst as :: r)).sat Q = Q (.int as.length) (.lst as :: r) := len_h rfl
theorem ix_h0 {r : Sto} {i : Int} : (ixD (.hnd 0) (.int i) (.lst as :: r)).sat Q = match atI as i with | some y => Q y (.lst as :: r) | none => False := by
  show (match atI as i with | some y => Res.ok y (.lst as :: r) | none => .stuck).sat Q = _
  cases atI as i <;> rfl
theorem set_h0 {r : Sto} {i : Int} {d : D} : setLD (.hnd 0) (.int i) d (.lst as :: r) = match ixN as.length i with | some j => some (.lst (as.set j d) :: r) | none => none := rfl
theorem ix_l' {i : Int} : (ixD (.lst as) (.int i) st).sat Q = match atI as i with | some y => Q y st | none => False := by
  show (match atI as i with | some y => Res.ok y st | none => .stuck).sat Q = _
  cases atI as i <;> rfl
theorem ix_t' {i : Int} : (ixD (.tup as) (.int i) st).sat Q = match atI as i with | some y => Q y st | none => False := by
  show (match atI as i with | some y => Res.ok y st | none => .stuck).sat Q = _
  cases atI as i <;> rfl
theorem ix_lN {k : Nat} {y : D} (h : as[k]? = some y) : (ixD (.lst as) (.int (k : Int)) st).sat Q = Q y st := ix_l (by rw [atI_nat1, h])
theorem ix_tN {k : Nat} {y : D} (h : as[k]? = some y) : (ixD (.tup as) (.int (k : Int)) st).sat Q = Q y st := ix_t (by rw [atI_nat1, h])
theorem ix_hN {n k : Nat} {y : D} (hn : st[n]? = some (.lst as)) (h : as[k]? = some y) : (ixD (.hnd n) (.int (k : Int)) st).sat Q = Q y st := ix_h hn (by rw [atI_nat1, h])
end
/-! ### equal trees: what _law_same takes for the same -/
theorem lstOf_app {st r : Sto} {d : D} {as : List D} (h : lstOf st d = some as) : lstOf (st ++ r) d = some as := by
  cases d with
  | hnd n =>
    have h : (match st[n]? with | some (Cell.lst ds) => some ds | none => none) = some as := h
    show (match (st ++ r)[n]? with | some (Cell.lst ds) => some ds | none => none) = some as
    cases e : st[n]? with
    | none => rw [e] at h; cases h
    | some c =>
      rw [List.getElem?_append_left (List.getElem?_eq_some_iff.mp e).1, e]
      rw [e] at h
      exact h
  | _ => exact h
def smD (st : Sto) : Nat → D → D → Prop
  | 0, _, _ => False
  | k + 1, a, b => (a = b ∧ flatD b = true) ∨ (∃ as bs, a = .tup as ∧ b = .tup bs ∧ as.length = bs.length ∧ bs.length ≤ 100000 ∧ ∀ (i : Nat) x y, as[i]? = some x → bs[i]? = some y → smD st k x y) ∨
      ∃ as bs, lstOf st a = some as ∧ lstOf st b = some bs ∧ as.length = bs.length ∧ bs.length ≤ 100000 ∧ ∀ (i : Nat) x y, as[i]? = some x → bs[i]? = some y → smD st k x y
theorem smD.app {st r : Sto} : ∀ {k : Nat} {a b : D}, smD st k a b → smD (st ++ r) k a b
  | 0, _, _, h => h
  | k + 1, a, b, h => by
    rcases h with h | ⟨as, bs, rfl, rfl, e, l, h⟩ | ⟨as, bs, e1, e2, e, l, h⟩
    · exact .inl h
    · exact .inr (.inl ⟨as, bs, rfl, rfl, e, l, fun i x y hx hy => (h i x y hx hy).app⟩)
    · exact .inr (.inr ⟨as, bs, lstOf_app e1, lstOf_app e2, e, l, fun i x y hx hy => (h i x y hx hy).app⟩)
/-- a tree without handles, of few levels and short rows -/
def okS : Nat → D → Prop
  | 0, _ => False
  | k + 1, .tup ds => ds.length ≤ 100000 ∧ ∀ d ∈ ds, okS k d
  | k + 1, .lst ds => ds.length ≤ 100000 ∧ ∀ d ∈ ds, okS k d
  | k + 1, .ro ds => ds.length ≤ 100000 ∧ ∀ d ∈ ds, okS k d
  | _ + 1, .hnd _ => False
  | _ + 1, .ty _ => False
  | _ + 1, _ => True
theorem okS.sm {st : Sto} : ∀ {k : Nat} {d : D}, okS k d → smD st k d d
  | 0, _, h => h
  | k + 1, .non, _ => .inl ⟨rfl, rfl⟩
  | k + 1, .bl _, _ => .inl ⟨rfl, rfl⟩
  | k + 1, .int _, _ => .inl ⟨rfl, rfl⟩
  | k + 1, .str _, _ => .inl ⟨rfl, rfl⟩
  | k + 1, .tup ds, h => .inr (.inl ⟨ds, ds, rfl, rfl, rfl, h.1, fun i x y hx hy => by rw [hx] at hy; cases hy; exact (h.2 _ (List.mem_of_getElem? hx)).sm⟩)
  | k + 1, .lst ds, h => .inr (.inr ⟨ds, ds, rfl, rfl, rfl, h.1, fun i x y hx hy => by rw [hx] at hy; cases hy; exact (h.2 _ (List.mem_of_getElem? hx)).sm⟩)
  | k + 1, .ro ds, h => .inr (.inr ⟨ds, ds, rfl, rfl, rfl, h.1, fun i x y hx hy => by rw [hx] at hy; cases hy; exact (h.2 _ (List.mem_of_getElem? hx)).sm⟩)
  | k + 1, .hnd _, h => h.elim
  | k + 1, .ty _, h => h.elim
theorem blsOf_true : ∀ n : Nat, blsOf (List.replicate n (.bl true)) = some (List.replicate n true)
  | 0 => rfl
  | n + 1 => by
    show (blsOf (List.replicate n (.bl true))).map (true :: ·) = _
    rw [blsOf_true n]; rfl
theorem all_true {st : Sto} {Q : D → Sto → Prop} {n : Nat} : (allF [.lst (List.replicate n (.bl true))] st).sat Q = Q (.bl true) st := by
  rw [all_l (blsOf_true n)]
  rw [show (List.replicate n true).all id = true by simp]
theorem mapIdx_const {n : Nat} {α : Type} {y : D} {as : List α} (h : as.length = n) : (as.mapIdx fun _ _ => y) = List.replicate n y := by
  subst h
  apply List.ext_getElem?
  intro i
  rw [List.getElem?_mapIdx, List.getElem?_replicate]
  by_cases h : i < as.length
  · rw [List.getElem?_eq_getElem h, if_pos h]; rfl
  · rw [List.getElem?_eq_none (by omega), if_neg h]; rfl
theorem lenD_lstOf {st : Sto} {Q : D → Sto → Prop} {d : D} {as : List D} (h : lstOf st d = some as) : (lenD [d] st).sat Q = Q (.int as.length) st := by
  cases d with
  | hnd n =>
    have h : (match st[n]? with | some (Cell.lst ds) => some ds | none => none) = some as := h
    show (match (match st[n]? with | some (Cell.lst ds) => some ds | none => none) with | some ds => Res.ok (D.int (ds.length : Int)) st | none => .stuck).sat Q = _
    rw [h]; rfl
  | lst ds => cases h; rfl
  | ro ds => cases h; rfl
  | _ => cases h
theorem ixD_lstOf {st : Sto} {Q : D → Sto → Prop} {d y : D} {as : List D} {k : Nat} (h : lstOf st d = some as) (hk : as[k]? = some y) : (ixD d (.int (k : Int)) st).sat Q = Q y st := by
  cases d with
  | hnd n =>
    have h : (match st[n]? with | some (Cell.lst ds) => some ds | none => none) = some as := h
    show (match (match st[n]? with | some (Cell.lst ds) => some ds | none => none).bind (fun ds => atI ds (k : Int)) with | some y => Res.ok y st | none => .stuck).sat Q = _
    rw [h]
    show (match atI as (k : Int) with | some y => Res.ok y st | none => .stuck).sat Q = _
    rw [atI_nat1, hk]; rfl
  | lst ds => cases h; exact ix_lN hk
  | ro ds => cases h; exact ix_r (by rw [atI_nat1, hk])
  | _ => cases h
theorem lstOf_ty {st : Sto} {d : D} {as : List D} (h : lstOf st d = some as) : tyN st d = some "list" := by
  cases d with
  | hnd n =>
    have h : (match st[n]? with | some (Cell.lst ds) => some ds | none => none) = some as := h
    show (match st[n]? with | some (Cell.lst _) => some "list" | none => none) = _
    cases e : st[n]? with
    | none => rw [e] at h; cases h
    | some c => cases c; rfl
  | lst ds => rfl
  | ro ds => rfl
  | _ => cases h
theorem lstOf_is {st : Sto} {d : D} {as : List D} (h : lstOf st d = some as) {Q : D → Sto → Prop} : (isD d .non st).sat Q = Q (.bl false) st := by
  cases d with
  | hnd n => rfl
  | lst ds => rfl
  | ro ds => rfl
  | _ => cases h
/-! ### rows by their places -/
def tab (n : Nat) (f : Nat → D) : List D := (List.range n).map f
@[simp] theorem tab_len {n : Nat} {f : Nat → D} : (tab n f).length = n := by unfold tab; simp
theorem tab_get {n k : Nat} {f : Nat → D} (h : k < n) : (tab n f)[k]? = some (f k) := by unfold tab; rw [List.getElem?_map, List.getElem?_range h]; rfl
theorem tab_of {n k : Nat} {f : Nat → D} {d : D} (h : (tab n f)[k]? = some d) : k < n ∧ d = f k := by
  by_cases hk : k < n
  · rw [tab_get hk] at h; cases h; exact ⟨hk, rfl⟩
  · rw [List.getElem?_eq_none (by rw [tab_len]; omega)] at h; cases h
theorem tab_ext {n : Nat} {f g : Nat → D} (h : ∀ k, k < n → f k = g k) : tab n f = tab n g := by
  unfold tab
  exact List.map_congr_left fun k hk => h k (List.mem_range.mp hk)
theorem tab_set {n k : Nat} {f : Nat → D} {d : D} : (tab n f).set k d = tab n fun j => if j = k then d else f j := by
  apply List.ext_getElem?
  intro j
  rw [List.getElem?_set]
  by_cases hj : j < n
  · rw [tab_get (f := fun j => if j = k then d else f j) hj, tab_len]
    by_cases e : k = j
    · rw [if_pos e, if_pos (by omega), if_pos e.symm]
    · rw [if_neg e, tab_get hj, if_neg (fun z => e z.symm)]
  · rw [List.getElem?_eq_none (l := tab n fun j => if j = k then d else f j) (by rw [tab_len]; omega)]
    by_cases e : k = j
    · rw [if_pos e, tab_len, if_neg (by omega)]
    · rw [if_neg e, List.getElem?_eq_none (by rw [tab_len]; omega)]
theorem tab_take {n k : Nat} {f : Nat → D} (h : k ≤ n) : (tab n f).take k = tab k f := by
  unfold tab
  rw [← List.map_take, List.take_range, Nat.min_eq_left h]
theorem tab_app {n : Nat} {f : Nat → D} {d : D} : tab n f ++ [d] = tab (n + 1) fun j => if j < n then f j else d := by
  unfold tab
  rw [List.range_succ, List.map_append]
  congr 1
  · exact List.map_congr_left fun k hk => by rw [if_pos (List.mem_range.mp hk)]
  · simp
theorem tab_rep {n : Nat} {d : D} : (List.replicate n [d]).flatten = tab n fun _ => d := by
  unfold tab
  induction n with
  | zero => rfl
  | succ n ih => rw [List.range_succ, List.map_append, ← ih, List.replicate_succ', List.flatten_append]; rfl
theorem atI_tab {n k : Nat} {f : Nat → D} (h : k < n) : atI (tab n f) (k : Int) = some (f k) := by rw [atI_nat1, tab_get h]
theorem ixN_tab {n k : Nat} (h : k < n) : ixN n (k : Int) = some k := by unfold ixN; simp [h]
theorem hbds_tab {n m : Nat} {f : Nat → D} (h : ∀ k, k < n → hbd m (f k) = true) : hbds m (tab n f) = true := hbds_map fun k hk => h k (List.mem_range.mp hk)
theorem tab_mapIdx {n : Nat} {f : Nat → D} {g : Nat → D → D} : (tab n f).mapIdx g = tab n fun j => g j (f j) := by
  unfold tab
  apply List.ext_getElem?
  intro j
  rw [List.getElem?_mapIdx, List.getElem?_map, List.getElem?_map]
  by_cases h : j < n
  · rw [List.getElem?_range h]; rfl
  · rw [List.getElem?_eq_none (by simp; omega)]; rfl
theorem rangeL_tab {n : Nat} : rangeL 0 (n : Int) = tab n fun k => .int (k : Nat) := rangeL0
theorem enumL_tab {k0 : Int} {ds : List D} : enumL k0 ds = tab ds.length fun i => .tup [.int (k0 + (i : Nat)), ds.getD i .non] := rfl
theorem enumT_tab {k0 : Int} {n : Nat} {f : Nat → D} : enumL k0 (tab n f) = tab n fun i => .tup [.int (k0 + (i : Nat)), f i] := by
  rw [enumL_tab, tab_len]
  refine tab_ext fun k hk => ?_
  rw [List.getD_eq_getElem?_getD, tab_get hk]; rfl
section
variable {st r : Sto} {as : List D} {i : Int} {Q : D → Sto → Prop} {d : D} {c : Cell} {R : Src → Sto → Prop}
@[simp] theorem enum_l {k0 : Int} : (enumF [.lst as, .int k0] st).sat R = ((-(2 ^ 63) ≤ k0 ∧ k0 < 2 ^ 63) ∧ R (.fz (enumL k0 as)) st) := by
  show (if -(2 ^ 63) ≤ k0 ∧ k0 < 2 ^ 63 then Res.ok (Src.fz (enumL k0 as)) st else .stuck).sat R = _
  rw [sat_if]; rfl
@[simp] theorem enum_t {k0 : Int} : (enumF [.tup as, .int k0] st).sat R = ((-(2 ^ 63) ≤ k0 ∧ k0 < 2 ^ 63) ∧ R (.fz (enumL k0 as)) st) := by
  show (if -(2 ^ 63) ≤ k0 ∧ k0 < 2 ^ 63 then Res.ok (Src.fz (enumL k0 as)) st else .stuck).sat R = _
  rw [sat_if]; rfl
@[simp] theorem enum1_l : (enumF1 [.lst as] st).sat R = R (.fz (enumL 0 as)) st := by first | rfl | (unfold enumF1; rfl)
@[simp] theorem enum1_t : (enumF1 [.tup as] st).sat R = R (.fz (enumL 0 as)) st := by first | rfl | (unfold enumF1; rfl)
theorem get_top : (st ++ c :: r)[st.length]? = some c := by simp
theorem get_top1 {c1 : Cell} : (st ++ c1 :: c :: r)[st.length + 1]? = some c := by simp
theorem ix_top : (ixD (.hnd st.length) (.int i) (st ++ .lst as :: r)).sat Q = match atI as i with | some y => Q y (st ++ .lst as :: r) | none => False := by
  show (match (match (st ++ Cell.lst as :: r)[st.length]? with | some (Cell.lst ds) => some ds | none => none).bind (fun ds => atI ds i) with | some y => Res.ok y (st ++ Cell.lst as :: r) | none => .stuck).sat Q = _
  rw [get_top]
  show (match atI as i with | some y => Res.ok y (st ++ Cell.lst as :: r) | none => .stuck).sat Q = _
  cases atI as i <;> rfl
theorem ix_top1 : (ixD (.hnd (st.length + 1)) (.int i) (st ++ c :: .lst as :: r)).sat Q = match atI as i with | some y => Q y (st ++ c :: .lst as :: r) | none => False := by
  show (match (match (st ++ c :: Cell.lst as :: r)[st.length + 1]? with | some (Cell.lst ds) => some ds | none => none).bind (fun ds => atI ds i) with | some y => Res.ok y (st ++ c :: Cell.lst as :: r) | none => .stuck).sat Q = _
  rw [get_top1]
  show (match atI as i with | some y => Res.ok y (st ++ c :: Cell.lst as :: r) | none => .stuck).sat Q = _
  cases atI as i <;> rfl
theorem set_top : setLD (.hnd st.length) (.int i) d (st ++ .lst as :: r) = match ixN as.length i with | some j => some (st ++ .lst (as.set j d) :: r) | none => none := by
  show (match (st ++ Cell.lst as :: r)[st.length]? with | some (Cell.lst ds) => (match ixN ds.length i with | some j => some ((st ++ Cell.lst as :: r).set st.length (.lst (ds.set j d))) | none => none) | none => none) = _
  rw [get_top]
  show (match ixN as.length i with | some j => some ((st ++ Cell.lst as :: r).set st.length (.lst (as.set j d))) | none => none) = _
  cases ixN as.length i with
  | none => rfl
  | some j => simp
theorem set_top1 : setLD (.hnd (st.length + 1)) (.int i) d (st ++ c :: .lst as :: r) = match ixN as.length i with | some j => some (st ++ c :: .lst (as.set j d) :: r) | none => none := by
  show (match (st ++ c :: Cell.lst as :: r)[st.length + 1]? with | some (Cell.lst ds) => (match ixN ds.length i with | some j => some ((st ++ c :: Cell.lst as :: r).set (st.length + 1) (.lst (ds.set j d))) | none => none) | none => none) = _
  rw [get_top1]
  show (match ixN as.length i with | some j => some ((st ++ c :: Cell.lst as :: r).set (st.length + 1) (.lst (as.set j d))) | none => none) = _
  cases ixN as.length i with
  | none => rfl
  | some j => simp
theorem tup_top : (tupF [.hnd st.length] (st ++ .lst as :: r)).sat Q = Q (.tup as) (st ++ .lst as :: r) := tup_h get_top
theorem len_top : (lenD [.hnd st.length] (st ++ .lst as :: r)).sat Q = Q (.int as.length) (st ++ .lst as :: r) := len_h get_top
theorem app_top (hl : as.length < sizeLine) : (appendM (.hnd st.length) [d] (st ++ .lst as :: r)).sat Q = Q .non (st ++ .lst (as ++ [d]) :: r) := by
  rw [app_h get_top hl]; simp
theorem exit_id (hw : WF st.length st) (h : hbd st.length d = true) : (exitD st.length d (st ++ r)).sat Q = Q d st := by rw [exitD_id' h rfl hw]; rfl
theorem exit_id0 (hw : WF st.length st) (h : hbd st.length d = true) : (exitD st.length d st).sat Q = Q d st := by
  have := exit_id (r := []) (Q := Q) hw h
  rwa [List.append_nil] at this
theorem exit_top (hw : WF st.length st) (h : hbds st.length as = true) : (exitD st.length (.hnd st.length) (st ++ .lst as :: r)).sat Q = Q (.lst as) st := by
  rw [exitD_new (Nat.le_refl _) rfl get_top h hw]; rfl
end

theorem tab_repl {n : Nat} {d : D} : List.replicate n d = tab n fun _ => d := by
  unfold tab
  induction n with
  | zero => rfl
  | succ n ih => rw [List.range_succ, List.map_append, ← ih, List.replicate_succ']; rfl
section
variable {ρ : En} {st : Sto} {tg : Tgt} {fb : FS} {fe : FE} {ft : FT} {N : Nd} {m : Nat} {f : Nat → D}
theorem for_tab (I : Nat → En → Sto → Prop) (h0 : I 0 ρ st)
    (step : ∀ i ρ st, i < m → I i ρ st → ∃ ρ1, assignT tg (f i) ρ = some ρ1 ∧ (fb ρ1 st).sat { nx := I (i + 1), ct := I (i + 1), bk := N.nx, rt := N.rt })
    (fin : ∀ ρ st, I m ρ st → N.nx ρ st) : (forGo (.fz (tab m f)) tg fb m 0 ρ st).sat N := by
  have := for_fz (ρ := ρ) (st := st) (tg := tg) (fb := fb) (N := N) (ds := tab m f) I h0 (fun i d ρ st hd h => by
    obtain ⟨hi, rfl⟩ := tab_of hd
    exact step i ρ st hi h) (fun ρ st h => fin ρ st (by rwa [tab_len] at h))
  rwa [tab_len] at this
/-- a comprehension over a table, no writes -/
theorem lc_tab {ρw : En} {Q : D → Sto → Prop} (g : Nat → D) (hl : m ≤ 16000000) (hw : WF st.length st) (hf : ∀ i, i < m → hbd st.length (g i) = true)
    (step : ∀ i acc, i < m → hbds st.length acc = true → ∃ ρ1, assignT tg (f i) ρw = some ρ1 ∧ (fe ρ1 (st ++ [.lst acc])).sat fun y s2 => y = g i ∧ s2 = st ++ [.lst acc])
    (fin : Q (.lst (tab m g)) st) : (lcRes false tg t_yes fe ρw (.fz (tab m f)) st).sat Q := by
  refine lc_map (fun i _ => g i) (by rw [tab_len]; unfold sizeLine; omega) hw (fun i d hd => hf i (tab_of hd).1) ?_ ?_
  · intro i d acc hd ha
    obtain ⟨hi, rfl⟩ := tab_of hd
    exact step i acc hi ha
  · rw [tab_mapIdx]; exact fin
theorem lc_tabT {ρw : En} {Q : D → Sto → Prop} (g : Nat → D) (hl : m ≤ 16000000)
    (step : ∀ i acc, i < m → ∃ ρ1, assignT tg (f i) ρw = some ρ1 ∧ (fe ρ1 (st ++ [.lst acc])).sat fun y s2 => y = g i ∧ s2 = st ++ [.lst acc])
    (fin : Q (.hnd st.length) (st ++ [.lst (tab m g)])) : (lcRes true tg t_yes fe ρw (.fz (tab m f)) st).sat Q := by
  refine lc_mapT (fun i _ => g i) (by rw [tab_len]; unfold sizeLine; omega) ?_ ?_
  · intro i d acc hd
    obtain ⟨hi, rfl⟩ := tab_of hd
    exact step i acc hi
  · rw [tab_mapIdx]; exact fin
/-- .. that writes: an invariant -/
theorem lc_tabI {ρw : En} {Q : D → Sto → Prop} (I : Nat → Sto → List D → Prop) (hl : m ≤ 16000000) (h0 : I 0 st [])
    (step : ∀ i s acc, i < m → I i s acc → s.length = st.length → ∃ ρ1, assignT tg (f i) ρw = some ρ1 ∧ (ft ρ1 (s ++ [.lst acc])).sat fun b s1 =>
      if b = true then (fe ρ1 s1).sat fun y s2 => ∃ s', s2 = s' ++ [.lst acc] ∧ s'.length = st.length ∧ I (i + 1) s' (acc ++ [y]) else ∃ s', s1 = s' ++ [.lst acc] ∧ s'.length = st.length ∧ I (i + 1) s' acc)
    (fin : ∀ s ys, s.length = st.length → I m s ys → WF st.length s ∧ hbds st.length ys = true ∧ Q (.lst ys) s) : (lcRes false tg ft fe ρw (.fz (tab m f)) st).sat Q := by
  refine lc_fz I (by rw [tab_len]; unfold sizeLine; omega) h0 ?_ (fun s ys l h => fin s ys l (by rwa [tab_len] at h))
  intro i d s acc hd h hs
  obtain ⟨hi, rfl⟩ := tab_of hd
  exact step i s acc hi h hs
end
@[simp] theorem hbds_num {n : Nat} {f : Nat → Int} {m : Nat} : hbds n (tab m fun i => .int (f i)) = true := hbds_tab fun _ _ => rfl

/-! ### == at rows of numbers and None -/
def numD : D → Bool
  | .non => true
  | .int _ => true
  | _ => false
theorem toPys_num : ∀ {as : List D}, as.all numD = true → ∃ ps, toPys as = some ps ∧ PyData.canLayAll0 ps = true ∧ PyData.depthAll ps = 0 ∧ PyData.eqvAll ps ps = true
  | [], _ => ⟨[], rfl, rfl, rfl, by simp [PyData.eqvAll]⟩
  | d :: as, h => by
    rw [List.all_cons, Bool.and_eq_true] at h
    obtain ⟨ps, e, h1, h2, h3⟩ := toPys_num h.2
    cases d with
    | non => exact ⟨.none :: ps, by simp [toPys, toPy, e], by simp [PyData.canLayAll0, PyData.canLay0, h1], by simp [PyData.depthAll, PyData.depth, h2], by simp [PyData.eqvAll, PyData.eqv, h3]⟩
    | int i => exact ⟨.int i :: ps, by simp [toPys, toPy, e], by simp [PyData.canLayAll0, PyData.canLay0, h1], by simp [PyData.depthAll, PyData.depth, h2], by simp [PyData.eqvAll, PyData.eqv, h3]⟩
    | _ => exact (Bool.false_ne_true h.1).elim
theorem eqB_num {st : Sto} {as : List D} (h : as.all numD = true) : eqB st (.lst as) (.lst as) = some true := by
  obtain ⟨ps, e, h1, h2, h3⟩ := toPys_num h
  have e2 : toPyH st (.lst as) = some (.list ps) := by
    show (toPys as).map PyData.list = _
    rw [e]; rfl
  have s : SeqAt.shaped (.list ps) = true := by simp [SeqAt.shaped, PyData.canLay0, PyData.depth, h1, h2]
  show (match toPyH st (.lst as), toPyH st (.lst as) with
    | some p, some q => if SeqAt.shaped p = true ∧ SeqAt.shaped q = true then some (PyData.eqv p q) else none
    | _, _ => none) = _
  rw [e2]
  show (if SeqAt.shaped (.list ps) = true ∧ SeqAt.shaped (.list ps) = true then some (PyData.eqv (.list ps) (.list ps)) else none) = _
  rw [if_pos ⟨s, s⟩]
  simp [PyData.eqv, h3]
end DL

namespace K14
open PySem PySem.Spec L2 DL
def m_needs : FS := (s_seq (s_if (t_val (e_bin isD (e_var 1) (e_c .non))) (s_ret (e_bin (mulD false) (e_tup [(e_c (.str "free"))]) (e_bin subD (e_var 0) (e_c (.int 1))))) s_next)
 (s_ret (e_call tupF (evs [(e_lc false (i_call rng1 (evs [(e_bin subD (e_var 0) (e_c (.int 1)))])) (.name 2) [2] t_yes (e_if (t_val (e_bin ltD (e_var 2) (e_var 1))) (e_c (.str "shut")) (e_if (t_val (e_bin eqD (e_var 2) (e_var 1))) (e_c (.str "open")) (e_c (.str "free")))))]))))
def c_needs : List D → Sto → Res D := arity 2 (fnM 3 m_needs)
def m__look_at_length : FS := (s_if (t_val (e_bin gtD (e_call lenD (evs [(e_var 0)])) (e_c (.int 400)))) s_stuck s_next)
def c__look_at_length : List D → Sto → Res D := arity 1 (fnM 1 m__look_at_length)
def m_done : FS := (s_seq (s_expr (e_call c__look_at_length (evs [(e_var 1)])))
 (s_seq (s_set 2 (e_bin (mulD true) (e_lst false [(e_c .non)]) (e_call lenD (evs [(e_var 0)]))))
 (s_seq (s_for (i_call enumF (evs [(e_var 1), (e_c (.int 1))])) (.tup [(.name 3), (.name 4)])
 (s_for (i_call enumF1 (evs [(e_call c_needs (evs [(e_bin (addD false) (e_call lenD (evs [(e_var 0)])) (e_c (.int 1))), (e_var 4)]))])) (.tup [(.name 5), (.name 6)])
 (s_seq (s_if (t_val (e_bin eqD (e_var 6) (e_c (.str "free")))) s_cont s_next)
 (s_seq (s_if (t_val (e_bin isntD (e_bin ixD (e_var 2) (e_var 5)) (e_c .non))) (s_seq (s_asg (e_bin ixD (e_var 2) (e_var 5)) (g_tup [(g_name 7), (g_name 8)]))
 (s_if (t_and (t_val (e_bin neD (e_var 8) (e_var 6))) (t_val (e_bin leD (e_bin subD (e_var 3) (e_var 7)) (e_bin ixD (e_var 0) (e_var 5))))) (s_ret (e_tup [(e_var 3), (e_var 5)])) s_next)) s_next)
 (s_asg (e_tup [(e_var 3), (e_var 6)]) (g_sub (e_var 2) (e_var 5)))))))
 (s_ret (e_c .non)))))
def c_done : List D → Sto → Res D := arity 2 (fnT 9 m_done)
def m_gate_standing : FS := (s_seq (s_expr (e_call c__look_at_length (evs [(e_var 1)])))
 (s_seq (s_set 2 (e_bin (mulD true) (e_lst false [(e_c (.str "free"))]) (e_call lenD (evs [(e_var 0)]))))
 (s_seq (s_for (i_call enumF (evs [(e_var 1), (e_c (.int 1))])) (.tup [(.name 3), (.name 4)])
 (s_seq (s_set 5 (e_bin subD (e_bin (addD false) (e_call lenD (evs [(e_var 1)])) (e_c (.int 1))) (e_var 3)))
 (s_for (i_call enumF1 (evs [(e_call c_needs (evs [(e_bin (addD false) (e_call lenD (evs [(e_var 0)])) (e_c (.int 1))), (e_var 4)]))])) (.tup [(.name 6), (.name 7)])
 (s_if (t_val (e_bin neD (e_var 7) (e_c (.str "free")))) (s_asg (e_if (t_val (e_bin leD (e_var 5) (e_bin ixD (e_var 0) (e_var 6)))) (e_tup [(e_var 7), (e_var 5)]) (e_c (.str "free"))) (g_sub (e_var 2) (e_var 6))) s_next))))
 (s_ret (e_call tupF (evs [(e_var 2)]))))))
def c_gate_standing : List D → Sto → Res D := arity 2 (fnT 8 m_gate_standing)
def m__law_open : FS := (s_seq (s_set 1 (e_c (.int 52711)))
 (s_seq (s_for (i_val (e_sl (slD false) (e_var 0) none (some (e_c (.int 63))))) (.name 2)
 (s_set 1 (e_bin modD (e_call intF (evs [(e_bin (addD false) (e_bin (addD false) (e_bin (mulD false) (e_var 1) (e_c (.int 48271))) (e_bin modD (e_call intF (evs [(e_var 2)])) (e_c (.int 2147483629)))) (e_c (.int 97)))])) (e_c (.int 2147483647)))))
 (s_ret (e_lst true [(e_call (listF false) (evs [(e_sl (slD false) (e_var 0) none (some (e_c (.int 63))))])), (e_c (.int 0)), (e_c (.int 0)), (e_c (.int 0)), (e_var 1), (e_c (.int 0))]))))
def c__law_open : List D → Sto → Res D := arity 1 (fnM 3 m__law_open)
def m__law_draw : FS := (s_seq (s_asg (e_bin (addD false) (e_bin ixD (e_var 0) (e_c (.int 5))) (e_c (.int 1))) (g_sub (e_var 0) (e_c (.int 5))))
 (s_seq (s_if (t_and (t_val (e_bin eqD (e_bin ixD (e_var 0) (e_c (.int 3))) (e_c (.int 0)))) (t_val (e_bin ltD (e_bin ixD (e_var 0) (e_c (.int 1))) (e_call lenD (evs [(e_bin ixD (e_var 0) (e_c (.int 0)))]))))) (s_seq (s_set 2 (e_call intF (evs [(e_bin ixD (e_bin ixD (e_var 0) (e_c (.int 0))) (e_bin ixD (e_var 0) (e_c (.int 1))))])))
 (s_seq (s_asg (e_bin (addD false) (e_bin ixD (e_var 0) (e_c (.int 1))) (e_c (.int 1))) (g_sub (e_var 0) (e_c (.int 1))))
 (s_if (t_val (e_bin geD (e_var 2) (e_bin powD (e_c (.int 10)) (e_c (.int 18))))) (s_asg (e_tup [(e_var 2), (e_c (.int 60))]) (g_tup [(g_sub (e_var 0) (e_c (.int 2))), (g_sub (e_var 0) (e_c (.int 3)))])) (s_asg (e_bin modD (e_call intF (evs [(e_bin (addD false) (e_bin (addD false) (e_bin (mulD false) (e_bin ixD (e_var 0) (e_c (.int 4))) (e_c (.int 16807))) (e_bin modD (e_var 2) (e_c (.int 2147483629)))) (e_c (.int 1009)))])) (e_c (.int 2147483647))) (g_sub (e_var 0) (e_c (.int 4))))))) s_next)
 (s_seq (s_if (t_val (e_bin gtD (e_bin ixD (e_var 0) (e_c (.int 3))) (e_c (.int 0)))) (s_seq (s_set 3 (e_bin modD (e_call intF (evs [(e_bin ixD (e_var 0) (e_c (.int 2)))])) (e_var 1)))
 (s_seq (s_asg (e_bin fdivD (e_bin ixD (e_var 0) (e_c (.int 2))) (e_var 1)) (g_sub (e_var 0) (e_c (.int 2))))
 (s_seq (s_asg (e_if (t_val (e_bin gtD (e_bin ixD (e_var 0) (e_c (.int 2))) (e_c (.int 0)))) (e_bin subD (e_bin ixD (e_var 0) (e_c (.int 3))) (e_c (.int 1))) (e_c (.int 0))) (g_sub (e_var 0) (e_c (.int 3))))
 (s_ret (e_var 3))))) s_next)
 (s_seq (s_asg (e_bin modD (e_call intF (evs [(e_bin (addD false) (e_bin (addD false) (e_bin (addD false) (e_bin (mulD false) (e_bin (mulD false) (e_bin ixD (e_var 0) (e_c (.int 4))) (e_bin ixD (e_var 0) (e_c (.int 4)))) (e_c (.int 30011))) (e_bin (mulD false) (e_bin ixD (e_var 0) (e_c (.int 4))) (e_c (.int 69621)))) (e_bin (mulD false) (e_bin ixD (e_var 0) (e_c (.int 5))) (e_c (.int 8111)))) (e_c (.int 14057)))])) (e_c (.int 2147483647))) (g_sub (e_var 0) (e_c (.int 4))))
 (s_ret (e_bin modD (e_call intF (evs [(e_bin (addD false) (e_bin fdivD (e_bin ixD (e_var 0) (e_c (.int 4))) (e_c (.int 67))) (e_bin (mulD false) (e_bin modD (e_call intF (evs [(e_bin ixD (e_var 0) (e_c (.int 4)))])) (e_c (.int 7919))) (e_c (.int 103))))])) (e_var 1)))))))
def c__law_draw : List D → Sto → Res D := arity 2 (fnM 4 m__law_draw)
def m__law_pick : FS := (s_ret (e_bin ixD (e_var 1) (e_call c__law_draw (evs [(e_var 0), (e_call lenD (evs [(e_var 1)]))]))))
def c__law_pick : List D → Sto → Res D := arity 2 (fnM 2 m__law_pick)
def m__law_whole : FS := (s_ret (e_and (e_call isiF (evs [(e_var 0), (e_c (.ty "int"))])) (e_not (e_call isiF (evs [(e_var 0), (e_c (.ty "bool"))])))))
def c__law_whole : List D → Sto → Res D := arity 1 (fnM 1 m__law_whole)
def cr__law_same : Nat → List D → Sto → Res D
  | 0 => fnM 4 s_stuck
  | k + 1 => let r := arity 2 (cr__law_same k); fnM 4
    ((s_seq (s_if (t_val (e_bin isD (e_var 1) (e_c .non))) (s_ret (e_bin isD (e_var 0) (e_c .non))) s_next)
 (s_seq (s_if (t_tru (e_call isiF (evs [(e_var 1), (e_c (.ty "bool"))]))) (s_ret (e_and (e_call isiF (evs [(e_var 0), (e_c (.ty "bool"))])) (e_bin eqD (e_var 0) (e_var 1)))) s_next)
 (s_seq (s_if (t_tru (e_call isiF (evs [(e_var 1), (e_c (.ty "int"))]))) (s_ret (e_and (e_call c__law_whole (evs [(e_var 0)])) (e_bin eqD (e_var 0) (e_var 1)))) s_next)
 (s_seq (s_if (t_tru (e_call isiF (evs [(e_var 1), (e_c (.ty "str"))]))) (s_ret (e_and (e_call isiF (evs [(e_var 0), (e_c (.ty "str"))])) (e_bin eqD (e_var 0) (e_var 1)))) s_next)
 (s_seq (s_if (t_tru (e_call isiF (evs [(e_var 1), (e_c (.ty "dict"))]))) (s_ret (e_and (e_call isiF (evs [(e_var 0), (e_c (.ty "dict"))])) (e_and (e_bin eqD (e_call lenD (evs [(e_var 0)])) (e_call lenD (evs [(e_var 1)]))) (e_call allF (evs [(e_lc false (i_val (e_var 1)) (.name 3) [3] t_yes (e_and (e_bin inD (e_var 3) (e_var 0)) (e_call r (evs [(e_bin ixD (e_var 0) (e_var 3)), (e_bin ixD (e_var 1) (e_var 3))]))))]))))) s_next)
 (s_seq (s_if (t_or (t_and (t_tru (e_call isiF (evs [(e_var 1), (e_c (.ty "tuple"))]))) (t_not (t_tru (e_call isiF (evs [(e_var 0), (e_c (.ty "tuple"))]))))) (t_or (t_and (t_tru (e_call isiF (evs [(e_var 1), (e_c (.ty "list"))]))) (t_not (t_tru (e_call isiF (evs [(e_var 0), (e_c (.ty "list"))]))))) (t_val (e_bin neD (e_call lenD (evs [(e_var 0)])) (e_call lenD (evs [(e_var 1)])))))) (s_ret (e_c (.bl false))) s_next)
 (s_ret (e_call allF (evs [(e_lc false (i_call rng1 (evs [(e_call lenD (evs [(e_var 1)]))])) (.name 2) [2] t_yes (e_call r (evs [(e_bin ixD (e_var 0) (e_var 2)), (e_bin ixD (e_var 1) (e_var 2))])))]))))))))))
def c__law_same (k : Nat) : List D → Sto → Res D := arity 2 (cr__law_same k)
def m__law_needs : FS := (s_seq (s_if (t_val (e_bin isD (e_var 1) (e_c .non))) (s_ret (e_lc false (i_call rng1 (evs [(e_var 0)])) (.name 2) [2] t_yes (e_c (.str "free")))) s_next)
 (s_ret (e_lc false (i_call rng1 (evs [(e_var 0)])) (.name 2) [2] t_yes (e_if (t_val (e_bin ltD (e_var 2) (e_var 1))) (e_c (.str "shut")) (e_if (t_val (e_bin eqD (e_var 2) (e_var 1))) (e_c (.str "open")) (e_c (.str "free")))))))
def c__law_needs : List D → Sto → Res D := arity 2 (fnM 3 m__law_needs)
def m__law_belt : FS := (s_seq (s_set 2 (e_lc true (i_val (e_var 0)) (.name 7) [7] t_yes (e_c (.str ""))))
 (s_seq (s_set 3 (e_lc true (i_val (e_var 0)) (.name 7) [7] t_yes (e_c (.int 0))))
 (s_seq (s_set 4 (e_c .non))
 (s_seq (s_for (i_call rng2 (evs [(e_c (.int 1)), (e_bin (addD false) (e_call lenD (evs [(e_var 1)])) (e_c (.int 1)))])) (.name 5)
 (s_seq (s_set 6 (e_call c__law_needs (evs [(e_call lenD (evs [(e_var 0)])), (e_bin ixD (e_var 1) (e_bin subD (e_var 5) (e_c (.int 1))))])))
 (s_for (i_call rng1 (evs [(e_call lenD (evs [(e_var 0)]))])) (.name 7)
 (s_seq (s_asg (e_bin (addD false) (e_bin ixD (e_var 3) (e_var 7)) (e_c (.int 1))) (g_sub (e_var 3) (e_var 7)))
 (s_if (t_val (e_bin neD (e_bin ixD (e_var 6) (e_var 7)) (e_c (.str "free")))) (s_seq (s_if (t_and (t_val (e_bin neD (e_bin ixD (e_var 2) (e_var 7)) (e_c (.str "")))) (t_and (t_val (e_bin neD (e_bin ixD (e_var 2) (e_var 7)) (e_bin ixD (e_var 6) (e_var 7)))) (t_and (t_val (e_bin leD (e_bin ixD (e_var 3) (e_var 7)) (e_bin ixD (e_var 0) (e_var 7)))) (t_val (e_bin isD (e_var 4) (e_c .non)))))) (s_set 4 (e_tup [(e_var 5), (e_var 7)])) s_next)
 (s_asg (e_tup [(e_bin ixD (e_var 6) (e_var 7)), (e_c (.int 0))]) (g_tup [(g_sub (e_var 2) (e_var 7)), (g_sub (e_var 3) (e_var 7))]))) s_next)))))
 (s_ret (e_tup [(e_var 4), (e_call tupF (evs [(e_lc false (i_call rng1 (evs [(e_call lenD (evs [(e_var 0)]))])) (.name 7) [7] t_yes (e_if (t_and (t_val (e_bin neD (e_bin ixD (e_var 2) (e_var 7)) (e_c (.str "")))) (t_val (e_bin ltD (e_bin ixD (e_var 3) (e_var 7)) (e_bin ixD (e_var 0) (e_var 7))))) (e_tup [(e_bin ixD (e_var 2) (e_var 7)), (e_bin (addD false) (e_bin ixD (e_var 3) (e_var 7)) (e_c (.int 1)))]) (e_c (.str "free"))))]))]))))))
def c__law_belt : List D → Sto → Res D := arity 2 (fnT 8 m__law_belt)
def m__law_throws : FS := (s_seq (s_set 3 (e_lst true []))
 (s_seq (s_for (i_call rng1 (evs [(e_call c__law_draw (evs [(e_var 0), (e_c (.int 15))]))])) (.name 4)
 (s_seq (s_set 5 (e_call c__law_draw (evs [(e_var 0), (e_bin (addD false) (e_call lenD (evs [(e_var 1)])) (e_c (.int 1)))])))
 (s_seq (s_if (t_val (e_bin eqD (e_call c__law_draw (evs [(e_var 0), (e_c (.int 4))])) (e_c (.int 0)))) (s_set 5 (e_c .non)) s_next)
 (s_seq (s_if (t_and (t_tru (e_var 2)) (t_val (e_bin isntD (e_bin ixD (e_call c__law_belt (evs [(e_var 1), (e_bin (addD false) (e_var 3) (e_lst false [(e_var 5)]))])) (e_c (.int 0))) (e_c .non)))) (s_set 5 (e_c .non)) s_next)
 (s_expr (e_mt "list" appendM (e_var 3) (evs [(e_var 5)])))))))
 (s_ret (e_var 3))))
def c__law_throws : List D → Sto → Res D := arity 3 (fnT 6 m__law_throws)
def m__law_row_right : FS := (s_seq (s_for (i_call rng1 (evs [(e_bin (addD false) (e_call lenD (evs [(e_var 2)])) (e_c (.int 1)))])) (.name 3)
 (s_seq (s_set 4 (e_if (t_val (e_bin eqD (e_call c__law_draw (evs [(e_var 0), (e_c (.int 2))])) (e_c (.int 0)))) (e_call (listF false) (evs [(e_sl (slD false) (e_var 2) none (some (e_var 3)))])) (e_call tupF (evs [(e_sl (slD false) (e_var 2) none (some (e_var 3)))]))))
 (s_seq (s_asg (e_call c__law_belt (evs [(e_var 1), (e_sl (slD false) (e_var 2) none (some (e_var 3)))])) (g_tup [(g_name 5), (g_name 6)]))
 (s_seq (s_set 7 (e_if (t_val (e_bin gtD (e_call c__law_draw (evs [(e_var 0), (e_c (.int 3))])) (e_c (.int 0)))) (e_call c_done (evs [(e_call tupF (evs [(e_var 1)])), (e_var 4)])) (e_callK c_done [1, 0] [] [(e_var 4), (e_call tupF (evs [(e_var 1)]))])))
 (s_if (t_or (t_not (t_tru (e_call (c__law_same 12) (evs [(e_var 7), (e_var 5)])))) (t_or (t_not (t_tru (e_call (c__law_same 12) (evs [(e_call c_gate_standing (evs [(e_call tupF (evs [(e_var 1)])), (e_var 4)])), (e_var 6)])))) (t_val (e_bin neD (e_call (listF false) (evs [(e_var 4)])) (e_sl (slD false) (e_var 2) none (some (e_var 3))))))) (s_ret (e_c (.bl false))) s_next)))))
 (s_seq (s_set 8 (e_bin (addD false) (e_var 2) (e_lst false [(e_call c__law_draw (evs [(e_var 0), (e_bin (addD false) (e_call lenD (evs [(e_var 1)])) (e_c (.int 1)))])), (e_c .non), (e_call c__law_draw (evs [(e_var 0), (e_bin (addD false) (e_call lenD (evs [(e_var 1)])) (e_c (.int 1)))]))])))
 (s_seq (s_asg (e_call c__law_belt (evs [(e_var 1), (e_var 8)])) (g_tup [(g_name 5), (g_name 6)]))
 (s_ret (e_and (e_call (c__law_same 12) (evs [(e_callK c_gate_standing [1, 0] [] [(e_call (listF false) (evs [(e_var 8)])), (e_call tupF (evs [(e_var 1)]))]), (e_var 6)])) (e_call (c__law_same 12) (evs [(e_call c_done (evs [(e_call tupF (evs [(e_var 1)])), (e_var 8)])), (e_var 5)])))))))
def c__law_row_right : List D → Sto → Res D := arity 3 (fnM 9 m__law_row_right)
def m_law : FS := (s_seq (s_set 1 (e_call c__law_open (evs [(e_var 0)])))
 (s_seq (s_set 2 (e_call c__law_pick (evs [(e_var 1), (e_lst false [(e_c (.int 1)), (e_c (.int 2)), (e_c (.int 3)), (e_c (.int 4)), (e_c (.int 2)), (e_c (.int 0))])])))
 (s_seq (s_set 3 (e_lc false (i_call rng1 (evs [(e_var 2)])) (.name 6) [6] t_yes (e_call c__law_pick (evs [(e_var 1), (e_lst false [(e_c (.int 0)), (e_c (.int 1)), (e_c (.int 2)), (e_c (.int 1)), (e_c (.int 3)), (e_c (.int 5)), (e_c (.int 20))])]))))
 (s_seq (s_for (i_call rng1 (evs [(e_bin (addD false) (e_var 2) (e_c (.int 1)))])) (.name 4)
 (s_seq (s_set 5 (e_call tupF (evs [(e_call c__law_needs (evs [(e_var 2), (e_var 4)]))])))
 (s_if (t_or (t_not (t_tru (e_call (c__law_same 12) (evs [(e_call c_needs (evs [(e_bin (addD false) (e_var 2) (e_c (.int 1))), (e_var 4)])), (e_var 5)])))) (t_not (t_tru (e_call (c__law_same 12) (evs [(e_callK c_needs [1, 0] [] [(e_var 4), (e_bin (addD false) (e_var 2) (e_c (.int 1)))]), (e_var 5)]))))) (s_ret (e_c (.bl false))) s_next)))
 (s_seq (s_if (t_not (t_tru (e_call (c__law_same 12) (evs [(e_call c_needs (evs [(e_bin (addD false) (e_var 2) (e_c (.int 1))), (e_c .non)])), (e_call tupF (evs [(e_lc false (i_call rng1 (evs [(e_var 2)])) (.name 6) [6] t_yes (e_c (.str "free")))]))])))) (s_ret (e_c (.bl false))) s_next)
 (s_seq (s_if (t_or (t_not (t_tru (e_call c__law_row_right (evs [(e_var 1), (e_var 3), (e_call c__law_throws (evs [(e_var 1), (e_var 3), (e_c (.bl true))]))])))) (t_not (t_tru (e_call c__law_row_right (evs [(e_var 1), (e_var 3), (e_call c__law_throws (evs [(e_var 1), (e_var 3), (e_c (.bl false))]))]))))) (s_ret (e_c (.bl false))) s_next)
 (s_seq (s_if (t_or (t_not (t_tru (e_call (c__law_same 12) (evs [(e_call c_done (evs [(e_tup [(e_c (.int 1)), (e_c (.int 2))]), (e_lst false [(e_c (.int 0)), (e_c .non), (e_c (.int 2)), (e_c (.int 1))])])), (e_tup [(e_c (.int 4)), (e_c (.int 1))])])))) (t_not (t_tru (e_call (c__law_same 12) (evs [(e_call c_gate_standing (evs [(e_tup [(e_c (.int 1)), (e_c (.int 2))]), (e_lst false [(e_c (.int 0)), (e_c .non), (e_c (.int 2))])])), (e_tup [(e_tup [(e_c (.str "shut")), (e_c (.int 1))]), (e_tup [(e_c (.str "shut")), (e_c (.int 1))])])]))))) (s_ret (e_c (.bl false))) s_next)
 (s_ret (e_and (e_bin isD (e_call c_done (evs [(e_tup [(e_c (.int 1)), (e_c (.int 2))]), (e_tup [(e_c (.int 0)), (e_c .non), (e_c (.int 2)), (e_c .non), (e_c .non), (e_c (.int 1))])])) (e_c .non)) (e_call (c__law_same 12) (evs [(e_call c_gate_standing (evs [(e_tup [(e_c (.int 2)), (e_c (.int 0))]), (e_lst false [(e_c (.int 0)), (e_c .non)])])), (e_tup [(e_tup [(e_c (.str "open")), (e_c (.int 2))]), (e_c (.str "free"))])])))))))))))
def c_law : List D → Sto → Res D := arity 1 (fnM 7 m_law)
abbrev l_law : List D → Sto → Res D := fnM 7 m_law
end K14

namespace K14
open PySem PySem.Spec L2 DL
/-! the deck -/
def DkOk (c : List D) : Prop := ∃ (ns : List Int) (p : Nat) (a b m n : Int), c = [.lst (ns.map D.int), .int p, .int a, .int b, .int m, .int n] ∧ 0 ≤ m ∧ m < 2147483647
theorem dk_mk {ns : List Int} {p : Nat} {a b m n : Int} (h0 : 0 ≤ m) (h1 : m < 2147483647) : DkOk [.lst (ns.map D.int), .int p, .int a, .int b, .int m, .int n] := ⟨ns, p, a, b, m, n, rfl, h0, h1⟩
theorem dk_mk1 {ns : List Int} {p : Nat} {a b m n : Int} (h0 : 0 ≤ m) (h1 : m < 2147483647) : DkOk [.lst (ns.map D.int), .int ((p : Int) + 1), .int a, .int b, .int m, .int n] := ⟨ns, p + 1, a, b, m, n, by simp, h0, h1⟩
theorem draw_sat {c : List D} {r : Sto} {top : Int} {Q : D → Sto → Prop} (h : DkOk c) (ht : 0 < top) (ht2 : top < 1073741824)
    (q : ∀ (i : Int) (c' : List D), DkOk c' → 0 ≤ i → i < top → Q (.int i) (.lst c' :: r)) : (c__law_draw [.hnd 0, .int top] (.lst c :: r)).sat Q := by
  obtain ⟨ns, p, a, b, m, n, rfl, hm, hm2⟩ := h
  have k0 : ∀ x : Int, 0 ≤ x % top := fun x => Int.emod_nonneg _ (by omega)
  have k1 : ∀ x : Int, x % top < top := fun x => Int.emod_lt_of_pos _ ht
  have m0 : ∀ x : Int, 0 ≤ x % 2147483647 := fun x => Int.emod_nonneg _ (by omega)
  have m1 : ∀ x : Int, x % 2147483647 < 2147483647 := fun x => Int.emod_lt_of_pos _ (by omega)
  have l0 : -18446744073709551616 < m := by omega
  have l1 : m < 18446744073709551616 := by omega
  have l2 : ∀ x : Int, -18446744073709551616 < x % 2147483647 := fun x => by have := m0 x; omega
  have l3 : ∀ x : Int, x % 2147483647 < 18446744073709551616 := fun x => by have := m1 x; omega
  unfold c__law_draw
  rw [sat_arity (by rfl), sat_M]
  unfold m__law_draw
  by_cases hb : b = 0
  · by_cases hp : p < ns.length
    · have hx : ∀ {st : Sto} {Q : D → Sto → Prop}, (ixD (.lst (ns.map D.int)) (.int (p : Int)) st).sat Q = Q (.int ns[p]) st := by
        intro st Q
        exact ix_l (by rw [atI_nat1, List.getElem?_map, List.getElem?_eq_getElem hp]; rfl)
      by_cases hc : 1000000000000000000 ≤ ns[p]
      · by_cases hd : 0 < ns[p] / top
        · simp [startD, ix_h0, set_h0, atI, ixN, mul_ii, hb, hp, hx, hc, hd, ht, ht2]
          exact q _ _ (dk_mk1 hm hm2) (k0 _) (k1 _)
        · simp [startD, ix_h0, set_h0, atI, ixN, mul_ii, hb, hp, hx, hc, hd, ht, ht2]
          exact q _ _ (dk_mk1 hm hm2) (k0 _) (k1 _)
      · simp [startD, ix_h0, set_h0, atI, ixN, mul_ii, hb, hp, hx, hc, ht, ht2, l2, l3]
        exact q _ _ (dk_mk1 (m0 _) (m1 _)) (k0 _) (k1 _)
    · simp [startD, ix_h0, set_h0, atI, ixN, mul_ii, hb, hp, ht, ht2, l0, l1]
      exact q _ _ (dk_mk (m0 _) (m1 _)) (k0 _) (k1 _)
  · by_cases hd : 0 < b
    · by_cases he : 0 < a / top
      · simp [startD, ix_h0, set_h0, atI, ixN, mul_ii, hb, hd, he, ht, ht2]
        exact q _ _ (dk_mk hm hm2) (k0 _) (k1 _)
      · simp [startD, ix_h0, set_h0, atI, ixN, mul_ii, hb, hd, he, ht, ht2]
        exact q _ _ (dk_mk hm hm2) (k0 _) (k1 _)
    · simp [startD, ix_h0, set_h0, atI, ixN, mul_ii, hb, hd, ht, ht2, l0, l1]
      exact q _ _ (dk_mk (m0 _) (m1 _)) (k0 _) (k1 _)
/-! pick, open -/
theorem pick_l {c as : List D} {r : Sto} {Q : D → Sto → Prop} (h : DkOk c) (h0 : 0 < as.length) (h1 : as.length < 1000)
    (q : ∀ (y : D) (c' : List D), DkOk c' → y ∈ as → Q y (.lst c' :: r)) : (c__law_pick [.hnd 0, .lst as] (.lst c :: r)).sat Q := by
  unfold c__law_pick
  rw [sat_arity (by rfl), sat_M]
  unfold m__law_pick
  simp [startD]
  refine draw_sat h (by omega) (by omega) fun i c' hc hi hi2 => ?_
  obtain ⟨k, rfl⟩ := Int.eq_ofNat_of_zero_le hi
  have hk : k < as.length := by omega
  rw [ix_l (y := as[k]) (by rw [atI_nat1, List.getElem?_eq_getElem hk])]
  exact q _ _ hc (List.getElem_mem hk)
theorem pick_t {c as : List D} {r : Sto} {Q : D → Sto → Prop} (h : DkOk c) (h0 : 0 < as.length) (h1 : as.length < 1000)
    (q : ∀ (y : D) (c' : List D), DkOk c' → y ∈ as → Q y (.lst c' :: r)) : (c__law_pick [.hnd 0, .tup as] (.lst c :: r)).sat Q := by
  unfold c__law_pick
  rw [sat_arity (by rfl), sat_M]
  unfold m__law_pick
  simp [startD]
  refine draw_sat h (by omega) (by omega) fun i c' hc hi hi2 => ?_
  obtain ⟨k, rfl⟩ := Int.eq_ofNat_of_zero_le hi
  have hk : k < as.length := by omega
  rw [ix_t (y := as[k]) (by rw [atI_nat1, List.getElem?_eq_getElem hk])]
  exact q _ _ hc (List.getElem_mem hk)
theorem open_go {ns : List Int} {d : D} (hd : d = .lst (ns.map D.int) ∨ d = .ro (ns.map D.int)) {Q : D → Sto → Prop} (q : ∀ c', DkOk c' → Q (.hnd 0) [.lst c']) : (c__law_open [d] []).sat Q := by
  unfold c__law_open
  rw [sat_arity (by rfl), sat_M]
  unfold m__law_open
  have hcut : cutL (ns.map D.int) none (some 63) = (ns.take 63).map D.int := by
    rw [show (63 : Int) = ((63 : Nat) : Int) from rfl, cutL_to, List.map_take]
  have key : ∀ st, (forGo (.fz ((ns.take 63).map D.int)) (.name 2) (s_set 1 (e_bin modD (e_call intF (evs [(e_bin (addD false) (e_bin (addD false) (e_bin (mulD false) (e_var 1) (e_c (.int 48271))) (e_bin modD (e_call intF (evs [(e_var 2)])) (e_c (.int 2147483629)))) (e_c (.int 97)))])) (e_c (.int 2147483647)))) ((ns.take 63).map D.int).length 0 [some d, some (.int 52711), none] st).sat
      { nx := fun ρ s => s = st ∧ ∃ (m : Int) (x : Option D), ρ = [some d, some (.int m), x] ∧ 0 ≤ m ∧ m < 2147483647 } := by
    intro st
    refine for_fz (fun _ ρ s => s = st ∧ ∃ (m : Int) (x : Option D), ρ = [some d, some (.int m), x] ∧ 0 ≤ m ∧ m < 2147483647) ⟨rfl, _, _, rfl, by omega, by omega⟩ ?_ (fun _ _ h => h)
    rintro i y ρ s hy ⟨rfl, m, x, rfl, h0, h1⟩
    rw [List.getElem?_map] at hy
    obtain ⟨z, _, rfl⟩ := Option.map_eq_some_iff.mp hy
    refine ⟨_, rfl, ?_⟩
    simp [mul_ii]
    exact ⟨Int.emod_nonneg _ (by omega), Int.emod_lt_of_pos _ (by omega)⟩
  rcases hd with rfl | rfl
  all_goals
    simp only [startD, List.map_cons, List.map_nil, List.length_cons, List.length_nil, ss_seq, ss_set, ss_for, ss_ret, i_val_sat, x_sl, x_c, p_none, p_some, intD_int, sl_l, sl_r, mkL_F, src_l, srclen_fz, x_lstT, xs_cons, xs_nil, x_call, hcut, List.cons_append, List.nil_append, List.set_cons_succ, List.set_cons_zero, List.replicate, x_var0, x_varS, list_l]
    refine (key []).from (fun ρ s ⟨e, m, x, eρ, h0, h1⟩ => ?_)
    subst e eρ
    simp [hcut]
    rw [← List.map_take]
    exact q _ (dk_mk (p := 0) h0 h1)
/-! same -/
theorem same_step (k : Nat) (a b : D) (st : Sto) (Q : D → Sto → Prop) (as bs : List D) (hw : WF st.length st)
    (ih : ∀ (st : Sto) (hw : WF st.length st) (a b : D) (Q : D → Sto → Prop), smD st k a b → Q (.bl true) st → (c__law_same k [a, b] st).sat Q) (q : Q (.bl true) st)
    (e : as.length = bs.length) (l : bs.length ≤ 100000) (h : ∀ (i : Nat) x y, as[i]? = some x → bs[i]? = some y → smD st k x y)
    (xa : ∀ (i : Nat) x (s : Sto) (Q : D → Sto → Prop), as[i]? = some x → (ixD a (.int (i : Int)) (st ++ s)).sat Q = Q x (st ++ s))
    (xb : ∀ (i : Nat) x (s : Sto) (Q : D → Sto → Prop), bs[i]? = some x → (ixD b (.int (i : Int)) (st ++ s)).sat Q = Q x (st ++ s)) :
    (lcRes false (.name 2) t_yes (e_call (arity 2 (cr__law_same k)) (evs [(e_bin ixD (e_var 0) (e_var 2)), (e_bin ixD (e_var 1) (e_var 2))])) (wipeD [some a, some b, none, none] [2]) (.fz (rangeL 0 bs.length)) st).sat fun d st1 => (allF [d] st1).sat Q := by
  refine lc_map (fun _ _ => .bl true) (by rw [rangeL_len]; unfold sizeLine; omega) hw (fun _ _ _ => rfl) ?_ ?_
  · intro i d acc hd hac
    obtain ⟨rfl, hi⟩ := rangeL_get hd
    refine ⟨_, rfl, ?_⟩
    have hi2 : i < bs.length := by omega
    simp only [Int.zero_add]
    simp [wipeD]
    rw [xa i _ _ _ (List.getElem?_eq_getElem (show i < as.length by omega))]
    simp
    rw [xb i _ _ _ (List.getElem?_eq_getElem hi2)]
    refine ih _ ?_ _ _ _ (smD.app (h i _ _ (List.getElem?_eq_getElem (show i < as.length by omega)) (List.getElem?_eq_getElem hi2))) ⟨rfl, rfl⟩
    rw [List.length_append]
    refine wf_append.mpr ⟨hw.mono (by omega), ?_⟩
    exact ⟨hbds_mono (by omega) hac, trivial⟩
  · rw [mapIdx_const (rangeL_len), all_true]
    exact q
theorem same_n (k : Nat) (st : Sto) (Q : D → Sto → Prop) (q : Q (.bl true) st) : (c__law_same (k + 1) [.non, .non] st).sat Q := by
  unfold c__law_same
  rw [sat_arity (by rfl)]
  unfold cr__law_same
  rw [sat_M]
  simp [startD]; exact q
theorem same_b (k : Nat) (st : Sto) (Q : D → Sto → Prop) (x : Bool) (q : Q (.bl true) st) : (c__law_same (k + 1) [.bl x, .bl x] st).sat Q := by
  unfold c__law_same
  rw [sat_arity (by rfl)]
  unfold cr__law_same
  rw [sat_M]
  simp [startD]; exact q
theorem same_i (k : Nat) (st : Sto) (Q : D → Sto → Prop) (x : Int) (q : Q (.bl true) st) : (c__law_same (k + 1) [.int x, .int x] st).sat Q := by
  unfold c__law_same
  rw [sat_arity (by rfl)]
  unfold cr__law_same
  rw [sat_M]
  simp [startD, c__law_whole, sat_arity, sat_M, m__law_whole]; exact q
theorem same_s (k : Nat) (st : Sto) (Q : D → Sto → Prop) (x : Str) (q : Q (.bl true) st) : (c__law_same (k + 1) [.str x, .str x] st).sat Q := by
  unfold c__law_same
  rw [sat_arity (by rfl)]
  unfold cr__law_same
  rw [sat_M]
  simp [startD]; exact q
theorem same_t (k : Nat) (st : Sto) (Q : D → Sto → Prop) (as bs : List D) (hw : WF st.length st)
    (ih : ∀ (st : Sto) (hw : WF st.length st) (a b : D) (Q : D → Sto → Prop), smD st k a b → Q (.bl true) st → (c__law_same k [a, b] st).sat Q) (q : Q (.bl true) st)
    (e : as.length = bs.length) (l : bs.length ≤ 100000) (h : ∀ (i : Nat) x y, as[i]? = some x → bs[i]? = some y → smD st k x y) : (c__law_same (k + 1) [.tup as, .tup bs] st).sat Q := by
  have := same_step k (.tup as) (.tup bs) st Q as bs hw ih q e l h (fun i x s Q hx => ix_tN hx) (fun i x s Q hx => ix_tN hx)
  unfold c__law_same
  rw [sat_arity (by rfl)]
  unfold cr__law_same
  rw [sat_M]
  simp [startD, e]
  exact ⟨by omega, this⟩

theorem same_l (k : Nat) (st : Sto) (Q : D → Sto → Prop) (a b : D) (as bs : List D) (e1 : lstOf st a = some as) (e2 : lstOf st b = some bs) (hw : WF st.length st)
    (ih : ∀ (st : Sto) (hw : WF st.length st) (a b : D) (Q : D → Sto → Prop), smD st k a b → Q (.bl true) st → (c__law_same k [a, b] st).sat Q) (q : Q (.bl true) st)
    (e : as.length = bs.length) (l : bs.length ≤ 100000) (h : ∀ (i : Nat) x y, as[i]? = some x → bs[i]? = some y → smD st k x y) : (c__law_same (k + 1) [a, b] st).sat Q := by
  have := same_step k a b st Q as bs hw ih q e l h (fun i x s Q hx => ixD_lstOf (lstOf_app e1) hx) (fun i x s Q hx => ixD_lstOf (lstOf_app e2) hx)
  unfold c__law_same
  rw [sat_arity (by rfl)]
  unfold cr__law_same
  rw [sat_M]
  simp [startD, lstOf_is e2, isi_gen (lstOf_ty e1), isi_gen (lstOf_ty e2), lenD_lstOf e1, lenD_lstOf e2, e]
  exact ⟨by omega, this⟩
theorem same_sat : ∀ (k : Nat) {st : Sto} (hw : WF st.length st) {a b : D} {Q : D → Sto → Prop}, smD st k a b → Q (.bl true) st → (c__law_same k [a, b] st).sat Q
  | 0, _, _, _, _, _, h, _ => h.elim
  | k + 1, st, hw, a, b, Q, h, q => by
    rcases h with ⟨rfl, hf⟩ | ⟨as, bs, rfl, rfl, e, l, h⟩ | ⟨as, bs, e1, e2, e, l, h⟩
    · cases a with
      | non => exact same_n k st Q q
      | bl x => exact same_b k st Q x q
      | int x => exact same_i k st Q x q
      | str x => exact same_s k st Q x q
      | _ => exact (Bool.false_ne_true hf).elim
    · exact same_t k st Q as bs hw (fun st hw a b Q h q => same_sat k hw h q) q e l h
    · exact same_l k st Q a b as bs e1 e2 hw (fun st hw a b Q h q => same_sat k hw h q) q e l h
end K14

namespace K14
open PySem PySem.Spec L2 DL
def laneD : Option Nat → D
  | none => .non
  | some k => .int k
def needS : Option Nat → Nat → Str
  | none, _ => "free"
  | some k, g => if g < k then "shut" else if g = k then "open" else "free"
def needL (l : Option Nat) (n : Nat) : List D := tab n fun g => .str (needS l g)
theorem needs_lc (k n : Nat) (hn : n ≤ 1000) (st : Sto) (hw : WF st.length st) (a : D) (Q : D → Sto → Prop) (q : Q (.lst (needL (some k) n)) st) :
    (lcRes false (.name 2) t_yes (e_if (t_val (e_bin ltD (e_var 2) (e_var 1))) (e_c (.str "shut")) (e_if (t_val (e_bin eqD (e_var 2) (e_var 1))) (e_c (.str "open")) (e_c (.str "free")))) (wipeD [some a, some (.int k), none] [2]) (.fz (rangeL 0 n)) st).sat Q := by
  rw [rangeL_tab]
  refine lc_map (fun i _ => .str (needS (some k) i)) (by rw [tab_len]; unfold sizeLine; omega) hw (fun _ _ _ => rfl) ?_ ?_
  · intro i d acc hd hac
    obtain ⟨hi, rfl⟩ := tab_of hd
    refine ⟨_, rfl, ?_⟩
    by_cases h1 : i < k
    · simp [wipeD, needS, h1]
    · by_cases h2 : i = k
      · simp [wipeD, needS, h2]
      · have : ¬ ((i : Int) = k) := by omega
        simp [wipeD, needS, h1, h2, this]
  · rw [tab_mapIdx]
    exact q
theorem needs_sat (l : Option Nat) (n : Nat) (hn : n ≤ 1000) (st : Sto) (hw : WF st.length st) (Q : D → Sto → Prop) (q : Q (.tup (needL l n)) st) : (c_needs [.int (n + 1), laneD l] st).sat Q := by
  unfold c_needs
  rw [sat_arity (by rfl), sat_M]
  unfold m_needs
  cases l with
  | none =>
    simp [startD, laneD]
    rw [mul_tk (by omega) (by omega) (by decide) (by decide)]
    rw [Int.toNat_natCast, tab_rep]
    exact q
  | some k =>
    have e : (n : Int) + 1 - 1 = n := by omega
    simp [startD, laneD, e]
    refine ⟨by omega, needs_lc k n hn st hw _ _ ?_⟩
    simp
    exact q
theorem lneeds_sat (l : Option Nat) (n : Nat) (hn : n ≤ 1000) (st : Sto) (hw : WF st.length st) (Q : D → Sto → Prop) (q : Q (.lst (needL l n)) st) : (c__law_needs [.int n, laneD l] st).sat Q := by
  unfold c__law_needs
  rw [sat_arity (by rfl), sat_M]
  unfold m__law_needs
  cases l with
  | none =>
    simp [startD, laneD]
    refine ⟨by omega, ?_⟩
    rw [rangeL_tab]
    refine lc_map (fun i _ => .str "free") (by rw [tab_len]; unfold sizeLine; omega) hw (fun _ _ _ => rfl) ?_ ?_
    · intro i d acc hd hac
      refine ⟨_, rfl, ?_⟩
      simp
    · rw [tab_mapIdx]
      exact q
  | some k =>
    simp [startD, laneD]
    exact ⟨by omega, needs_lc k n hn st hw _ _ q⟩

/-! ### what stands at each gate -/
def lastA (ls : Nat → Option Nat) : Nat → Nat → Option (Nat × Str)
  | 0, _ => none
  | b + 1, g => if needS (ls b) g = "free" then lastA ls b g else some (b + 1, needS (ls b) g)
theorem lastA_le {ls : Nat → Option Nat} : ∀ {b g : Nat} {x : Nat × Str}, lastA ls b g = some x → x.1 ≤ b ∧ x.2 ≠ "free" ∧ x.2 ≠ ""
  | 0, _, _, h => by cases h
  | b + 1, g, x, h => by
    unfold lastA at h
    by_cases hf : needS (ls b) g = "free"
    · rw [if_pos hf] at h
      have := lastA_le h
      exact ⟨by omega, this.2⟩
    · rw [if_neg hf] at h
      cases h
      refine ⟨Nat.le_refl _, hf, ?_⟩
      show needS (ls b) g ≠ ""
      unfold needS
      cases ls b with
      | none =>
        show ("free" : Str) ≠ ""
        decide
      | some k =>
        show (if g < k then ("shut" : Str) else if g = k then "open" else "free") ≠ ""
        split
        · decide
        · split <;> decide
def lastD : Option (Nat × Str) → D
  | none => .non
  | some (b, s) => .tup [.int b, .str s]
def viol (rs : Nat → Nat) (ls : Nat → Option Nat) (b g : Nat) : Bool := match lastA ls b g with
  | none => false
  | some (f, w) => decide (needS (ls b) g ≠ "free" ∧ w ≠ needS (ls b) g ∧ b + 1 ≤ rs g + f)
def inn (rs : Nat → Nat) (ls : Nat → Option Nat) (b : Nat) (acc : Option (Nat × Nat)) : Nat → Option (Nat × Nat)
  | 0 => acc
  | g + 1 => match inn rs ls b acc g with
    | some x => some x
    | none => if viol rs ls b g = true then some (b + 1, g) else none
def outV (rs : Nat → Nat) (ls : Nat → Option Nat) (n : Nat) : Nat → Option (Nat × Nat)
  | 0 => none
  | b + 1 => inn rs ls b (outV rs ls n b) n
theorem inn_some {rs : Nat → Nat} {ls : Nat → Option Nat} {b : Nat} {acc : Option (Nat × Nat)} {x : Nat × Nat} : ∀ {g h : Nat}, g ≤ h → inn rs ls b acc g = some x → inn rs ls b acc h = some x := by
  intro g h hl
  induction hl with
  | refl => exact id
  | step _ ih => intro e; unfold inn; rw [ih e]
theorem outV_some {rs : Nat → Nat} {ls : Nat → Option Nat} {n : Nat} {x : Nat × Nat} : ∀ {g h : Nat}, g ≤ h → outV rs ls n g = some x → outV rs ls n h = some x := by
  intro g h hl
  induction hl with
  | refl => exact id
  | step _ ih => intro e; unfold outV; exact inn_some (Nat.zero_le _) (ih e)
def resD : Option (Nat × Nat) → D
  | none => .non
  | some (b, g) => .tup [.int b, .int g]
def rsD (rs : Nat → Nat) (n : Nat) : List D := tab n fun g => .int (rs g)
def lsD (ls : Nat → Option Nat) (m : Nat) : List D := tab m fun b => laneD (ls b)
theorem look_sat {th : D} {L : List D} (ht : th = .lst L ∨ th = .tup L) (hl : L.length ≤ 400) {st : Sto} {Q : D → Sto → Prop} (q : Q .non st) : (c__look_at_length [th] st).sat Q := by
  unfold c__look_at_length
  rw [sat_arity (by rfl), sat_M]
  unfold m__look_at_length
  have : ¬ (400 : Int) < L.length := by omega
  rcases ht with rfl | rfl
  all_goals
    simp [startD, this]
    exact q
theorem done_sat (rs : Nat → Nat) (ls : Nat → Option Nat) (n m : Nat) (hn : n ≤ 900) (hm : m ≤ 400) {th : D} (ht : th = .lst (lsD ls m) ∨ th = .tup (lsD ls m)) {st : Sto} (hw : WF st.length st) {Q : D → Sto → Prop} (q : Q (resD (outV rs ls n m)) st) :
    (c_done [.tup (rsD rs n), th] st).sat Q := by
  unfold c_done
  rw [sat_arity (by rfl), sat_T]
  unfold m_done
  have hth : ∀ {R : Src → Sto → Prop} {s : Sto}, (enumF [th, .int 1] s).sat R = R (.fz (tab m fun i => .tup [.int (1 + (i : Nat)), laneD (ls i)])) s := by
    intro R s
    rcases ht with rfl | rfl
    · rw [enum_l]; unfold lsD; rw [enumT_tab]; simp
    · rw [enum_t]; unfold lsD; rw [enumT_tab]; simp
  simp [startD]
  refine look_sat ht (by unfold lsD; rw [tab_len]; exact hm) ?_
  simp [rsD]
  rw [mul_lk (by omega) (by omega) (by simp; unfold sizeLine; omega)]
  simp [tab_repl, hth]
  refine for_tab (fun b ρ s => s = st ++ [.lst (tab n fun g => lastD (lastA ls b g))] ∧ outV rs ls n b = none ∧ ∃ x3 x4 x5 x6 x7 x8, ρ = [some (.tup (rsD rs n)), some th, some (.hnd st.length), x3, x4, x5, x6, x7, x8])
    ⟨rfl, rfl, _, _, _, _, _, _, rfl⟩ ?_ ?_
  · rintro b ρ s hb ⟨rfl, ho, x3, x4, x5, x6, x7, x8, rfl⟩
    refine ⟨_, rfl, ?_⟩
    simp [rsD]
    refine needs_sat (ls b) n (by omega) _ ?_ _ ?_
    · rw [List.length_append]
      refine wf_append.mpr ⟨hw.mono (by omega), hbds_tab fun k hk => ?_, trivial⟩
      cases lastA ls b k <;> rfl
    · simp [needL, enumT_tab]
      refine for_tab (fun g ρ s => s = st ++ [.lst (tab n fun j => lastD (if j < g then lastA ls (b + 1) j else lastA ls b j))] ∧ inn rs ls b (outV rs ls n b) g = none ∧ ∃ x5 x6 x7 x8, ρ = [some (.tup (rsD rs n)), some th, some (.hnd st.length), some (.int (1 + (b : Nat))), some (laneD (ls b)), x5, x6, x7, x8])
        ⟨by simp, ho, _, _, _, _, rfl⟩ ?_ ?_
      · rintro g ρ s hg ⟨rfl, hi, y5, y6, y7, y8, rfl⟩
        refine ⟨_, rfl, ?_⟩
        by_cases hf : needS (ls b) g = "free"
        · have e1 : viol rs ls b g = false := by
            unfold viol
            cases lastA ls b g with
            | none => rfl
            | some x => simp [hf]
          have e2 : lastA ls (b + 1) g = lastA ls b g := by rw [lastA, if_pos hf]
          simp [hf, rsD]
          refine ⟨tab_ext fun j hj => ?_, ?_⟩
          · by_cases h1 : j < g
            · rw [if_pos h1, if_pos (by omega)]
            · by_cases h2 : j = g
              · subst h2; rw [if_neg h1, if_pos (by omega), e2]
              · rw [if_neg h1, if_neg (by omega)]
          · rw [inn, hi, e1]; rfl
        · have e2 : lastA ls (b + 1) g = some (b + 1, needS (ls b) g) := by rw [lastA, if_neg hf]
          have es : tab n (fun j => if j = g then D.tup [.int (1 + (b : Nat)), .str (needS (ls b) g)] else lastD (if j < g then lastA ls (b + 1) j else lastA ls b j)) = tab n fun j => lastD (if j < g + 1 then lastA ls (b + 1) j else lastA ls b j) := tab_ext fun j hj => by
            by_cases h2 : j = g
            · subst h2
              rw [if_pos rfl, if_pos (by omega), e2]
              simp [lastD]; omega
            · rw [if_neg h2]
              by_cases h1 : j < g
              · rw [if_pos h1, if_pos (by omega)]
              · rw [if_neg h1, if_neg (by omega)]
          cases hl : lastA ls b g with
          | none =>
            have hd : lastD none = .non := rfl
            have e1 : viol rs ls b g = false := by unfold viol; rw [hl]
            have e3 : inn rs ls b (outV rs ls n b) (g + 1) = none := by rw [inn, hi, e1]; rfl
            simp [hf, ix_top, atI_tab hg, hl, hd, set_top, ixN_tab hg, tab_set, es, e3, rsD]
          | some x =>
            obtain ⟨f, w⟩ := x
            have hd : lastD (some (f, w)) = .tup [.int f, .str w] := rfl
            have hfl := (lastA_le hl).1
            by_cases h1 : w = needS (ls b) g
            · subst h1
              have e1 : viol rs ls b g = false := by unfold viol; rw [hl]; simp
              have e3 : inn rs ls b (outV rs ls n b) (g + 1) = none := by rw [inn, hi, e1]; rfl
              simp [hf, ix_top, atI_tab hg, hl, hd, set_top, ixN_tab hg, tab_set, es, e3, rsD]
            · by_cases h2 : b + 1 ≤ rs g + f
              · have e1 : viol rs ls b g = true := by unfold viol; rw [hl]; simp [h1, h2, hf]
                have e3 : inn rs ls b (outV rs ls n b) (g + 1) = some (b + 1, g) := by rw [inn, hi, e1]; rfl
                have e4 : outV rs ls n m = some (b + 1, g) := outV_some (g := b + 1) (by omega) (by rw [outV]; exact inn_some (g := g + 1) (by omega) e3)
                have h3 : (1 : Int) + b - f ≤ rs g := by omega
                rw [e4] at q
                simp [hf, ix_top, atI_tab hg, hl, hd, set_top, ixN_tab hg, tab_set, es, rsD, h1, ix_t', h3]
                rw [exit_id hw rfl]
                rw [show (1 : Int) + b = ((b + 1 : Nat) : Int) by omega]
                exact q
              · have e1 : viol rs ls b g = false := by unfold viol; rw [hl]; simp [h1, h2]
                have e3 : inn rs ls b (outV rs ls n b) (g + 1) = none := by rw [inn, hi, e1]; rfl
                have h3 : ¬ (1 : Int) + b - f ≤ rs g := by omega
                simp [hf, ix_top, atI_tab hg, hl, hd, set_top, ixN_tab hg, tab_set, es, e3, rsD, h1, ix_t', h3]
      · rintro ρ s ⟨rfl, hi, y5, y6, y7, y8, rfl⟩
        refine ⟨?_, hi, _, _, _, _, _, _, rfl⟩
        congr 3
        exact tab_ext fun j hj => by rw [if_pos hj]
  · rintro ρ s ⟨rfl, ho, x3, x4, x5, x6, x7, x8, rfl⟩
    rw [ho] at q
    simp
    rw [exit_id hw rfl]
    exact q
def toldD (rs : Nat → Nat) (m : Nat) (g : Nat) : Option (Nat × Str) → D
  | none => .str "free"
  | some (f, w) => if m + 1 ≤ rs g + f then .tup [.str w, .int ((m : Int) + 1 - f)] else .str "free"
@[simp] theorem toldD_some {rs : Nat → Nat} {m g f : Nat} {w : Str} : toldD rs m g (some (f, w)) = if m + 1 ≤ rs g + f then .tup [.str w, .int ((m : Int) + 1 - f)] else .str "free" := (rfl)
@[simp] theorem toldD_none {rs : Nat → Nat} {m g : Nat} : toldD rs m g none = .str "free" := (rfl)
theorem told_bd (rs : Nat → Nat) (m g k : Nat) (x : Option (Nat × Str)) : hbd k (toldD rs m g x) = true := by
  cases x with
  | none => rfl
  | some x => obtain ⟨f, w⟩ := x; rw [toldD_some]; split <;> rfl
theorem stand_sat (rs : Nat → Nat) (ls : Nat → Option Nat) (n m : Nat) (hn : n ≤ 900) (hm : m ≤ 400) {th : D} (ht : th = .lst (lsD ls m) ∨ th = .tup (lsD ls m)) {st : Sto} (hw : WF st.length st) {Q : D → Sto → Prop} (q : Q (.tup (tab n fun g => toldD rs m g (lastA ls m g))) st) :
    (c_gate_standing [.tup (rsD rs n), th] st).sat Q := by
  unfold c_gate_standing
  rw [sat_arity (by rfl), sat_T]
  unfold m_gate_standing
  have hth : ∀ {R : Src → Sto → Prop} {s : Sto}, (enumF [th, .int 1] s).sat R = R (.fz (tab m fun i => .tup [.int (1 + (i : Nat)), laneD (ls i)])) s := by
    intro R s
    rcases ht with rfl | rfl
    · rw [enum_l]; unfold lsD; rw [enumT_tab]; simp
    · rw [enum_t]; unfold lsD; rw [enumT_tab]; simp
  have hlen : ∀ {Q : D → Sto → Prop} {s : Sto}, (lenD [th] s).sat Q = Q (.int m) s := by
    intro Q s
    rcases ht with rfl | rfl
    · rw [len_l]; unfold lsD; rw [tab_len]
    · rw [len_t]; unfold lsD; rw [tab_len]
  have hb0 := told_bd rs m
  simp [startD]
  refine look_sat ht (by unfold lsD; rw [tab_len]; exact hm) ?_
  simp [rsD]
  rw [mul_lk (by omega) (by omega) (by simp; unfold sizeLine; omega)]
  simp [tab_repl, hth]
  refine for_tab (fun b ρ s => s = st ++ [.lst (tab n fun g => toldD rs m g (lastA ls b g))] ∧ ∃ x3 x4 x5 x6 x7, ρ = [some (.tup (rsD rs n)), some th, some (.hnd st.length), x3, x4, x5, x6, x7])
    ⟨rfl, _, _, _, _, _, rfl⟩ ?_ ?_
  · rintro b ρ s hb ⟨rfl, x3, x4, x5, x6, x7, rfl⟩
    refine ⟨_, rfl, ?_⟩
    simp [rsD, hlen]
    refine needs_sat (ls b) n (by omega) _ ?_ _ ?_
    · rw [List.length_append]
      exact wf_append.mpr ⟨hw.mono (by omega), hbds_tab fun k hk => hb0 _ _ _, trivial⟩
    · simp [needL, enumT_tab]
      refine for_tab (fun g ρ s => s = st ++ [.lst (tab n fun j => toldD rs m j (if j < g then lastA ls (b + 1) j else lastA ls b j))] ∧ ∃ x6 x7, ρ = [some (.tup (rsD rs n)), some th, some (.hnd st.length), some (.int (1 + (b : Nat))), some (laneD (ls b)), some (.int ((m : Int) + 1 - (1 + (b : Nat)))), x6, x7])
        ⟨by simp, _, _, rfl⟩ ?_ ?_
      · rintro g ρ s hg ⟨rfl, y6, y7, rfl⟩
        refine ⟨_, rfl, ?_⟩
        by_cases hf : needS (ls b) g = "free"
        · have e2 : lastA ls (b + 1) g = lastA ls b g := by rw [lastA, if_pos hf]
          simp [hf, rsD]
          refine tab_ext fun j hj => ?_
          by_cases h1 : j < g
          · rw [if_pos h1, if_pos (by omega)]
          · by_cases h2 : j = g
            · subst h2; rw [if_neg h1, if_pos (by omega), e2]
            · rw [if_neg h1, if_neg (by omega)]
        · have e2 : lastA ls (b + 1) g = some (b + 1, needS (ls b) g) := by rw [lastA, if_neg hf]
          have es : tab n (fun j => if j = g then toldD rs m g (some (b + 1, needS (ls b) g)) else toldD rs m j (if j < g then lastA ls (b + 1) j else lastA ls b j)) = tab n fun j => toldD rs m j (if j < g + 1 then lastA ls (b + 1) j else lastA ls b j) := tab_ext fun j hj => by
            by_cases h2 : j = g
            · subst h2
              rw [if_pos rfl, if_pos (by omega), e2]
            · rw [if_neg h2]
              by_cases h1 : j < g
              · rw [if_pos h1, if_pos (by omega)]
              · rw [if_neg h1, if_neg (by omega)]
          by_cases h3 : m + 1 ≤ rs g + (b + 1)
          · have h4 : (m : Int) + 1 - (1 + (b : Nat)) ≤ rs g := by omega
            have h5 : toldD rs m g (some (b + 1, needS (ls b) g)) = .tup [.str (needS (ls b) g), .int ((m : Int) + 1 - (1 + (b : Nat)))] := by
              rw [toldD_some, if_pos h3]; congr 4; omega
            rw [h5] at es
            simp [hf, ix_t', atI_tab hg, h4, set_top, ixN_tab hg, tab_set, es, rsD]
          · have h4 : ¬ (m : Int) + 1 - (1 + (b : Nat)) ≤ rs g := by omega
            have h5 : toldD rs m g (some (b + 1, needS (ls b) g)) = .str "free" := by
              rw [toldD_some, if_neg h3]
            rw [h5] at es
            simp [hf, ix_t', atI_tab hg, h4, set_top, ixN_tab hg, tab_set, es, rsD]
      · rintro ρ s ⟨rfl, y6, y7, rfl⟩
        refine ⟨?_, _, _, _, _, _, rfl⟩
        congr 3
        exact tab_ext fun j hj => by rw [if_pos hj]
  · rintro ρ s ⟨rfl, x3, x4, x5, x6, x7, rfl⟩
    simp [tup_top]
    rw [exit_id hw (show hbd _ (.tup _) = true from hbds_tab fun k hk => hb0 _ _ _)]
    exact q
def stS : Option (Nat × Str) → Str
  | none => ""
  | some (_, w) => w
def idI (b : Nat) : Option (Nat × Str) → Int
  | none => b
  | some (f, _) => (b : Int) - f
theorem rangeL_tabS {n : Nat} : rangeL 0 ((n : Int) + 1) = tab (n + 1) fun k => .int (k : Nat) := by
  rw [← rangeL_tab]; rfl
theorem rangeL_tab1 {m : Nat} : rangeL 1 ((m : Int) + 1) = tab m fun k => .int (1 + (k : Nat)) := by
  unfold rangeL tab
  rw [show ((m : Int) + 1 - 1).toNat = m by omega]
theorem resD_is {x : Option (Nat × Nat)} {st : Sto} {Q : D → Sto → Prop} : (isD (resD x) .non st).sat Q = Q (.bl x.isNone) st := by cases x <;> rfl
theorem resD_isnt {x : Option (Nat × Nat)} {st : Sto} {Q : D → Sto → Prop} : (isntD (resD x) .non st).sat Q = Q (.bl x.isSome) st := by cases x <;> rfl
theorem resD_bd (k : Nat) (x : Option (Nat × Nat)) : hbd k (resD x) = true := by cases x <;> rfl
theorem belt_sat (rs : Nat → Nat) (ls : Nat → Option Nat) (n m : Nat) (hn : n ≤ 900) (hm : m ≤ 400) {st : Sto} (hw : WF st.length st) {Q : D → Sto → Prop}
    (q : Q (.tup [resD (outV rs ls n m), .tup (tab n fun g => toldD rs m g (lastA ls m g))]) st) : (c__law_belt [.lst (rsD rs n), .lst (lsD ls m)] st).sat Q := by
  unfold c__law_belt
  rw [sat_arity (by rfl), sat_T]
  unfold m__law_belt
  simp [startD, rsD]
  refine lc_tabT (fun _ => .str "") (by omega) (fun i acc hi => ⟨_, rfl, by simp⟩) ?_
  simp
  refine lc_tabT (fun _ => .int 0) (by omega) (fun i acc hi => ⟨_, rfl, by simp⟩) ?_
  simp [lsD, rangeL_tab1]
  refine ⟨⟨by omega, by omega⟩, ?_⟩
  refine for_tab (fun b ρ s => s = st ++ [.lst (tab n fun g => .str (stS (lastA ls b g))), .lst (tab n fun g => .int (idI b (lastA ls b g)))] ∧ ∃ x5 x6 x7, ρ = [some (.lst (rsD rs n)), some (.lst (lsD ls m)), some (.hnd st.length), some (.hnd (st.length + 1)), some (resD (outV rs ls n b)), x5, x6, x7])
    ⟨rfl, _, _, _, rfl⟩ ?_ ?_
  · rintro b ρ s hb ⟨rfl, x5, x6, x7, rfl⟩
    refine ⟨_, rfl, ?_⟩
    have e9 : (1 : Int) + b - 1 = b := by omega
    simp [rsD, lsD, ix_l', e9, atI_tab hb]
    refine lneeds_sat (ls b) n (by omega) _ ?_ _ ?_
    · rw [List.length_append]
      exact wf_append.mpr ⟨hw.mono (by omega), hbds_tab fun k hk => rfl, hbds_tab fun k hk => rfl, trivial⟩
    · simp [needL, rangeL_tab]
      refine ⟨by omega, ?_⟩
      refine for_tab (fun g ρ s => s = st ++ [.lst (tab n fun j => .str (stS (if j < g then lastA ls (b + 1) j else lastA ls b j))), .lst (tab n fun j => .int (if j < g then idI (b + 1) (lastA ls (b + 1) j) else idI b (lastA ls b j)))] ∧
          ∃ x7, ρ = [some (.lst (rsD rs n)), some (.lst (lsD ls m)), some (.hnd st.length), some (.hnd (st.length + 1)), some (resD (inn rs ls b (outV rs ls n b) g)), some (.int (1 + (b : Nat))), some (.lst (needL (ls b) n)), x7])
        ⟨by simp, _, rfl⟩ ?_ ?_
      · rintro g ρ s hg ⟨rfl, y7, rfl⟩
        refine ⟨_, rfl, ?_⟩
        have ei : tab n (fun j => if j = g then D.int (idI b (lastA ls b g) + 1) else D.int (if j < g then idI (b + 1) (lastA ls (b + 1) j) else idI b (lastA ls b j))) = tab n (fun j => D.int (if j = g then idI b (lastA ls b g) + 1 else (if j < g then idI (b + 1) (lastA ls (b + 1) j) else idI b (lastA ls b j)))) := tab_ext fun j hj => by split <;> rfl
        by_cases hf : needS (ls b) g = "free"
        · have e1 : viol rs ls b g = false := by
            unfold viol
            cases lastA ls b g with
            | none => rfl
            | some x => simp [hf]
          have e2 : lastA ls (b + 1) g = lastA ls b g := by rw [lastA, if_pos hf]
          have e3 : inn rs ls b (outV rs ls n b) (g + 1) = inn rs ls b (outV rs ls n b) g := by
            rw [inn, e1]
            cases inn rs ls b (outV rs ls n b) g <;> rfl
          have e4 : idI b (lastA ls b g) + 1 = idI (b + 1) (lastA ls b g) := by
            cases lastA ls b g with
            | none => simp [idI]
            | some x => obtain ⟨f, w⟩ := x; simp [idI]; omega
          simp [ix_top, ix_top1, set_top1, ixN_tab hg, atI_tab hg, tab_set, needL, ix_l', hf, rsD, lsD, e3]
          refine ⟨tab_ext fun j hj => ?_, tab_ext fun j hj => ?_⟩
          · by_cases h1 : j < g
            · rw [if_pos h1, if_pos (by omega)]
            · by_cases h2 : j = g
              · subst h2; rw [if_neg h1, if_pos (by omega), e2]
              · rw [if_neg h1, if_neg (by omega)]
          · by_cases h2 : j = g
            · subst h2; rw [if_pos rfl, if_pos (by omega), e2, e4]
            · rw [if_neg h2]
              by_cases h1 : j < g
              · rw [if_pos h1, if_pos (by omega)]
              · rw [if_neg h1, if_neg (by omega)]
        · have e2 : lastA ls (b + 1) g = some (b + 1, needS (ls b) g) := by rw [lastA, if_neg hf]
          have es : tab n (fun j => if j = g then D.str (needS (ls b) g) else D.str (stS (if j < g then lastA ls (b + 1) j else lastA ls b j))) = tab n fun j => D.str (stS (if j < g + 1 then lastA ls (b + 1) j else lastA ls b j)) := tab_ext fun j hj => by
            by_cases h2 : j = g
            · subst h2; rw [if_pos rfl, if_pos (by omega), e2]; rfl
            · rw [if_neg h2]
              by_cases h1 : j < g
              · rw [if_pos h1, if_pos (by omega)]
              · rw [if_neg h1, if_neg (by omega)]
          have ez : tab n (fun j => if j = g then D.int 0 else if j = g then D.int (idI b (lastA ls b g) + 1) else D.int (if j < g then idI (b + 1) (lastA ls (b + 1) j) else idI b (lastA ls b j))) = tab n fun j => D.int (if j < g + 1 then idI (b + 1) (lastA ls (b + 1) j) else idI b (lastA ls b j)) := tab_ext fun j hj => by
            by_cases h2 : j = g
            · subst h2
              rw [if_pos rfl, if_pos (by omega), e2]
              show D.int 0 = .int (((b + 1 : Nat) : Int) - ((b + 1 : Nat) : Int))
              congr 1; omega
            · rw [if_neg h2, if_neg h2]
              by_cases h1 : j < g
              · rw [if_pos h1, if_pos (by omega)]
              · rw [if_neg h1, if_neg (by omega)]
          cases hl : lastA ls b g with
          | none =>
            have e1 : viol rs ls b g = false := by unfold viol; rw [hl]
            have e3 : inn rs ls b (outV rs ls n b) (g + 1) = inn rs ls b (outV rs ls n b) g := by
              rw [inn, e1]
              cases inn rs ls b (outV rs ls n b) g <;> rfl
            have hs : stS none = "" := rfl
            rw [hl] at ez
            simp [ix_top, ix_top1, set_top, set_top1, ixN_tab hg, atI_tab hg, tab_set, needL, ix_l', hf, rsD, lsD, e3, hl, hs, es, ez]
          | some x =>
            obtain ⟨f, w⟩ := x
            have hs : stS (some (f, w)) = w := rfl
            have hw0 : w ≠ "" := (lastA_le hl).2.2
            rw [hl] at ez
            by_cases h1 : w = needS (ls b) g
            · subst h1
              have e1 : viol rs ls b g = false := by unfold viol; rw [hl]; simp
              have e3 : inn rs ls b (outV rs ls n b) (g + 1) = inn rs ls b (outV rs ls n b) g := by
                rw [inn, e1]
                cases inn rs ls b (outV rs ls n b) g <;> rfl
              simp [ix_top, ix_top1, set_top, set_top1, ixN_tab hg, atI_tab hg, tab_set, needL, ix_l', hf, rsD, lsD, e3, hl, hs, es, ez, hw0]
            · by_cases h2 : b + 1 ≤ rs g + f
              · have e1 : viol rs ls b g = true := by unfold viol; rw [hl]; simp [h1, h2, hf]
                have h3 : idI b (some (f, w)) + 1 ≤ rs g := by show (b : Int) - f + 1 ≤ rs g; omega
                cases hi : inn rs ls b (outV rs ls n b) g with
                | none =>
                  have e3 : inn rs ls b (outV rs ls n b) (g + 1) = some (b + 1, g) := by rw [inn, hi, e1]; rfl
                  have e5 : resD (some (b + 1, g)) = .tup [.int (1 + (b : Nat)), .int g] := by show D.tup [.int ((b + 1 : Nat) : Int), .int g] = _; congr 3; omega
                  have e6 : resD none = .non := rfl
                  simp [ix_top, ix_top1, set_top, set_top1, ixN_tab hg, atI_tab hg, tab_set, needL, ix_l', hf, rsD, lsD, e3, hl, hs, es, ez, hw0, h1, h3, e5, e6]
                | some y =>
                  have e3 : inn rs ls b (outV rs ls n b) (g + 1) = some y := by rw [inn, hi]
                  simp [ix_top, ix_top1, set_top, set_top1, ixN_tab hg, atI_tab hg, tab_set, needL, ix_l', hf, rsD, lsD, e3, hl, hs, es, ez, hw0, h1, h3, resD_is]
              · have e1 : viol rs ls b g = false := by unfold viol; rw [hl]; simp [h1, h2]
                have h3 : ¬ idI b (some (f, w)) + 1 ≤ rs g := by show ¬ (b : Int) - f + 1 ≤ rs g; omega
                have e3 : inn rs ls b (outV rs ls n b) (g + 1) = inn rs ls b (outV rs ls n b) g := by
                  rw [inn, e1]
                  cases inn rs ls b (outV rs ls n b) g <;> rfl
                simp [ix_top, ix_top1, set_top, set_top1, ixN_tab hg, atI_tab hg, tab_set, needL, ix_l', hf, rsD, lsD, e3, hl, hs, es, ez, hw0, h1, h3]
      · rintro ρ s ⟨rfl, y7, rfl⟩
        refine ⟨?_, _, _, _, rfl⟩
        rw [show tab n (fun j => D.str (stS (if j < n then lastA ls (b + 1) j else lastA ls b j))) = tab n (fun g => .str (stS (lastA ls (b + 1) g))) from tab_ext fun j hj => by rw [if_pos hj],
          show tab n (fun j => D.int (if j < n then idI (b + 1) (lastA ls (b + 1) j) else idI b (lastA ls b j))) = tab n (fun g => .int (idI (b + 1) (lastA ls (b + 1) g))) from tab_ext fun j hj => by rw [if_pos hj]]
  · rintro ρ s ⟨rfl, x5, x6, x7, rfl⟩
    simp [rsD, rangeL_tab]
    refine ⟨by omega, ?_⟩
    refine lc_tab (fun g => toldD rs m g (lastA ls m g)) (by omega) ?_ (fun i hi => told_bd _ _ _ _ _) ?_ ?_
    · rw [List.length_append]
      exact wf_append.mpr ⟨hw.mono (by omega), hbds_tab fun k hk => rfl, hbds_tab fun k hk => rfl, trivial⟩
    · intro g acc hg _
      refine ⟨_, rfl, ?_⟩
      cases hl : lastA ls m g with
      | none =>
        have hs : stS none = "" := rfl
        simp [wipeD, ix_top, atI_tab hg, hl, hs]
      | some x =>
        obtain ⟨f, w⟩ := x
        have hs : stS (some (f, w)) = w := rfl
        have hw0 : w ≠ "" := (lastA_le hl).2.2
        by_cases h2 : m + 1 ≤ rs g + f
        · have h3 : idI m (some (f, w)) < rs g := by show (m : Int) - f < rs g; omega
          have e5 : idI m (some (f, w)) + 1 = (m : Int) + 1 - f := by show (m : Int) - f + 1 = _; omega
          simp [wipeD, ix_top, ix_top1, atI_tab hg, hl, hs, hw0, ix_l', h3, h2, e5]
        · have h3 : ¬ idI m (some (f, w)) < rs g := by show ¬ (m : Int) - f < rs g; omega
          simp [wipeD, ix_top, ix_top1, atI_tab hg, hl, hs, hw0, ix_l', h3, h2]
    · simp
      rw [exit_id hw (by simp [resD_bd]; exact hbds_tab fun k hk => told_bd _ _ _ _ _)]
      exact q
/-! ### the deck's draws -/
theorem dk_bd {c : List D} (h : DkOk c) (k : Nat) : hbds k c = true := by
  obtain ⟨ns, p, a, b, m, n, rfl, _, _⟩ := h
  have : hbds k (ns.map D.int) = true := hbds_map fun _ _ => rfl
  simp [this]
theorem lsD_snoc {ls : Nat → Option Nat} {b : Nat} {x : Option Nat} : lsD ls b ++ [laneD x] = lsD (fun j => if j < b then ls j else x) (b + 1) := by
  unfold lsD
  rw [tab_app]
  refine tab_ext fun j hj => ?_
  show (if j < b then laneD (ls j) else laneD x) = laneD (if j < b then ls j else x)
  split <;> rfl
theorem lsD_bd (ls : Nat → Option Nat) (m k : Nat) : hbds k (lsD ls m) = true := hbds_tab fun j hj => by cases ls j <;> rfl
theorem rsD_bd (rs : Nat → Nat) (m k : Nat) : hbds k (rsD rs m) = true := hbds_tab fun j hj => rfl
theorem throws_sat (rs : Nat → Nat) (n : Nat) (hn : n ≤ 900) (calm : Bool) {c : List D} {r : Sto} (hc : DkOk c) (hw : WF (r.length + 1) r) {Q : D → Sto → Prop}
    (q : ∀ (ls : Nat → Option Nat) (m : Nat) (c' : List D), DkOk c' → m ≤ 14 → Q (.lst (lsD ls m)) (.lst c' :: r)) : (c__law_throws [.hnd 0, .lst (rsD rs n), .bl calm] (.lst c :: r)).sat Q := by
  unfold c__law_throws
  rw [sat_arity (by rfl), sat_T]
  unfold m__law_throws
  simp [startD]
  refine draw_sat hc (by omega) (by omega) fun i c1 hc1 hi hi2 => ?_
  obtain ⟨m, rfl⟩ := Int.eq_ofNat_of_zero_le hi
  simp [rangeL_tab]
  refine ⟨by omega, ?_⟩
  refine for_tab (fun b ρ s => ∃ (c' : List D) (ls : Nat → Option Nat) (x4 x5 : Option D), DkOk c' ∧ s = .lst c' :: (r ++ [.lst (lsD ls b)]) ∧ ρ = [some (.hnd 0), some (.lst (rsD rs n)), some (.bl calm), some (.hnd (r.length + 1)), x4, x5])
    ⟨c1, fun _ => none, _, _, hc1, rfl, rfl⟩ ?_ ?_
  · rintro b ρ s hb ⟨c', ls, x4, x5, hc', rfl, rfl⟩
    refine ⟨_, rfl, ?_⟩
    simp [rsD]
    refine draw_sat hc' (by omega) (by omega) fun p c2 hc2 hp _ => ?_
    obtain ⟨p, rfl⟩ := Int.eq_ofNat_of_zero_le hp
    simp
    refine draw_sat hc2 (by omega) (by omega) fun z c3 hc3 _ _ => ?_
    have top : (.lst c3 :: (r ++ [Cell.lst (lsD ls b)]) : Sto)[r.length + 1]? = some (.lst (lsD ls b)) := by simp
    have done : ∀ (x : Option Nat) (dx : D), dx = laneD x → ∀ (P : D → Sto → Prop), P .non (.lst c3 :: (r ++ [.lst (lsD (fun j => if j < b then ls j else x) (b + 1))])) → (appendM (.hnd (r.length + 1)) [dx] (.lst c3 :: (r ++ [Cell.lst (lsD ls b)]))).sat P := by
      intro x dx hx P hP
      subst hx
      rw [app_h top (by unfold lsD; rw [tab_len]; unfold sizeLine; omega), lsD_snoc]
      simpa using hP
    have tyt : tyD "list" (.lst c3 :: (r ++ [Cell.lst (lsD ls b)])) (.hnd (r.length + 1)) = true := by simp [tyD]
    have add : ∀ (x : Option Nat) (dx : D), dx = laneD x → ∀ {P : D → Sto → Prop}, (addD false (.hnd (r.length + 1)) (.lst [dx]) (.lst c3 :: (r ++ [Cell.lst (lsD ls b)]))).sat P = P (.lst (lsD (fun j => if j < b then ls j else x) (b + 1))) (.lst c3 :: (r ++ [Cell.lst (lsD ls b)])) := by
      intro x dx hx P
      subst hx
      rw [← lsD_snoc]
      show (match (match (.lst c3 :: (r ++ [Cell.lst (lsD ls b)]) : Sto)[r.length + 1]? with | some (Cell.lst ds) => some ds | none => none), some [laneD x] with
        | some as, some bs => if as.length + bs.length ≤ sizeLine then mkL false (as ++ bs) (.lst c3 :: (r ++ [Cell.lst (lsD ls b)])) else .stuck
        | _, _ => .stuck).sat P = _
      rw [top]
      show (if (lsD ls b).length + [laneD x].length ≤ sizeLine then mkL false (lsD ls b ++ [laneD x]) (.lst c3 :: (r ++ [Cell.lst (lsD ls b)])) else .stuck).sat P = _
      rw [if_pos (by unfold lsD; rw [tab_len]; simp; unfold sizeLine; omega)]
      rfl
    have wfs : WF (List.length (.lst c3 :: (r ++ [Cell.lst (lsD ls b)]) : Sto)) (.lst c3 :: (r ++ [Cell.lst (lsD ls b)])) := by
      simp [wf_append, dk_bd hc3, lsD_bd]
      exact hw.mono (by omega)
    by_cases hz : z = 0
    · cases calm with
      | false =>
        simp [hz, tyt]
        exact done none _ rfl _ ⟨c3, _, _, _, hc3, rfl, rfl⟩
      | true =>
        simp [hz, add none .non rfl]
        refine belt_sat rs _ n (b + 1) hn (by omega) wfs ?_
        simp [ix_t', atI, ixN, resD_isnt, tyt]
        exact done none _ rfl _ ⟨c3, _, _, _, hc3, rfl, rfl⟩
    · cases calm with
      | false =>
        simp [hz, tyt]
        exact done (some p) _ rfl _ ⟨c3, _, _, _, hc3, rfl, rfl⟩
      | true =>
        simp [hz, add (some p) (.int p) rfl]
        refine belt_sat rs _ n (b + 1) hn (by omega) wfs ?_
        simp [ix_t', atI, ixN, resD_isnt, tyt]
        split
        · exact done none _ rfl _ ⟨c3, _, _, _, hc3, rfl, rfl⟩
        · exact done (some p) _ rfl _ ⟨c3, _, _, _, hc3, rfl, rfl⟩
  · rintro ρ s ⟨c', ls, x4, x5, hc', rfl, rfl⟩
    simp
    have e := exit_top (st := .lst c' :: r) (as := lsD ls m) (r := []) (Q := Q) ⟨dk_bd hc' _, hw⟩ (lsD_bd _ _ _)
    exact e.mpr (q ls m c' hc' (by omega))
/-! ### a row is right -/
theorem resD_ok (k : Nat) (x : Option (Nat × Nat)) : okS (k + 2) (resD x) := by
  cases x with
  | none => trivial
  | some x =>
    refine ⟨by simp, fun d hd => ?_⟩
    simp at hd
    rcases hd with rfl | rfl <;> trivial
theorem told_ok (k : Nat) (rs : Nat → Nat) (m g : Nat) (x : Option (Nat × Str)) : okS (k + 2) (toldD rs m g x) := by
  cases x with
  | none => trivial
  | some x =>
    obtain ⟨f, w⟩ := x
    rw [toldD_some]
    split
    · refine ⟨by simp, fun d hd => ?_⟩
      simp at hd
      rcases hd with rfl | rfl <;> trivial
    · trivial
theorem tab_ok {k n : Nat} {f : Nat → D} (hn : n ≤ 100000) (h : ∀ i, i < n → okS k (f i)) : okS (k + 1) (.tup (tab n f)) := by
  refine ⟨by rw [tab_len]; exact hn, fun d hd => ?_⟩
  obtain ⟨i, hi, rfl⟩ := List.mem_map.mp hd
  exact h i (List.mem_range.mp hi)
theorem lsD_num (ls : Nat → Option Nat) (m : Nat) : (lsD ls m).all numD = true := by
  rw [List.all_eq_true]
  intro d hd
  obtain ⟨i, _, rfl⟩ := List.mem_map.mp hd
  cases ls i <;> rfl
theorem row_sat (rs : Nat → Nat) (ls : Nat → Option Nat) (n m : Nat) (hn : n ≤ 900) (hm : m ≤ 300) {c : List D} {r : Sto} (hc : DkOk c) (hw : WF (r.length + 1) r) {Q : D → Sto → Prop}
    (q : ∀ c' : List D, DkOk c' → Q (.bl true) (.lst c' :: r)) : (c__law_row_right [.hnd 0, .lst (rsD rs n), .lst (lsD ls m)] (.lst c :: r)).sat Q := by
  have wf : ∀ {c : List D}, DkOk c → WF (List.length (.lst c :: r : Sto)) (.lst c :: r) := fun h => ⟨dk_bd h _, hw⟩
  have okN : ∀ k, smD [] 12 (resD k) (resD k) := fun k => (resD_ok 10 k).sm
  have okR : ∀ (s : Sto) k, smD s 12 (resD k) (resD k) := fun s k => (resD_ok 10 k).sm
  have okT : ∀ (s : Sto) (ls : Nat → Option Nat) (m : Nat), smD s 12 (.tup (tab n fun g => toldD rs m g (lastA ls m g))) (.tup (tab n fun g => toldD rs m g (lastA ls m g))) := fun s ls m => (tab_ok (by omega) fun i _ => told_ok 9 _ _ _ _).sm
  have hlm : (lsD ls m).length = m := tab_len
  have hrn : (rsD rs n).length = n := tab_len
  unfold c__law_row_right
  rw [sat_arity (by rfl), sat_M]
  unfold m__law_row_right
  simp [startD, hlm, rangeL_tabS]
  refine ⟨by omega, ?_⟩
  refine for_tab (fun b ρ s => ∃ (c' : List D) (x3 x4 x5 x6 x7 x8 : Option D), DkOk c' ∧ s = .lst c' :: r ∧ ρ = [some (.hnd 0), some (.lst (rsD rs n)), some (.lst (lsD ls m)), x3, x4, x5, x6, x7, x8])
    ⟨c, _, _, _, _, _, _, hc, rfl, rfl⟩ ?_ ?_
  · rintro b ρ s hb ⟨c1, x3, x4, x5, x6, x7, x8, hc1, rfl, rfl⟩
    refine ⟨_, rfl, ?_⟩
    have ecut : cutL (lsD ls m) none (some (b : Int)) = lsD ls b := by rw [cutL_to]; exact tab_take (by omega)
    have eN : ∀ s : Sto, eqB s (.lst (lsD ls b)) (.lst (lsD ls b)) = some true := fun s => eqB_num (lsD_num ls b)
    simp
    refine draw_sat hc1 (by omega) (by omega) fun z c2 hc2 _ _ => ?_
    by_cases hz : z = 0
    · simp [hz, ecut]
      refine belt_sat rs ls n b hn (by omega) (wf hc2) ?_
      simp
      refine draw_sat hc2 (by omega) (by omega) fun y c3 hc3 _ _ => ?_
      by_cases hy : 0 < y
      · simp [hy]
        refine done_sat rs ls n b hn (by omega) (.inl rfl) (wf hc3) ?_
        simp
        refine same_sat 12 (wf hc3) (okR _ _) ?_
        simp
        refine stand_sat rs ls n b hn (by omega) (.inl rfl) (wf hc3) ?_
        simp
        refine same_sat 12 (wf hc3) (okT _ _ _) ?_
        simp [ecut, ne_of (eN _)]
        exact hc3
      · simp [hy, pick]
        refine done_sat rs ls n b hn (by omega) (.inl rfl) (wf hc3) ?_
        simp
        refine same_sat 12 (wf hc3) (okR _ _) ?_
        simp
        refine stand_sat rs ls n b hn (by omega) (.inl rfl) (wf hc3) ?_
        simp
        refine same_sat 12 (wf hc3) (okT _ _ _) ?_
        simp [ecut, ne_of (eN _)]
        exact hc3
    · simp [hz, ecut]
      refine belt_sat rs ls n b hn (by omega) (wf hc2) ?_
      simp
      refine draw_sat hc2 (by omega) (by omega) fun y c3 hc3 _ _ => ?_
      by_cases hy : 0 < y
      · simp [hy]
        refine done_sat rs ls n b hn (by omega) (.inr rfl) (wf hc3) ?_
        simp
        refine same_sat 12 (wf hc3) (okR _ _) ?_
        simp
        refine stand_sat rs ls n b hn (by omega) (.inr rfl) (wf hc3) ?_
        simp
        refine same_sat 12 (wf hc3) (okT _ _ _) ?_
        simp [ecut, ne_of (eN _)]
        exact hc3
      · simp [hy, pick]
        refine done_sat rs ls n b hn (by omega) (.inr rfl) (wf hc3) ?_
        simp
        refine same_sat 12 (wf hc3) (okR _ _) ?_
        simp
        refine stand_sat rs ls n b hn (by omega) (.inr rfl) (wf hc3) ?_
        simp
        refine same_sat 12 (wf hc3) (okT _ _ _) ?_
        simp [ecut, ne_of (eN _)]
        exact hc3
  · rintro ρ s ⟨c1, x3, x4, x5, x6, x7, x8, hc1, rfl, rfl⟩
    simp [hrn]
    refine draw_sat hc1 (by omega) (by omega) fun p c2 hc2 hp _ => ?_
    simp [hrn]
    refine draw_sat hc2 (by omega) (by omega) fun p2 c3 hc3 hp2 _ => ?_
    obtain ⟨p, rfl⟩ := Int.eq_ofNat_of_zero_le hp
    obtain ⟨p2, rfl⟩ := Int.eq_ofNat_of_zero_le hp2
    have em : lsD ls m ++ [.int p, .non, .int p2] = lsD (fun j => if j < m + 2 then (if j < m + 1 then (if j < m then ls j else some p) else none) else some p2) (m + 3) := by
      rw [← lsD_snoc (b := m + 2) (x := some p2), ← lsD_snoc (b := m + 1) (x := none), ← lsD_snoc (b := m) (x := some p)]
      simp [laneD]
    simp [em, hlm]
    refine ⟨by unfold sizeLine; omega, ?_⟩
    refine belt_sat rs _ n (m + 3) hn (by omega) (wf hc3) ?_
    simp [pick]
    refine stand_sat rs _ n (m + 3) hn (by omega) (.inl rfl) (wf hc3) ?_
    simp
    refine same_sat 12 (wf hc3) (okT _ _ _) ?_
    simp
    refine done_sat rs _ n (m + 3) hn (by omega) (.inl rfl) (wf hc3) ?_
    simp
    refine same_sat 12 (wf hc3) (okR _ _) ?_
    exact q c3 hc3
/-! ### the law -/
def rs12 (g : Nat) : Nat := g + 1
def rs20 (g : Nat) : Nat := if g = 0 then 2 else 0
def ls4 (b : Nat) : Option Nat := if b = 0 then some 0 else if b = 1 then none else if b = 2 then some 2 else some 1
def ls6 (b : Nat) : Option Nat := if b = 0 then some 0 else if b = 2 then some 2 else if b = 5 then some 1 else none
theorem w1 : outV rs12 ls4 2 4 = some (4, 1) := by decide +kernel
theorem w2 : tab 2 (fun g => toldD rs12 3 g (lastA ls4 3 g)) = [.tup [.str "shut", .int 1], .tup [.str "shut", .int 1]] := by rfl
theorem w3 : outV rs12 ls6 2 6 = none := by decide +kernel
theorem w4 : tab 2 (fun g => toldD rs20 2 g (lastA ls4 2 g)) = [.tup [.str "open", .int 2], .str "free"] := by rfl
theorem tab_of_list {as : List D} (f : Nat → D) (h : ∀ i d, as[i]? = some d → d = f i) : as = tab as.length f := by
  apply List.ext_getElem?
  intro i
  by_cases hi : i < as.length
  · rw [tab_get hi, List.getElem?_eq_getElem hi, h i _ (List.getElem?_eq_getElem hi)]
  · rw [List.getElem?_eq_none (by omega), List.getElem?_eq_none (by rw [tab_len]; omega)]
theorem law_go {ns : List Int} {d : D} (hd : d = .lst (ns.map D.int) ∨ d = .ro (ns.map D.int)) : (l_law [d] []).sat fun x _ => x = .bl true := by
  show (fnM 7 m_law [d] []).sat _
  rw [sat_M]
  unfold m_law
  simp only [startD, List.map_cons, List.map_nil, List.length_cons, List.length_nil, ss_seq, ss_set, x_call, xs_cons, xs_nil, x_var0, List.cons_append, List.nil_append]
  refine open_go hd fun c hc => ?_
  have wf : ∀ {c : List D}, DkOk c → WF (List.length [Cell.lst c]) [.lst c] := fun h => ⟨dk_bd h _, trivial⟩
  simp
  refine pick_l hc (by simp) (by simp) fun y c1 hc1 hy => ?_
  obtain ⟨n, rfl, hn⟩ : ∃ n : Nat, y = .int n ∧ n ≤ 4 := by
    simp at hy
    rcases hy with rfl | rfl | rfl | rfl | rfl | rfl
    · exact ⟨1, rfl, by omega⟩
    · exact ⟨2, rfl, by omega⟩
    · exact ⟨3, rfl, by omega⟩
    · exact ⟨4, rfl, by omega⟩
    · exact ⟨2, rfl, by omega⟩
    · exact ⟨0, rfl, by omega⟩
  simp [rangeL_tab]
  refine ⟨by omega, ?_⟩
  refine lc_tabI (fun i s acc => ∃ (c' : List D) (rs : Nat → Nat), DkOk c' ∧ s = [.lst c'] ∧ acc = rsD rs i) (by omega) ⟨c1, fun _ => 0, hc1, rfl, rfl⟩ ?_ ?_
  · rintro i s acc hi ⟨c2, rs, hc2, rfl, rfl⟩ _
    refine ⟨_, rfl, ?_⟩
    simp [wipeD]
    refine pick_l hc2 (by simp) (by simp) fun y c3 hc3 hy => ?_
    obtain ⟨k, rfl⟩ : ∃ k : Nat, y = .int k := by
      simp at hy
      rcases hy with rfl | rfl | rfl | rfl | rfl | rfl | rfl
      · exact ⟨0, rfl⟩
      · exact ⟨1, rfl⟩
      · exact ⟨2, rfl⟩
      · exact ⟨1, rfl⟩
      · exact ⟨3, rfl⟩
      · exact ⟨5, rfl⟩
      · exact ⟨20, rfl⟩
    refine ⟨[.lst c3], rfl, rfl, c3, fun j => if j < i then rs j else k, hc3, rfl, ?_⟩
    unfold rsD
    rw [tab_app]
    refine tab_ext fun j hj => ?_
    show (if j < i then D.int (rs j) else .int k) = .int ((if j < i then rs j else k : Nat) : Int)
    split <;> rfl
  · rintro s ys _ ⟨c2, rs, hc2, rfl, rfl⟩
    refine ⟨wf hc2, rsD_bd _ _ _, ?_⟩
    simp [rangeL_tabS]
    refine ⟨by omega, ?_⟩
    have okN : ∀ (s : Sto) (l : Option Nat), smD s 12 (.tup (needL l n)) (.tup (needL l n)) := by
      intro s l
      refine okS.sm (k := 12) (tab_ok (k := 11) (by omega) fun i _ => ?_)
      trivial
    refine for_tab (fun b ρ s => s = [.lst c2] ∧ ∃ x4 x5 x6, ρ = [some d, some (.hnd 0), some (.int n), some (.lst (rsD rs n)), x4, x5, x6]) ⟨rfl, _, _, _, rfl⟩ ?_ ?_
    · rintro b ρ s hb ⟨rfl, x4, x5, x6, rfl⟩
      refine ⟨_, rfl, ?_⟩
      simp
      refine lneeds_sat (some b) n (by omega) _ (wf hc2) _ ?_
      simp
      refine needs_sat (some b) n (by omega) _ (wf hc2) _ ?_
      simp
      refine same_sat 12 (wf hc2) (okN _ _) ?_
      simp [pick]
      refine needs_sat (some b) n (by omega) _ (wf hc2) _ ?_
      simp
      refine same_sat 12 (wf hc2) (okN _ _) ?_
      simp
    · rintro ρ s ⟨rfl, x4, x5, x6, rfl⟩
      simp
      refine needs_sat none n (by omega) _ (wf hc2) _ ?_
      simp [rangeL_tab]
      refine ⟨by omega, ?_⟩
      refine lc_tab (fun g => .str (needS none g)) (by omega) (wf hc2) (fun i hi => rfl) (fun i acc hi _ => ⟨_, rfl, by simp [needS]⟩) ?_
      simp
      refine same_sat 12 (wf hc2) (okN _ none) ?_
      simp
      refine throws_sat rs n (by omega) true hc2 (r := []) trivial fun ls m c3 hc3 hm => ?_
      simp
      refine row_sat rs ls n m (by omega) (by omega) hc3 (r := []) trivial fun c4 hc4 => ?_
      simp
      refine throws_sat rs n (by omega) false hc4 (r := []) trivial fun ls2 m2 c5 hc5 hm2 => ?_
      simp
      refine row_sat rs ls2 n m2 (by omega) (by omega) hc5 (r := []) trivial fun c6 hc6 => ?_
      simp
      have r12 : ([.int 1, .int 2] : List D) = rsD rs12 2 := rfl
      have r20 : ([.int 2, .int 0] : List D) = rsD rs20 2 := rfl
      have t4 : ([.int 0, .non, .int 2, .int 1] : List D) = lsD ls4 4 := rfl
      have t3 : ([.int 0, .non, .int 2] : List D) = lsD ls4 3 := rfl
      have t6 : ([.int 0, .non, .int 2, .non, .non, .int 1] : List D) = lsD ls6 6 := rfl
      have t2 : ([.int 0, .non] : List D) = lsD ls4 2 := rfl
      rw [r12, t4]
      refine done_sat _ _ 2 4 (by omega) (by omega) (.inl rfl) (wf hc6) ?_
      rw [w1]
      simp
      refine same_sat 12 (wf hc6) (show smD _ 12 (resD (some (4, 1))) (resD (some (4, 1))) from (resD_ok 10 _).sm) ?_
      simp
      rw [r12, t3]
      refine stand_sat _ _ 2 3 (by omega) (by omega) (.inl rfl) (wf hc6) ?_
      rw [w2]
      simp
      refine same_sat 12 (wf hc6) (by rw [← w2]; exact (tab_ok (k := 11) (by omega) fun i _ => told_ok 9 _ _ _ _).sm) ?_
      simp
      rw [r12, t6]
      refine done_sat _ _ 2 6 (by omega) (by omega) (.inr rfl) (wf hc6) ?_
      rw [w3]
      simp [resD]
      rw [r20, t2]
      refine stand_sat _ _ 2 2 (by omega) (by omega) (.inl rfl) (wf hc6) ?_
      rw [w4]
      simp
      refine same_sat 12 (wf hc6) (by rw [← w4]; exact (tab_ok (k := 11) (by omega) fun i _ => told_ok 9 _ _ _ _).sm) ?_
      rfl
theorem law_plain : ∀ ns : List Int, ns.length ≤ 63 → (∃ st, l_law [.lst (ns.map D.int)] [] = .ok (.bl true) st) ∧ ∃ st, l_law [.ro (ns.map D.int)] [] = .ok (.bl true) st := by
  have key : ∀ {d : D} {ns : List Int}, d = .lst (ns.map D.int) ∨ d = .ro (ns.map D.int) → ∃ st, l_law [d] [] = .ok (.bl true) st := by
    intro d ns h
    obtain ⟨a, st, e, h⟩ := (law_go h).ex
    subst h
    exact ⟨st, e⟩
  exact fun ns _ => ⟨key (.inl rfl), key (.inr rfl)⟩
end K14

namespace K14
open PySem PySem.Spec L2 DL
def top (i : Nat) : Stmt := PySem.Challenge.pw_lanesgraded_k14_whole_gates_beside_a_bel.main.body.getD i (.Pass ⟨0, 0, 0, 0⟩)
abbrev s_needs : Stmt := top 5
abbrev s__look_at_length : Stmt := top 8
abbrev s_done : Stmt := top 6
abbrev s_gate_standing : Stmt := top 7
abbrev s__law_open : Stmt := top 10
abbrev s__law_draw : Stmt := top 11
abbrev s__law_pick : Stmt := top 12
abbrev s__law_whole : Stmt := top 13
abbrev s__law_same : Stmt := top 14
abbrev s__law_needs : Stmt := top 15
abbrev s__law_belt : Stmt := top 16
abbrev s__law_throws : Stmt := top 17
abbrev s__law_row_right : Stmt := top 18
abbrev s_law : Stmt := top 19
structure Tx (K : PySem.W.Frag) (mg : Str → Option Value) (fl : Nat → Addr) (fdl : Nat → FuncData) : Prop where
  F_needs : FunD K "needs" "needs" (defArgs s_needs) (defBody s_needs) (defScope s_needs) [] [] (fl 0) (fdl 0)
  G_needs : mg "needs" = some (.ref (fl 0))
  F__look_at_length : FunD K "_look_at_length" "_look_at_length" (defArgs s__look_at_length) (defBody s__look_at_length) (defScope s__look_at_length) [] [] (fl 1) (fdl 1)
  G__look_at_length : mg "_look_at_length" = some (.ref (fl 1))
  F_done : FunD K "done" "done" (defArgs s_done) (defBody s_done) (defScope s_done) [] [] (fl 2) (fdl 2)
  G_done : mg "done" = some (.ref (fl 2))
  F_gate_standing : FunD K "gate_standing" "gate_standing" (defArgs s_gate_standing) (defBody s_gate_standing) (defScope s_gate_standing) [] [] (fl 3) (fdl 3)
  G_gate_standing : mg "gate_standing" = some (.ref (fl 3))
  F__law_open : FunD K "_law_open" "_law_open" (defArgs s__law_open) (defBody s__law_open) (defScope s__law_open) [] [] (fl 4) (fdl 4)
  G__law_open : mg "_law_open" = some (.ref (fl 4))
  F__law_draw : FunD K "_law_draw" "_law_draw" (defArgs s__law_draw) (defBody s__law_draw) (defScope s__law_draw) [] [] (fl 5) (fdl 5)
  G__law_draw : mg "_law_draw" = some (.ref (fl 5))
  F__law_pick : FunD K "_law_pick" "_law_pick" (defArgs s__law_pick) (defBody s__law_pick) (defScope s__law_pick) [] [] (fl 6) (fdl 6)
  G__law_pick : mg "_law_pick" = some (.ref (fl 6))
  F__law_whole : FunD K "_law_whole" "_law_whole" (defArgs s__law_whole) (defBody s__law_whole) (defScope s__law_whole) [] [] (fl 7) (fdl 7)
  G__law_whole : mg "_law_whole" = some (.ref (fl 7))
  F__law_same : FunD K "_law_same" "_law_same" (defArgs s__law_same) (defBody s__law_same) (defScope s__law_same) [] [] (fl 8) (fdl 8)
  G__law_same : mg "_law_same" = some (.ref (fl 8))
  F__law_needs : FunD K "_law_needs" "_law_needs" (defArgs s__law_needs) (defBody s__law_needs) (defScope s__law_needs) [] [] (fl 9) (fdl 9)
  G__law_needs : mg "_law_needs" = some (.ref (fl 9))
  F__law_belt : FunD K "_law_belt" "_law_belt" (defArgs s__law_belt) (defBody s__law_belt) (defScope s__law_belt) [] [] (fl 10) (fdl 10)
  G__law_belt : mg "_law_belt" = some (.ref (fl 10))
  F__law_throws : FunD K "_law_throws" "_law_throws" (defArgs s__law_throws) (defBody s__law_throws) (defScope s__law_throws) [] [] (fl 11) (fdl 11)
  G__law_throws : mg "_law_throws" = some (.ref (fl 11))
  F__law_row_right : FunD K "_law_row_right" "_law_row_right" (defArgs s__law_row_right) (defBody s__law_row_right) (defScope s__law_row_right) [] [] (fl 12) (fdl 12)
  G__law_row_right : mg "_law_row_right" = some (.ref (fl 12))
  F_law : FunD K "law" "law" (defArgs s_law) (defBody s_law) (defScope s_law) [] [] (fl 13) (fdl 13)
  G_law : mg "law" = some (.ref (fl 13))
  b_all : mg "all" = none
  b_bool : mg "bool" = none
  b_dict : mg "dict" = none
  b_enumerate : mg "enumerate" = none
  b_int : mg "int" = none
  b_isinstance : mg "isinstance" = none
  b_len : mg "len" = none
  b_list : mg "list" = none
  b_range : mg "range" = none
  b_str : mg "str" = none
  b_tuple : mg "tuple" = none
  g_BEATS : ∃ t, mg "BEATS" = some (.int 400 t)
section
variable {P : Program} {w : World} {K : PySem.W.Frag} {mg : Str → Option Value} {base : Heap} {fl : Nat → Addr} {fdl : Nat → FuncData}
abbrev n_needs : List Str := ["lanes", "lane", "gate"]
theorem sc_needs : FnScope n_needs ["lanes", "lane"] (defScope s_needs) := ⟨rfl, rfl, rfl, by decide +kernel, rfl, by decide +kernel, by decide +kernel⟩
theorem b_needs {f : Addr} {fd : FuncData} (F : FunD K "needs" "needs" (defArgs s_needs) (defBody s_needs) (defScope s_needs) [] [] f fd) : Binds K fd ["lanes", "lane"] [] := b_of F fun _ _ _ _ _ _ us hl => match us, hl with | [_, _], _ => rfl
theorem kb_needs_0_lane_lanes {f : Addr} {fd : FuncData} (F : FunD K "needs" "needs" (defArgs s_needs) (defBody s_needs) (defScope s_needs) [] [] f fd) : KBn K fd ["lanes", "lane"] 0 ["lane", "lanes"] (fun us ws => pick [1, 0] (us ++ ws)) (fun vs zs => pick [1, 0] (vs ++ zs)) := kb_of F 0 ["lane", "lanes"] [1, 0] fun _ _ _ _ _ _ us ws hl hl2 => match us, ws, hl, hl2 with | [], [_, _], _, _ => rfl
theorem ok_needs (T : Tx K mg fl fdl) : FnOk P w K mg base (L2.CX P w) 1 (fl 0) (fdl 0) ["lanes", "lane"] (spD K 2 c_needs) := by
  show FnOk P w K mg base (L2.CX P w) (0 + 1) (fl 0) (fdl 0) ["lanes", "lane"] (spD K 2 (arity 2 (fnM 3 m_needs)))
  have nd := sc_needs.nd
  refine fn_okM (k := 0) (g := m_needs) T.F_needs sc_needs rfl rfl fun cdv A outer s H E hr hp ho => ?_
  exact (dss_cons (ds_if (dt_cmp od_is (de_var 1) de_non (nomark _)) (dss_one (ds_ret (de_bin (od_mul false) (de_tup (da_cons de_str da_nil)) (de_bin od_sub (de_var 0) de_int)))) dss_nil)
 (dss_one (ds_ret (de_callTy cd_tup rfl T.b_tuple (by rfl) (da_cons (de_lc false (own := [("gate", 2)]) (tg := (.name 2)) rfl nd (di_range1 rfl T.b_range (da_cons (de_bin od_sub (de_var 0) de_int) da_nil)) (blkOk_by (N := n_needs) (sc := defScope s_needs) (by decide +kernel)) rfl rfl (fun _ _ _ _ _ => (pg_name (i := 2) nd rfl (by first | exact Or.inl rfl | exact Or.inr rfl))) (fun _ _ _ _ _ => dts_nil) (fun _ _ _ _ _ => (de_if (dt_cmp od_lt (de_var 2) (de_var 1) (nomark _)) de_str (de_if (dt_cmp (od_eq hr.units) (de_var 2) (de_var 1) (nomark _)) de_str de_str)))) da_nil)))))
abbrev n__look_at_length : List Str := ["throws"]
theorem sc__look_at_length : FnScope n__look_at_length ["throws"] (defScope s__look_at_length) := ⟨rfl, rfl, rfl, by decide +kernel, rfl, by decide +kernel, by decide +kernel⟩
theorem b__look_at_length {f : Addr} {fd : FuncData} (F : FunD K "_look_at_length" "_look_at_length" (defArgs s__look_at_length) (defBody s__look_at_length) (defScope s__look_at_length) [] [] f fd) : Binds K fd ["throws"] [] := b_of F fun _ _ _ _ _ _ us hl => match us, hl with | [_], _ => rfl
theorem ok__look_at_length (T : Tx K mg fl fdl) : FnOk P w K mg base (L2.CX P w) 1 (fl 1) (fdl 1) ["throws"] (spD K 1 c__look_at_length) := by
  show FnOk P w K mg base (L2.CX P w) (0 + 1) (fl 1) (fdl 1) ["throws"] (spD K 1 (arity 1 (fnM 1 m__look_at_length)))
  have nd := sc__look_at_length.nd
  refine fn_okM (k := 0) (g := m__look_at_length) T.F__look_at_length sc__look_at_length rfl rfl fun cdv A outer s H E hr hp ho => ?_
  exact (dss_one (ds_if (dt_cmp od_gt (de_callB cd_len rfl T.b_len (by rfl) (da_cons (de_var 0) da_nil)) (de_gint rfl T.g_BEATS) (nomark _)) (dss_one ds_stuck) dss_nil))
abbrev n_done : List Str := ["rests", "throws", "last", "beat", "lane", "gate", "need", "before", "wanted"]
theorem sc_done : FnScope n_done ["rests", "throws"] (defScope s_done) := ⟨rfl, rfl, rfl, by decide +kernel, rfl, by decide +kernel, by decide +kernel⟩
theorem b_done {f : Addr} {fd : FuncData} (F : FunD K "done" "done" (defArgs s_done) (defBody s_done) (defScope s_done) [] [] f fd) : Binds K fd ["rests", "throws"] [] := b_of F fun _ _ _ _ _ _ us hl => match us, hl with | [_, _], _ => rfl
theorem kb_done_0_throws_rests {f : Addr} {fd : FuncData} (F : FunD K "done" "done" (defArgs s_done) (defBody s_done) (defScope s_done) [] [] f fd) : KBn K fd ["rests", "throws"] 0 ["throws", "rests"] (fun us ws => pick [1, 0] (us ++ ws)) (fun vs zs => pick [1, 0] (vs ++ zs)) := kb_of F 0 ["throws", "rests"] [1, 0] fun _ _ _ _ _ _ us ws hl hl2 => match us, ws, hl, hl2 with | [], [_, _], _, _ => rfl
theorem ok_done (T : Tx K mg fl fdl) : FnOk P w K mg base (L2.CX P w) 2 (fl 2) (fdl 2) ["rests", "throws"] (spD K 2 c_done) := by
  show FnOk P w K mg base (L2.CX P w) (1 + 1) (fl 2) (fdl 2) ["rests", "throws"] (spD K 2 (arity 2 (fnT 9 m_done)))
  have nd := sc_done.nd
  refine fn_okT (k := 1) (g := m_done) T.F_done sc_done rfl rfl fun cdv A outer s H E hr hp ho => ?_
  exact (dss_cons (ds_expr (de_call (ok__look_at_length T) (hr.mono (by decide)) rfl T.G__look_at_length T.F__look_at_length.kp (b__look_at_length T.F__look_at_length) hp (da_cons (de_var 1) da_nil)))
 (dss_cons (ds_set (i := 2) nd rfl (by first | exact Or.inl rfl | exact Or.inr rfl) (de_bin (od_mul true) (de_lst false (da_cons de_non da_nil)) (de_callB cd_len rfl T.b_len (by rfl) (da_cons (de_var 0) da_nil))))
 (dss_cons (ds_for (tg := (.tup [(.name 3), (.name 4)])) ho rfl (di_enum2 rfl T.b_enumerate (da_cons (de_var 1) (da_cons de_int da_nil))) (pg_tup rfl (pgs_cons (pg_name (i := 3) nd rfl (by first | exact Or.inl rfl | exact Or.inr rfl)) (pgs_cons (pg_name (i := 4) nd rfl (by first | exact Or.inl rfl | exact Or.inr rfl)) pgs_nil)))
 (dss_one (ds_for (tg := (.tup [(.name 5), (.name 6)])) ho rfl (di_enum1 rfl T.b_enumerate (da_cons (de_call (ok_needs T) (hr.mono (by decide)) rfl T.G_needs T.F_needs.kp (b_needs T.F_needs) hp (da_cons (de_bin (od_add false) (de_callB cd_len rfl T.b_len (by rfl) (da_cons (de_var 0) da_nil)) de_int) (da_cons (de_var 4) da_nil))) da_nil)) (pg_tup rfl (pgs_cons (pg_name (i := 5) nd rfl (by first | exact Or.inl rfl | exact Or.inr rfl)) (pgs_cons (pg_name (i := 6) nd rfl (by first | exact Or.inl rfl | exact Or.inr rfl)) pgs_nil)))
 (dss_cons (ds_if (dt_cmp (od_eq hr.units) (de_var 6) de_str (nomark _)) (dss_one ds_continue) dss_nil)
 (dss_cons (ds_if (dt_cmp od_isnt (de_ix id_ix (de_var 2) (de_var 5) (fun _ _ => rfl)) de_non (nomark _)) (dss_cons (ds_asg (de_ix id_ix (de_var 2) (de_var 5) (fun _ _ => rfl)) (dg_tup rfl (dgs_cons (dg_name (i := 7) nd rfl (by first | exact Or.inl rfl | exact Or.inr rfl)) (dgs_cons (dg_name (i := 8) nd rfl (by first | exact Or.inl rfl | exact Or.inr rfl)) dgs_nil))))
 (dss_one (ds_if (dw_dt (dw_and (dt_cmp (od_ne hr.units) (de_var 8) (de_var 6) (nomark _)) (dw_and1 (dt_cmp od_le (de_bin od_sub (de_var 3) (de_var 7)) (de_ix id_ix (de_var 0) (de_var 5) (fun _ _ => rfl)) (nomark _))))) (dss_one (ds_ret (de_tup (da_cons (de_var 3) (da_cons (de_var 5) da_nil))))) dss_nil))) dss_nil)
 (dss_one (ds_asg (de_tup (da_cons (de_var 3) (da_cons (de_var 6) da_nil))) (dg_sub (de_var 2) (de_var 5)))))))))
 (dss_one (ds_ret de_non)))))
abbrev n_gate_standing : List Str := ["rests", "throws", "told", "beat", "lane", "since", "gate", "need"]
theorem sc_gate_standing : FnScope n_gate_standing ["rests", "throws"] (defScope s_gate_standing) := ⟨rfl, rfl, rfl, by decide +kernel, rfl, by decide +kernel, by decide +kernel⟩
theorem b_gate_standing {f : Addr} {fd : FuncData} (F : FunD K "gate_standing" "gate_standing" (defArgs s_gate_standing) (defBody s_gate_standing) (defScope s_gate_standing) [] [] f fd) : Binds K fd ["rests", "throws"] [] := b_of F fun _ _ _ _ _ _ us hl => match us, hl with | [_, _], _ => rfl
theorem kb_gate_standing_0_throws_rests {f : Addr} {fd : FuncData} (F : FunD K "gate_standing" "gate_standing" (defArgs s_gate_standing) (defBody s_gate_standing) (defScope s_gate_standing) [] [] f fd) : KBn K fd ["rests", "throws"] 0 ["throws", "rests"] (fun us ws => pick [1, 0] (us ++ ws)) (fun vs zs => pick [1, 0] (vs ++ zs)) := kb_of F 0 ["throws", "rests"] [1, 0] fun _ _ _ _ _ _ us ws hl hl2 => match us, ws, hl, hl2 with | [], [_, _], _, _ => rfl
theorem ok_gate_standing (T : Tx K mg fl fdl) : FnOk P w K mg base (L2.CX P w) 2 (fl 3) (fdl 3) ["rests", "throws"] (spD K 2 c_gate_standing) := by
  show FnOk P w K mg base (L2.CX P w) (1 + 1) (fl 3) (fdl 3) ["rests", "throws"] (spD K 2 (arity 2 (fnT 8 m_gate_standing)))
  have nd := sc_gate_standing.nd
  refine fn_okT (k := 1) (g := m_gate_standing) T.F_gate_standing sc_gate_standing rfl rfl fun cdv A outer s H E hr hp ho => ?_
  exact (dss_cons (ds_expr (de_call (ok__look_at_length T) (hr.mono (by decide)) rfl T.G__look_at_length T.F__look_at_length.kp (b__look_at_length T.F__look_at_length) hp (da_cons (de_var 1) da_nil)))
 (dss_cons (ds_set (i := 2) nd rfl (by first | exact Or.inl rfl | exact Or.inr rfl) (de_bin (od_mul true) (de_lst false (da_cons de_str da_nil)) (de_callB cd_len rfl T.b_len (by rfl) (da_cons (de_var 0) da_nil))))
 (dss_cons (ds_for (tg := (.tup [(.name 3), (.name 4)])) ho rfl (di_enum2 rfl T.b_enumerate (da_cons (de_var 1) (da_cons de_int da_nil))) (pg_tup rfl (pgs_cons (pg_name (i := 3) nd rfl (by first | exact Or.inl rfl | exact Or.inr rfl)) (pgs_cons (pg_name (i := 4) nd rfl (by first | exact Or.inl rfl | exact Or.inr rfl)) pgs_nil)))
 (dss_cons (ds_set (i := 5) nd rfl (by first | exact Or.inl rfl | exact Or.inr rfl) (de_bin od_sub (de_bin (od_add false) (de_callB cd_len rfl T.b_len (by rfl) (da_cons (de_var 1) da_nil)) de_int) (de_var 3)))
 (dss_one (ds_for (tg := (.tup [(.name 6), (.name 7)])) ho rfl (di_enum1 rfl T.b_enumerate (da_cons (de_call (ok_needs T) (hr.mono (by decide)) rfl T.G_needs T.F_needs.kp (b_needs T.F_needs) hp (da_cons (de_bin (od_add false) (de_callB cd_len rfl T.b_len (by rfl) (da_cons (de_var 0) da_nil)) de_int) (da_cons (de_var 4) da_nil))) da_nil)) (pg_tup rfl (pgs_cons (pg_name (i := 6) nd rfl (by first | exact Or.inl rfl | exact Or.inr rfl)) (pgs_cons (pg_name (i := 7) nd rfl (by first | exact Or.inl rfl | exact Or.inr rfl)) pgs_nil)))
 (dss_one (ds_if (dt_cmp (od_ne hr.units) (de_var 7) de_str (nomark _)) (dss_one (ds_asg (de_if (dt_cmp od_le (de_var 5) (de_ix id_ix (de_var 0) (de_var 6) (fun _ _ => rfl)) (nomark _)) (de_tup (da_cons (de_var 7) (da_cons (de_var 5) da_nil))) de_str) (dg_sub (de_var 2) (de_var 6)))) dss_nil))))))
 (dss_one (ds_ret (de_callTy cd_tup rfl T.b_tuple (by rfl) (da_cons (de_var 2) da_nil)))))))
abbrev n__law_open : List Str := ["script", "mixed", "cell"]
theorem sc__law_open : FnScope n__law_open ["script"] (defScope s__law_open) := ⟨rfl, rfl, rfl, by decide +kernel, rfl, by decide +kernel, by decide +kernel⟩
theorem b__law_open {f : Addr} {fd : FuncData} (F : FunD K "_law_open" "_law_open" (defArgs s__law_open) (defBody s__law_open) (defScope s__law_open) [] [] f fd) : Binds K fd ["script"] [] := b_of F fun _ _ _ _ _ _ us hl => match us, hl with | [_], _ => rfl
theorem ok__law_open (T : Tx K mg fl fdl) : FnOk P w K mg base (L2.CX P w) 1 (fl 4) (fdl 4) ["script"] (spD K 1 c__law_open) := by
  show FnOk P w K mg base (L2.CX P w) (0 + 1) (fl 4) (fdl 4) ["script"] (spD K 1 (arity 1 (fnM 3 m__law_open)))
  have nd := sc__law_open.nd
  refine fn_okM (k := 0) (g := m__law_open) T.F__law_open sc__law_open rfl rfl fun cdv A outer s H E hr hp ho => ?_
  exact (dss_cons (ds_set (i := 1) nd rfl (by first | exact Or.inl rfl | exact Or.inr rfl) de_int)
 (dss_cons (ds_for (tg := (.name 2)) ho rfl (di_val (de_sl (sd_sl false) (de_var 0) do_none (do_some de_int))) (pg_name (i := 2) nd rfl (by first | exact Or.inl rfl | exact Or.inr rfl))
 (dss_one (ds_set (i := 1) nd rfl (by first | exact Or.inl rfl | exact Or.inr rfl) (de_bin od_mod (de_callTy cd_int rfl T.b_int (by rfl) (da_cons (de_bin (od_add false) (de_bin (od_add false) (de_bin (od_mul false) (de_var 1) de_int) (de_bin od_mod (de_callTy cd_int rfl T.b_int (by rfl) (da_cons (de_var 2) da_nil)) de_int)) de_int) da_nil)) de_int))))
 (dss_one (ds_ret (de_lst true (da_cons (de_callTy (cd_list false) rfl T.b_list (by rfl) (da_cons (de_sl (sd_sl false) (de_var 0) do_none (do_some de_int)) da_nil)) (da_cons de_int (da_cons de_int (da_cons de_int (da_cons (de_var 1) (da_cons de_int da_nil)))))))))))
abbrev n__law_draw : List Str := ["deck", "top", "cell", "digit"]
theorem sc__law_draw : FnScope n__law_draw ["deck", "top"] (defScope s__law_draw) := ⟨rfl, rfl, rfl, by decide +kernel, rfl, by decide +kernel, by decide +kernel⟩
theorem b__law_draw {f : Addr} {fd : FuncData} (F : FunD K "_law_draw" "_law_draw" (defArgs s__law_draw) (defBody s__law_draw) (defScope s__law_draw) [] [] f fd) : Binds K fd ["deck", "top"] [] := b_of F fun _ _ _ _ _ _ us hl => match us, hl with | [_, _], _ => rfl
theorem ok__law_draw (T : Tx K mg fl fdl) : FnOk P w K mg base (L2.CX P w) 1 (fl 5) (fdl 5) ["deck", "top"] (spD K 2 c__law_draw) := by
  show FnOk P w K mg base (L2.CX P w) (0 + 1) (fl 5) (fdl 5) ["deck", "top"] (spD K 2 (arity 2 (fnM 4 m__law_draw)))
  have nd := sc__law_draw.nd
  refine fn_okM (k := 0) (g := m__law_draw) T.F__law_draw sc__law_draw rfl rfl fun cdv A outer s H E hr hp ho => ?_
  exact (dss_cons (ds_asg (de_bin (od_add false) (de_ix id_ix (de_var 0) de_int (fun _ _ => rfl)) de_int) (dg_sub (de_var 0) de_int))
 (dss_cons (ds_if (dw_dt (dw_and (dt_cmp (od_eq hr.units) (de_ix id_ix (de_var 0) de_int (fun _ _ => rfl)) de_int (nomark _)) (dw_and1 (dt_cmp od_lt (de_ix id_ix (de_var 0) de_int (fun _ _ => rfl)) (de_callB cd_len rfl T.b_len (by rfl) (da_cons (de_ix id_ix (de_var 0) de_int (fun _ _ => rfl)) da_nil)) (nomark _))))) (dss_cons (ds_set (i := 2) nd rfl (by first | exact Or.inl rfl | exact Or.inr rfl) (de_callTy cd_int rfl T.b_int (by rfl) (da_cons (de_ix id_ix (de_ix id_ix (de_var 0) de_int (fun _ _ => rfl)) (de_ix id_ix (de_var 0) de_int (fun _ _ => rfl)) (fun _ _ => rfl)) da_nil)))
 (dss_cons (ds_asg (de_bin (od_add false) (de_ix id_ix (de_var 0) de_int (fun _ _ => rfl)) de_int) (dg_sub (de_var 0) de_int))
 (dss_one (ds_if (dt_cmp od_ge (de_var 2) (de_bin od_pow de_int de_int) (nomark _)) (dss_one (ds_asg (de_tup (da_cons (de_var 2) (da_cons de_int da_nil))) (dg_tup rfl (dgs_cons (dg_sub (de_var 0) de_int) (dgs_cons (dg_sub (de_var 0) de_int) dgs_nil))))) (dss_one (ds_asg (de_bin od_mod (de_callTy cd_int rfl T.b_int (by rfl) (da_cons (de_bin (od_add false) (de_bin (od_add false) (de_bin (od_mul false) (de_ix id_ix (de_var 0) de_int (fun _ _ => rfl)) de_int) (de_bin od_mod (de_var 2) de_int)) de_int) da_nil)) de_int) (dg_sub (de_var 0) de_int))))))) dss_nil)
 (dss_cons (ds_if (dt_cmp od_gt (de_ix id_ix (de_var 0) de_int (fun _ _ => rfl)) de_int (nomark _)) (dss_cons (ds_set (i := 3) nd rfl (by first | exact Or.inl rfl | exact Or.inr rfl) (de_bin od_mod (de_callTy cd_int rfl T.b_int (by rfl) (da_cons (de_ix id_ix (de_var 0) de_int (fun _ _ => rfl)) da_nil)) (de_var 1)))
 (dss_cons (ds_asg (de_bin od_fdiv (de_ix id_ix (de_var 0) de_int (fun _ _ => rfl)) (de_var 1)) (dg_sub (de_var 0) de_int))
 (dss_cons (ds_asg (de_if (dt_cmp od_gt (de_ix id_ix (de_var 0) de_int (fun _ _ => rfl)) de_int (nomark _)) (de_bin od_sub (de_ix id_ix (de_var 0) de_int (fun _ _ => rfl)) de_int) de_int) (dg_sub (de_var 0) de_int))
 (dss_one (ds_ret (de_var 3)))))) dss_nil)
 (dss_cons (ds_asg (de_bin od_mod (de_callTy cd_int rfl T.b_int (by rfl) (da_cons (de_bin (od_add false) (de_bin (od_add false) (de_bin (od_add false) (de_bin (od_mul false) (de_bin (od_mul false) (de_ix id_ix (de_var 0) de_int (fun _ _ => rfl)) (de_ix id_ix (de_var 0) de_int (fun _ _ => rfl))) de_int) (de_bin (od_mul false) (de_ix id_ix (de_var 0) de_int (fun _ _ => rfl)) de_int)) (de_bin (od_mul false) (de_ix id_ix (de_var 0) de_int (fun _ _ => rfl)) de_int)) de_int) da_nil)) de_int) (dg_sub (de_var 0) de_int))
 (dss_one (ds_ret (de_bin od_mod (de_callTy cd_int rfl T.b_int (by rfl) (da_cons (de_bin (od_add false) (de_bin od_fdiv (de_ix id_ix (de_var 0) de_int (fun _ _ => rfl)) de_int) (de_bin (od_mul false) (de_bin od_mod (de_callTy cd_int rfl T.b_int (by rfl) (da_cons (de_ix id_ix (de_var 0) de_int (fun _ _ => rfl)) da_nil)) de_int) de_int)) da_nil)) (de_var 1))))))))
abbrev n__law_pick : List Str := ["deck", "menu"]
theorem sc__law_pick : FnScope n__law_pick ["deck", "menu"] (defScope s__law_pick) := ⟨rfl, rfl, rfl, by decide +kernel, rfl, by decide +kernel, by decide +kernel⟩
theorem b__law_pick {f : Addr} {fd : FuncData} (F : FunD K "_law_pick" "_law_pick" (defArgs s__law_pick) (defBody s__law_pick) (defScope s__law_pick) [] [] f fd) : Binds K fd ["deck", "menu"] [] := b_of F fun _ _ _ _ _ _ us hl => match us, hl with | [_, _], _ => rfl
theorem ok__law_pick (T : Tx K mg fl fdl) : FnOk P w K mg base (L2.CX P w) 2 (fl 6) (fdl 6) ["deck", "menu"] (spD K 2 c__law_pick) := by
  show FnOk P w K mg base (L2.CX P w) (1 + 1) (fl 6) (fdl 6) ["deck", "menu"] (spD K 2 (arity 2 (fnM 2 m__law_pick)))
  have nd := sc__law_pick.nd
  refine fn_okM (k := 1) (g := m__law_pick) T.F__law_pick sc__law_pick rfl rfl fun cdv A outer s H E hr hp ho => ?_
  exact (dss_one (ds_ret (de_ix id_ix (de_var 1) (de_call (ok__law_draw T) (hr.mono (by decide)) rfl T.G__law_draw T.F__law_draw.kp (b__law_draw T.F__law_draw) hp (da_cons (de_var 0) (da_cons (de_callB cd_len rfl T.b_len (by rfl) (da_cons (de_var 1) da_nil)) da_nil))) (fun _ _ => rfl))))
abbrev n__law_whole : List Str := ["n"]
theorem sc__law_whole : FnScope n__law_whole ["n"] (defScope s__law_whole) := ⟨rfl, rfl, rfl, by decide +kernel, rfl, by decide +kernel, by decide +kernel⟩
theorem b__law_whole {f : Addr} {fd : FuncData} (F : FunD K "_law_whole" "_law_whole" (defArgs s__law_whole) (defBody s__law_whole) (defScope s__law_whole) [] [] f fd) : Binds K fd ["n"] [] := b_of F fun _ _ _ _ _ _ us hl => match us, hl with | [_], _ => rfl
theorem ok__law_whole (T : Tx K mg fl fdl) : FnOk P w K mg base (L2.CX P w) 1 (fl 7) (fdl 7) ["n"] (spD K 1 c__law_whole) := by
  show FnOk P w K mg base (L2.CX P w) (0 + 1) (fl 7) (fdl 7) ["n"] (spD K 1 (arity 1 (fnM 1 m__law_whole)))
  have nd := sc__law_whole.nd
  refine fn_okM (k := 0) (g := m__law_whole) T.F__law_whole sc__law_whole rfl rfl fun cdv A outer s H E hr hp ho => ?_
  exact (dss_one (ds_ret (de_and (de_callB cd_isi rfl T.b_isinstance (by rfl) (da_cons (de_var 0) (da_cons (de_ty rfl T.b_int (by rfl)) da_nil))) (de_one (de_not (de_callB cd_isi rfl T.b_isinstance (by rfl) (da_cons (de_var 0) (da_cons (de_ty rfl T.b_bool (by rfl)) da_nil))))))))
abbrev n__law_same : List Str := ["told", "due", "k", "spot"]
theorem sc__law_same : FnScope n__law_same ["told", "due"] (defScope s__law_same) := ⟨rfl, rfl, rfl, by decide +kernel, rfl, by decide +kernel, by decide +kernel⟩
theorem b__law_same {f : Addr} {fd : FuncData} (F : FunD K "_law_same" "_law_same" (defArgs s__law_same) (defBody s__law_same) (defScope s__law_same) [] [] f fd) : Binds K fd ["told", "due"] [] := b_of F fun _ _ _ _ _ _ us hl => match us, hl with | [_, _], _ => rfl
theorem ok__law_same (T : Tx K mg fl fdl) : ∀ k : Nat, FnOk P w K mg base (L2.CX P w) (2 + k) (fl 8) (fdl 8) ["told", "due"] (spD K 2 (c__law_same k))
  | 0 => by
    show FnOk P w K mg base (L2.CX P w) (1 + 1) (fl 8) (fdl 8) ["told", "due"] (spD K 2 (arity 2 (fnM 4 s_stuck)))
    refine fn_okM (k := 1) (g := s_stuck) T.F__law_same sc__law_same rfl rfl fun cdv A outer s H E hr hp ho => ?_
    exact dss_stuck
  | k + 1 => by
    have ih := ok__law_same T k
    have nd := sc__law_same.nd
    show FnOk P w K mg base (L2.CX P w) ((2 + k) + 1) (fl 8) (fdl 8) ["told", "due"] (spD K 2 (arity 2 (fnM 4 (s_seq (s_if (t_val (e_bin isD (e_var 1) (e_c .non))) (s_ret (e_bin isD (e_var 0) (e_c .non))) s_next)
 (s_seq (s_if (t_tru (e_call isiF (evs [(e_var 1), (e_c (.ty "bool"))]))) (s_ret (e_and (e_call isiF (evs [(e_var 0), (e_c (.ty "bool"))])) (e_bin eqD (e_var 0) (e_var 1)))) s_next)
 (s_seq (s_if (t_tru (e_call isiF (evs [(e_var 1), (e_c (.ty "int"))]))) (s_ret (e_and (e_call c__law_whole (evs [(e_var 0)])) (e_bin eqD (e_var 0) (e_var 1)))) s_next)
 (s_seq (s_if (t_tru (e_call isiF (evs [(e_var 1), (e_c (.ty "str"))]))) (s_ret (e_and (e_call isiF (evs [(e_var 0), (e_c (.ty "str"))])) (e_bin eqD (e_var 0) (e_var 1)))) s_next)
 (s_seq (s_if (t_tru (e_call isiF (evs [(e_var 1), (e_c (.ty "dict"))]))) (s_ret (e_and (e_call isiF (evs [(e_var 0), (e_c (.ty "dict"))])) (e_and (e_bin eqD (e_call lenD (evs [(e_var 0)])) (e_call lenD (evs [(e_var 1)]))) (e_call allF (evs [(e_lc false (i_val (e_var 1)) (.name 3) [3] t_yes (e_and (e_bin inD (e_var 3) (e_var 0)) (e_call (c__law_same k) (evs [(e_bin ixD (e_var 0) (e_var 3)), (e_bin ixD (e_var 1) (e_var 3))]))))]))))) s_next)
 (s_seq (s_if (t_or (t_and (t_tru (e_call isiF (evs [(e_var 1), (e_c (.ty "tuple"))]))) (t_not (t_tru (e_call isiF (evs [(e_var 0), (e_c (.ty "tuple"))]))))) (t_or (t_and (t_tru (e_call isiF (evs [(e_var 1), (e_c (.ty "list"))]))) (t_not (t_tru (e_call isiF (evs [(e_var 0), (e_c (.ty "list"))]))))) (t_val (e_bin neD (e_call lenD (evs [(e_var 0)])) (e_call lenD (evs [(e_var 1)])))))) (s_ret (e_c (.bl false))) s_next)
 (s_ret (e_call allF (evs [(e_lc false (i_call rng1 (evs [(e_call lenD (evs [(e_var 1)]))])) (.name 2) [2] t_yes (e_call (c__law_same k) (evs [(e_bin ixD (e_var 0) (e_var 2)), (e_bin ixD (e_var 1) (e_var 2))])))]))))))))))))
    refine fn_okM (k := 2 + k) (g := (s_seq (s_if (t_val (e_bin isD (e_var 1) (e_c .non))) (s_ret (e_bin isD (e_var 0) (e_c .non))) s_next)
 (s_seq (s_if (t_tru (e_call isiF (evs [(e_var 1), (e_c (.ty "bool"))]))) (s_ret (e_and (e_call isiF (evs [(e_var 0), (e_c (.ty "bool"))])) (e_bin eqD (e_var 0) (e_var 1)))) s_next)
 (s_seq (s_if (t_tru (e_call isiF (evs [(e_var 1), (e_c (.ty "int"))]))) (s_ret (e_and (e_call c__law_whole (evs [(e_var 0)])) (e_bin eqD (e_var 0) (e_var 1)))) s_next)
 (s_seq (s_if (t_tru (e_call isiF (evs [(e_var 1), (e_c (.ty "str"))]))) (s_ret (e_and (e_call isiF (evs [(e_var 0), (e_c (.ty "str"))])) (e_bin eqD (e_var 0) (e_var 1)))) s_next)
 (s_seq (s_if (t_tru (e_call isiF (evs [(e_var 1), (e_c (.ty "dict"))]))) (s_ret (e_and (e_call isiF (evs [(e_var 0), (e_c (.ty "dict"))])) (e_and (e_bin eqD (e_call lenD (evs [(e_var 0)])) (e_call lenD (evs [(e_var 1)]))) (e_call allF (evs [(e_lc false (i_val (e_var 1)) (.name 3) [3] t_yes (e_and (e_bin inD (e_var 3) (e_var 0)) (e_call (c__law_same k) (evs [(e_bin ixD (e_var 0) (e_var 3)), (e_bin ixD (e_var 1) (e_var 3))]))))]))))) s_next)
 (s_seq (s_if (t_or (t_and (t_tru (e_call isiF (evs [(e_var 1), (e_c (.ty "tuple"))]))) (t_not (t_tru (e_call isiF (evs [(e_var 0), (e_c (.ty "tuple"))]))))) (t_or (t_and (t_tru (e_call isiF (evs [(e_var 1), (e_c (.ty "list"))]))) (t_not (t_tru (e_call isiF (evs [(e_var 0), (e_c (.ty "list"))]))))) (t_val (e_bin neD (e_call lenD (evs [(e_var 0)])) (e_call lenD (evs [(e_var 1)])))))) (s_ret (e_c (.bl false))) s_next)
 (s_ret (e_call allF (evs [(e_lc false (i_call rng1 (evs [(e_call lenD (evs [(e_var 1)]))])) (.name 2) [2] t_yes (e_call (c__law_same k) (evs [(e_bin ixD (e_var 0) (e_var 2)), (e_bin ixD (e_var 1) (e_var 2))])))])))))))))) T.F__law_same sc__law_same rfl rfl fun cdv A outer s H E hr hp ho => ?_
    exact (dss_cons (ds_if (dt_cmp od_is (de_var 1) de_non (nomark _)) (dss_one (ds_ret (de_cmp od_is (de_var 0) de_non (nomark _)))) dss_nil)
 (dss_cons (ds_if (dt_tru (de_callB cd_isi rfl T.b_isinstance (by rfl) (da_cons (de_var 1) (da_cons (de_ty rfl T.b_bool (by rfl)) da_nil)))) (dss_one (ds_ret (de_and (de_callB cd_isi rfl T.b_isinstance (by rfl) (da_cons (de_var 0) (da_cons (de_ty rfl T.b_bool (by rfl)) da_nil))) (de_one (de_cmp (od_eq hr.units) (de_var 0) (de_var 1) (nomark _)))))) dss_nil)
 (dss_cons (ds_if (dt_tru (de_callB cd_isi rfl T.b_isinstance (by rfl) (da_cons (de_var 1) (da_cons (de_ty rfl T.b_int (by rfl)) da_nil)))) (dss_one (ds_ret (de_and (de_call (ok__law_whole T) (hr.mono (by omega)) rfl T.G__law_whole T.F__law_whole.kp (b__law_whole T.F__law_whole) hp (da_cons (de_var 0) da_nil)) (de_one (de_cmp (od_eq hr.units) (de_var 0) (de_var 1) (nomark _)))))) dss_nil)
 (dss_cons (ds_if (dt_tru (de_callB cd_isi rfl T.b_isinstance (by rfl) (da_cons (de_var 1) (da_cons (de_ty rfl T.b_str (by rfl)) da_nil)))) (dss_one (ds_ret (de_and (de_callB cd_isi rfl T.b_isinstance (by rfl) (da_cons (de_var 0) (da_cons (de_ty rfl T.b_str (by rfl)) da_nil))) (de_one (de_cmp (od_eq hr.units) (de_var 0) (de_var 1) (nomark _)))))) dss_nil)
 (dss_cons (ds_if (dt_tru (de_callB cd_isi rfl T.b_isinstance (by rfl) (da_cons (de_var 1) (da_cons (de_ty rfl T.b_dict (by rfl)) da_nil)))) (dss_one (ds_ret (de_and (de_callB cd_isi rfl T.b_isinstance (by rfl) (da_cons (de_var 0) (da_cons (de_ty rfl T.b_dict (by rfl)) da_nil))) (de_and (de_cmp (od_eq hr.units) (de_callB cd_len rfl T.b_len (by rfl) (da_cons (de_var 0) da_nil)) (de_callB cd_len rfl T.b_len (by rfl) (da_cons (de_var 1) da_nil)) (nomark _)) (de_one (de_callB (cd_all rfl) rfl T.b_all (by rfl) (da_cons (de_lc false (own := [("spot", 3)]) (tg := (.name 3)) rfl nd (di_val (de_var 1)) (blkOk_by (N := n__law_same) (sc := defScope s__law_same) (by decide +kernel)) rfl rfl (fun _ _ _ _ _ => (pg_name (i := 3) nd rfl (by first | exact Or.inl rfl | exact Or.inr rfl))) (fun _ _ _ _ _ => dts_nil) (fun _ _ _ _ _ => (de_and (de_cmp od_in (de_var 3) (de_var 0) (by rfl)) (de_one (de_call ih (hr.mono (by omega)) rfl T.G__law_same T.F__law_same.kp (b__law_same T.F__law_same) passL (da_cons (de_ix id_ix (de_var 0) (de_var 3) (fun _ _ => rfl)) (da_cons (de_ix id_ix (de_var 1) (de_var 3) (fun _ _ => rfl)) da_nil))))))) da_nil))))))) dss_nil)
 (dss_cons (ds_if (dw_dt (dw_or (dw_dt (dw_and (dt_tru (de_callB cd_isi rfl T.b_isinstance (by rfl) (da_cons (de_var 1) (da_cons (de_ty rfl T.b_tuple (by rfl)) da_nil)))) (dw_and1 (dt_not (dt_tru (de_callB cd_isi rfl T.b_isinstance (by rfl) (da_cons (de_var 0) (da_cons (de_ty rfl T.b_tuple (by rfl)) da_nil)))))))) (dw_or (dw_dt (dw_and (dt_tru (de_callB cd_isi rfl T.b_isinstance (by rfl) (da_cons (de_var 1) (da_cons (de_ty rfl T.b_list (by rfl)) da_nil)))) (dw_and1 (dt_not (dt_tru (de_callB cd_isi rfl T.b_isinstance (by rfl) (da_cons (de_var 0) (da_cons (de_ty rfl T.b_list (by rfl)) da_nil)))))))) (dw_or1 (dt_cmp (od_ne hr.units) (de_callB cd_len rfl T.b_len (by rfl) (da_cons (de_var 0) da_nil)) (de_callB cd_len rfl T.b_len (by rfl) (da_cons (de_var 1) da_nil)) (nomark _)))))) (dss_one (ds_ret de_bl)) dss_nil)
 (dss_one (ds_ret (de_callB (cd_all rfl) rfl T.b_all (by rfl) (da_cons (de_lc false (own := [("k", 2)]) (tg := (.name 2)) rfl nd (di_range1 rfl T.b_range (da_cons (de_callB cd_len rfl T.b_len (by rfl) (da_cons (de_var 1) da_nil)) da_nil)) (blkOk_by (N := n__law_same) (sc := defScope s__law_same) (by decide +kernel)) rfl rfl (fun _ _ _ _ _ => (pg_name (i := 2) nd rfl (by first | exact Or.inl rfl | exact Or.inr rfl))) (fun _ _ _ _ _ => dts_nil) (fun _ _ _ _ _ => (de_call ih (hr.mono (by omega)) rfl T.G__law_same T.F__law_same.kp (b__law_same T.F__law_same) passL (da_cons (de_ix id_ix (de_var 0) (de_var 2) (fun _ _ => rfl)) (da_cons (de_ix id_ix (de_var 1) (de_var 2) (fun _ _ => rfl)) da_nil))))) da_nil))))))))))
abbrev n__law_needs : List Str := ["gates", "place", "k"]
theorem sc__law_needs : FnScope n__law_needs ["gates", "place"] (defScope s__law_needs) := ⟨rfl, rfl, rfl, by decide +kernel, rfl, by decide +kernel, by decide +kernel⟩
theorem b__law_needs {f : Addr} {fd : FuncData} (F : FunD K "_law_needs" "_law_needs" (defArgs s__law_needs) (defBody s__law_needs) (defScope s__law_needs) [] [] f fd) : Binds K fd ["gates", "place"] [] := b_of F fun _ _ _ _ _ _ us hl => match us, hl with | [_, _], _ => rfl
theorem ok__law_needs (T : Tx K mg fl fdl) : FnOk P w K mg base (L2.CX P w) 1 (fl 9) (fdl 9) ["gates", "place"] (spD K 2 c__law_needs) := by
  show FnOk P w K mg base (L2.CX P w) (0 + 1) (fl 9) (fdl 9) ["gates", "place"] (spD K 2 (arity 2 (fnM 3 m__law_needs)))
  have nd := sc__law_needs.nd
  refine fn_okM (k := 0) (g := m__law_needs) T.F__law_needs sc__law_needs rfl rfl fun cdv A outer s H E hr hp ho => ?_
  exact (dss_cons (ds_if (dt_cmp od_is (de_var 1) de_non (nomark _)) (dss_one (ds_ret (de_lc false (own := [("k", 2)]) (tg := (.name 2)) rfl nd (di_range1 rfl T.b_range (da_cons (de_var 0) da_nil)) (blkOk_by (N := n__law_needs) (sc := defScope s__law_needs) (by decide +kernel)) rfl rfl (fun _ _ _ _ _ => (pg_name (i := 2) nd rfl (by first | exact Or.inl rfl | exact Or.inr rfl))) (fun _ _ _ _ _ => dts_nil) (fun _ _ _ _ _ => de_str)))) dss_nil)
 (dss_one (ds_ret (de_lc false (own := [("k", 2)]) (tg := (.name 2)) rfl nd (di_range1 rfl T.b_range (da_cons (de_var 0) da_nil)) (blkOk_by (N := n__law_needs) (sc := defScope s__law_needs) (by decide +kernel)) rfl rfl (fun _ _ _ _ _ => (pg_name (i := 2) nd rfl (by first | exact Or.inl rfl | exact Or.inr rfl))) (fun _ _ _ _ _ => dts_nil) (fun _ _ _ _ _ => (de_if (dt_cmp od_lt (de_var 2) (de_var 1) (nomark _)) de_str (de_if (dt_cmp (od_eq hr.units) (de_var 2) (de_var 1) (nomark _)) de_str de_str)))))))
abbrev n__law_belt : List Str := ["slow", "places", "stand", "idle", "first", "beat", "wants", "k"]
theorem sc__law_belt : FnScope n__law_belt ["slow", "places"] (defScope s__law_belt) := ⟨rfl, rfl, rfl, by decide +kernel, rfl, by decide +kernel, by decide +kernel⟩
theorem b__law_belt {f : Addr} {fd : FuncData} (F : FunD K "_law_belt" "_law_belt" (defArgs s__law_belt) (defBody s__law_belt) (defScope s__law_belt) [] [] f fd) : Binds K fd ["slow", "places"] [] := b_of F fun _ _ _ _ _ _ us hl => match us, hl with | [_, _], _ => rfl
theorem ok__law_belt (T : Tx K mg fl fdl) : FnOk P w K mg base (L2.CX P w) 2 (fl 10) (fdl 10) ["slow", "places"] (spD K 2 c__law_belt) := by
  show FnOk P w K mg base (L2.CX P w) (1 + 1) (fl 10) (fdl 10) ["slow", "places"] (spD K 2 (arity 2 (fnT 8 m__law_belt)))
  have nd := sc__law_belt.nd
  refine fn_okT (k := 1) (g := m__law_belt) T.F__law_belt sc__law_belt rfl rfl fun cdv A outer s H E hr hp ho => ?_
  exact (dss_cons (ds_set (i := 2) nd rfl (by first | exact Or.inl rfl | exact Or.inr rfl) (de_lc true (own := [("k", 7)]) (tg := (.name 7)) rfl nd (di_val (de_var 0)) (blkOk_by (N := n__law_belt) (sc := defScope s__law_belt) (by decide +kernel)) rfl rfl (fun _ _ _ _ _ => (pg_name (i := 7) nd rfl (by first | exact Or.inl rfl | exact Or.inr rfl))) (fun _ _ _ _ _ => dts_nil) (fun _ _ _ _ _ => de_str)))
 (dss_cons (ds_set (i := 3) nd rfl (by first | exact Or.inl rfl | exact Or.inr rfl) (de_lc true (own := [("k", 7)]) (tg := (.name 7)) rfl nd (di_val (de_var 0)) (blkOk_by (N := n__law_belt) (sc := defScope s__law_belt) (by decide +kernel)) rfl rfl (fun _ _ _ _ _ => (pg_name (i := 7) nd rfl (by first | exact Or.inl rfl | exact Or.inr rfl))) (fun _ _ _ _ _ => dts_nil) (fun _ _ _ _ _ => de_int)))
 (dss_cons (ds_set (i := 4) nd rfl (by first | exact Or.inl rfl | exact Or.inr rfl) de_non)
 (dss_cons (ds_for (tg := (.name 5)) ho rfl (di_range2 rfl T.b_range (da_cons de_int (da_cons (de_bin (od_add false) (de_callB cd_len rfl T.b_len (by rfl) (da_cons (de_var 1) da_nil)) de_int) da_nil))) (pg_name (i := 5) nd rfl (by first | exact Or.inl rfl | exact Or.inr rfl))
 (dss_cons (ds_set (i := 6) nd rfl (by first | exact Or.inl rfl | exact Or.inr rfl) (de_call (ok__law_needs T) (hr.mono (by decide)) rfl T.G__law_needs T.F__law_needs.kp (b__law_needs T.F__law_needs) hp (da_cons (de_callB cd_len rfl T.b_len (by rfl) (da_cons (de_var 0) da_nil)) (da_cons (de_ix id_ix (de_var 1) (de_bin od_sub (de_var 5) de_int) (fun _ _ => rfl)) da_nil))))
 (dss_one (ds_for (tg := (.name 7)) ho rfl (di_range1 rfl T.b_range (da_cons (de_callB cd_len rfl T.b_len (by rfl) (da_cons (de_var 0) da_nil)) da_nil)) (pg_name (i := 7) nd rfl (by first | exact Or.inl rfl | exact Or.inr rfl))
 (dss_cons (ds_asg (de_bin (od_add false) (de_ix id_ix (de_var 3) (de_var 7) (fun _ _ => rfl)) de_int) (dg_sub (de_var 3) (de_var 7)))
 (dss_one (ds_if (dt_cmp (od_ne hr.units) (de_ix id_ix (de_var 6) (de_var 7) (fun _ _ => rfl)) de_str (nomark _)) (dss_cons (ds_if (dw_dt (dw_and (dt_cmp (od_ne hr.units) (de_ix id_ix (de_var 2) (de_var 7) (fun _ _ => rfl)) de_str (nomark _)) (dw_and (dt_cmp (od_ne hr.units) (de_ix id_ix (de_var 2) (de_var 7) (fun _ _ => rfl)) (de_ix id_ix (de_var 6) (de_var 7) (fun _ _ => rfl)) (nomark _)) (dw_and (dt_cmp od_le (de_ix id_ix (de_var 3) (de_var 7) (fun _ _ => rfl)) (de_ix id_ix (de_var 0) (de_var 7) (fun _ _ => rfl)) (nomark _)) (dw_and1 (dt_cmp od_is (de_var 4) de_non (nomark _))))))) (dss_one (ds_set (i := 4) nd rfl (by first | exact Or.inl rfl | exact Or.inr rfl) (de_tup (da_cons (de_var 5) (da_cons (de_var 7) da_nil))))) dss_nil)
 (dss_one (ds_asg (de_tup (da_cons (de_ix id_ix (de_var 6) (de_var 7) (fun _ _ => rfl)) (da_cons de_int da_nil))) (dg_tup rfl (dgs_cons (dg_sub (de_var 2) (de_var 7)) (dgs_cons (dg_sub (de_var 3) (de_var 7)) dgs_nil)))))) dss_nil)))))))
 (dss_one (ds_ret (de_tup (da_cons (de_var 4) (da_cons (de_callTy cd_tup rfl T.b_tuple (by rfl) (da_cons (de_lc false (own := [("k", 7)]) (tg := (.name 7)) rfl nd (di_range1 rfl T.b_range (da_cons (de_callB cd_len rfl T.b_len (by rfl) (da_cons (de_var 0) da_nil)) da_nil)) (blkOk_by (N := n__law_belt) (sc := defScope s__law_belt) (by decide +kernel)) rfl rfl (fun _ _ _ _ _ => (pg_name (i := 7) nd rfl (by first | exact Or.inl rfl | exact Or.inr rfl))) (fun _ _ _ _ _ => dts_nil) (fun _ _ _ _ _ => (de_if (dw_dt (dw_and (dt_cmp (od_ne hr.units) (de_ix id_ix (de_var 2) (de_var 7) (fun _ _ => rfl)) de_str (nomark _)) (dw_and1 (dt_cmp od_lt (de_ix id_ix (de_var 3) (de_var 7) (fun _ _ => rfl)) (de_ix id_ix (de_var 0) (de_var 7) (fun _ _ => rfl)) (nomark _))))) (de_tup (da_cons (de_ix id_ix (de_var 2) (de_var 7) (fun _ _ => rfl)) (da_cons (de_bin (od_add false) (de_ix id_ix (de_var 3) (de_var 7) (fun _ _ => rfl)) de_int) da_nil))) de_str))) da_nil)) da_nil)))))))))
abbrev n__law_throws : List Str := ["deck", "slow", "calm", "made", "turn", "place"]
theorem sc__law_throws : FnScope n__law_throws ["deck", "slow", "calm"] (defScope s__law_throws) := ⟨rfl, rfl, rfl, by decide +kernel, rfl, by decide +kernel, by decide +kernel⟩
theorem b__law_throws {f : Addr} {fd : FuncData} (F : FunD K "_law_throws" "_law_throws" (defArgs s__law_throws) (defBody s__law_throws) (defScope s__law_throws) [] [] f fd) : Binds K fd ["deck", "slow", "calm"] [] := b_of F fun _ _ _ _ _ _ us hl => match us, hl with | [_, _, _], _ => rfl
theorem ok__law_throws (T : Tx K mg fl fdl) : FnOk P w K mg base (L2.CX P w) 3 (fl 11) (fdl 11) ["deck", "slow", "calm"] (spD K 3 c__law_throws) := by
  show FnOk P w K mg base (L2.CX P w) (2 + 1) (fl 11) (fdl 11) ["deck", "slow", "calm"] (spD K 3 (arity 3 (fnT 6 m__law_throws)))
  have nd := sc__law_throws.nd
  refine fn_okT (k := 2) (g := m__law_throws) T.F__law_throws sc__law_throws rfl rfl fun cdv A outer s H E hr hp ho => ?_
  exact (dss_cons (ds_set (i := 3) nd rfl (by first | exact Or.inl rfl | exact Or.inr rfl) (de_lst true da_nil))
 (dss_cons (ds_for (tg := (.name 4)) ho rfl (di_range1 rfl T.b_range (da_cons (de_call (ok__law_draw T) (hr.mono (by decide)) rfl T.G__law_draw T.F__law_draw.kp (b__law_draw T.F__law_draw) hp (da_cons (de_var 0) (da_cons de_int da_nil))) da_nil)) (pg_name (i := 4) nd rfl (by first | exact Or.inl rfl | exact Or.inr rfl))
 (dss_cons (ds_set (i := 5) nd rfl (by first | exact Or.inl rfl | exact Or.inr rfl) (de_call (ok__law_draw T) (hr.mono (by decide)) rfl T.G__law_draw T.F__law_draw.kp (b__law_draw T.F__law_draw) hp (da_cons (de_var 0) (da_cons (de_bin (od_add false) (de_callB cd_len rfl T.b_len (by rfl) (da_cons (de_var 1) da_nil)) de_int) da_nil))))
 (dss_cons (ds_if (dt_cmp (od_eq hr.units) (de_call (ok__law_draw T) (hr.mono (by decide)) rfl T.G__law_draw T.F__law_draw.kp (b__law_draw T.F__law_draw) hp (da_cons (de_var 0) (da_cons de_int da_nil))) de_int (nomark _)) (dss_one (ds_set (i := 5) nd rfl (by first | exact Or.inl rfl | exact Or.inr rfl) de_non)) dss_nil)
 (dss_cons (ds_if (dw_dt (dw_and (dt_tru (de_var 2)) (dw_and1 (dt_cmp od_isnt (de_ix id_ix (de_call (ok__law_belt T) (hr.mono (by decide)) rfl T.G__law_belt T.F__law_belt.kp (b__law_belt T.F__law_belt) hp (da_cons (de_var 1) (da_cons (de_bin (od_add false) (de_var 3) (de_lst false (da_cons (de_var 5) da_nil))) da_nil))) de_int (fun _ _ => rfl)) de_non (nomark _))))) (dss_one (ds_set (i := 5) nd rfl (by first | exact Or.inl rfl | exact Or.inr rfl) de_non)) dss_nil)
 (dss_one (ds_expr (de_mt PySem.F.plainAttrs_list PySem.F.slot_list_append PySem.F.type_list_append md_append (de_var 3) (da_cons (de_var 5) da_nil))))))))
 (dss_one (ds_ret (de_var 3)))))
abbrev n__law_row_right : List Str := ["deck", "slow", "places", "count", "handed", "first", "stand", "told", "more"]
theorem sc__law_row_right : FnScope n__law_row_right ["deck", "slow", "places"] (defScope s__law_row_right) := ⟨rfl, rfl, rfl, by decide +kernel, rfl, by decide +kernel, by decide +kernel⟩
theorem b__law_row_right {f : Addr} {fd : FuncData} (F : FunD K "_law_row_right" "_law_row_right" (defArgs s__law_row_right) (defBody s__law_row_right) (defScope s__law_row_right) [] [] f fd) : Binds K fd ["deck", "slow", "places"] [] := b_of F fun _ _ _ _ _ _ us hl => match us, hl with | [_, _, _], _ => rfl
theorem ok__law_row_right (T : Tx K mg fl fdl) : FnOk P w K mg base (L2.CX P w) 15 (fl 12) (fdl 12) ["deck", "slow", "places"] (spD K 3 c__law_row_right) := by
  show FnOk P w K mg base (L2.CX P w) (14 + 1) (fl 12) (fdl 12) ["deck", "slow", "places"] (spD K 3 (arity 3 (fnM 9 m__law_row_right)))
  have nd := sc__law_row_right.nd
  refine fn_okM (k := 14) (g := m__law_row_right) T.F__law_row_right sc__law_row_right rfl rfl fun cdv A outer s H E hr hp ho => ?_
  exact (dss_cons (ds_for (tg := (.name 3)) ho rfl (di_range1 rfl T.b_range (da_cons (de_bin (od_add false) (de_callB cd_len rfl T.b_len (by rfl) (da_cons (de_var 2) da_nil)) de_int) da_nil)) (pg_name (i := 3) nd rfl (by first | exact Or.inl rfl | exact Or.inr rfl))
 (dss_cons (ds_set (i := 4) nd rfl (by first | exact Or.inl rfl | exact Or.inr rfl) (de_if (dt_cmp (od_eq hr.units) (de_call (ok__law_draw T) (hr.mono (by decide)) rfl T.G__law_draw T.F__law_draw.kp (b__law_draw T.F__law_draw) hp (da_cons (de_var 0) (da_cons de_int da_nil))) de_int (nomark _)) (de_callTy (cd_list false) rfl T.b_list (by rfl) (da_cons (de_sl (sd_sl false) (de_var 2) do_none (do_some (de_var 3))) da_nil)) (de_callTy cd_tup rfl T.b_tuple (by rfl) (da_cons (de_sl (sd_sl false) (de_var 2) do_none (do_some (de_var 3))) da_nil))))
 (dss_cons (ds_asg (de_call (ok__law_belt T) (hr.mono (by decide)) rfl T.G__law_belt T.F__law_belt.kp (b__law_belt T.F__law_belt) hp (da_cons (de_var 1) (da_cons (de_sl (sd_sl false) (de_var 2) do_none (do_some (de_var 3))) da_nil))) (dg_tup rfl (dgs_cons (dg_name (i := 5) nd rfl (by first | exact Or.inl rfl | exact Or.inr rfl)) (dgs_cons (dg_name (i := 6) nd rfl (by first | exact Or.inl rfl | exact Or.inr rfl)) dgs_nil))))
 (dss_cons (ds_set (i := 7) nd rfl (by first | exact Or.inl rfl | exact Or.inr rfl) (de_if (dt_cmp od_gt (de_call (ok__law_draw T) (hr.mono (by decide)) rfl T.G__law_draw T.F__law_draw.kp (b__law_draw T.F__law_draw) hp (da_cons (de_var 0) (da_cons de_int da_nil))) de_int (nomark _)) (de_call (ok_done T) (hr.mono (by decide)) rfl T.G_done T.F_done.kp (b_done T.F_done) hp (da_cons (de_callTy cd_tup rfl T.b_tuple (by rfl) (da_cons (de_var 1) da_nil)) (da_cons (de_var 4) da_nil))) (de_callK0 (ok_done T) (hr.mono (by decide)) rfl T.G_done T.F_done.kp (kb_done_0_throws_rests T.F_done) hp rfl (dk_cons (de_var 4) (dk_cons (de_callTy cd_tup rfl T.b_tuple (by rfl) (da_cons (de_var 1) da_nil)) dk_nil)))))
 (dss_one (ds_if (dw_dt (dw_or (dt_not (dt_tru (de_call (ok__law_same T 12) (hr.mono (by decide)) rfl T.G__law_same T.F__law_same.kp (b__law_same T.F__law_same) hp (da_cons (de_var 7) (da_cons (de_var 5) da_nil))))) (dw_or (dt_not (dt_tru (de_call (ok__law_same T 12) (hr.mono (by decide)) rfl T.G__law_same T.F__law_same.kp (b__law_same T.F__law_same) hp (da_cons (de_call (ok_gate_standing T) (hr.mono (by decide)) rfl T.G_gate_standing T.F_gate_standing.kp (b_gate_standing T.F_gate_standing) hp (da_cons (de_callTy cd_tup rfl T.b_tuple (by rfl) (da_cons (de_var 1) da_nil)) (da_cons (de_var 4) da_nil))) (da_cons (de_var 6) da_nil))))) (dw_or1 (dt_cmp (od_ne hr.units) (de_callTy (cd_list false) rfl T.b_list (by rfl) (da_cons (de_var 4) da_nil)) (de_sl (sd_sl false) (de_var 2) do_none (do_some (de_var 3))) (nomark _)))))) (dss_one (ds_ret de_bl)) dss_nil))))))
 (dss_cons (ds_set (i := 8) nd rfl (by first | exact Or.inl rfl | exact Or.inr rfl) (de_bin (od_add false) (de_var 2) (de_lst false (da_cons (de_call (ok__law_draw T) (hr.mono (by decide)) rfl T.G__law_draw T.F__law_draw.kp (b__law_draw T.F__law_draw) hp (da_cons (de_var 0) (da_cons (de_bin (od_add false) (de_callB cd_len rfl T.b_len (by rfl) (da_cons (de_var 1) da_nil)) de_int) da_nil))) (da_cons de_non (da_cons (de_call (ok__law_draw T) (hr.mono (by decide)) rfl T.G__law_draw T.F__law_draw.kp (b__law_draw T.F__law_draw) hp (da_cons (de_var 0) (da_cons (de_bin (od_add false) (de_callB cd_len rfl T.b_len (by rfl) (da_cons (de_var 1) da_nil)) de_int) da_nil))) da_nil))))))
 (dss_cons (ds_asg (de_call (ok__law_belt T) (hr.mono (by decide)) rfl T.G__law_belt T.F__law_belt.kp (b__law_belt T.F__law_belt) hp (da_cons (de_var 1) (da_cons (de_var 8) da_nil))) (dg_tup rfl (dgs_cons (dg_name (i := 5) nd rfl (by first | exact Or.inl rfl | exact Or.inr rfl)) (dgs_cons (dg_name (i := 6) nd rfl (by first | exact Or.inl rfl | exact Or.inr rfl)) dgs_nil))))
 (dss_one (ds_ret (de_and (de_call (ok__law_same T 12) (hr.mono (by decide)) rfl T.G__law_same T.F__law_same.kp (b__law_same T.F__law_same) hp (da_cons (de_callK0 (ok_gate_standing T) (hr.mono (by decide)) rfl T.G_gate_standing T.F_gate_standing.kp (kb_gate_standing_0_throws_rests T.F_gate_standing) hp rfl (dk_cons (de_callTy (cd_list false) rfl T.b_list (by rfl) (da_cons (de_var 8) da_nil)) (dk_cons (de_callTy cd_tup rfl T.b_tuple (by rfl) (da_cons (de_var 1) da_nil)) dk_nil))) (da_cons (de_var 6) da_nil))) (de_one (de_call (ok__law_same T 12) (hr.mono (by decide)) rfl T.G__law_same T.F__law_same.kp (b__law_same T.F__law_same) hp (da_cons (de_call (ok_done T) (hr.mono (by decide)) rfl T.G_done T.F_done.kp (b_done T.F_done) hp (da_cons (de_callTy cd_tup rfl T.b_tuple (by rfl) (da_cons (de_var 1) da_nil)) (da_cons (de_var 8) da_nil))) (da_cons (de_var 5) da_nil))))))))))
abbrev n_law : List Str := ["script", "deck", "gates", "slow", "place", "due", "k"]
theorem sc_law : FnScope n_law ["script"] (defScope s_law) := ⟨rfl, rfl, rfl, by decide +kernel, rfl, by decide +kernel, by decide +kernel⟩
theorem b_law {f : Addr} {fd : FuncData} (F : FunD K "law" "law" (defArgs s_law) (defBody s_law) (defScope s_law) [] [] f fd) : Binds K fd ["script"] [] := b_of F fun _ _ _ _ _ _ us hl => match us, hl with | [_], _ => rfl
theorem ok_law (T : Tx K mg fl fdl) : FnOk P w K mg base (L2.CX P w) 16 (fl 13) (fdl 13) ["script"] (spD K 1 c_law) := by
  show FnOk P w K mg base (L2.CX P w) (15 + 1) (fl 13) (fdl 13) ["script"] (spD K 1 (arity 1 (fnM 7 m_law)))
  have nd := sc_law.nd
  refine fn_okM (k := 15) (g := m_law) T.F_law sc_law rfl rfl fun cdv A outer s H E hr hp ho => ?_
  exact (dss_cons (ds_set (i := 1) nd rfl (by first | exact Or.inl rfl | exact Or.inr rfl) (de_call (ok__law_open T) (hr.mono (by decide)) rfl T.G__law_open T.F__law_open.kp (b__law_open T.F__law_open) hp (da_cons (de_var 0) da_nil)))
 (dss_cons (ds_set (i := 2) nd rfl (by first | exact Or.inl rfl | exact Or.inr rfl) (de_call (ok__law_pick T) (hr.mono (by decide)) rfl T.G__law_pick T.F__law_pick.kp (b__law_pick T.F__law_pick) hp (da_cons (de_var 1) (da_cons (de_lst false (da_cons de_int (da_cons de_int (da_cons de_int (da_cons de_int (da_cons de_int (da_cons de_int da_nil))))))) da_nil))))
 (dss_cons (ds_setLc false (i := 3) (own := [("k", 6)]) (tg := (.name 6)) rfl nd rfl rfl (sw_true rfl rfl rfl (by decide +kernel)) (di_range1 rfl T.b_range (da_cons (de_var 2) da_nil)) (blkOk_by (N := n_law) (sc := defScope s_law) (by decide +kernel)) rfl rfl (fun _ _ _ _ _ => (pg_name (i := 6) nd rfl (by first | exact Or.inl rfl | exact Or.inr rfl))) (fun _ _ _ _ _ => dts_nil) (fun _ _ _ _ _ => (de_call (ok__law_pick T) (hr.mono (by decide)) rfl T.G__law_pick T.F__law_pick.kp (b__law_pick T.F__law_pick) passL (da_cons (de_var 1) (da_cons (de_lst false (da_cons de_int (da_cons de_int (da_cons de_int (da_cons de_int (da_cons de_int (da_cons de_int (da_cons de_int da_nil)))))))) da_nil)))))
 (dss_cons (ds_for (tg := (.name 4)) ho rfl (di_range1 rfl T.b_range (da_cons (de_bin (od_add false) (de_var 2) de_int) da_nil)) (pg_name (i := 4) nd rfl (by first | exact Or.inl rfl | exact Or.inr rfl))
 (dss_cons (ds_set (i := 5) nd rfl (by first | exact Or.inl rfl | exact Or.inr rfl) (de_callTy cd_tup rfl T.b_tuple (by rfl) (da_cons (de_call (ok__law_needs T) (hr.mono (by decide)) rfl T.G__law_needs T.F__law_needs.kp (b__law_needs T.F__law_needs) hp (da_cons (de_var 2) (da_cons (de_var 4) da_nil))) da_nil)))
 (dss_one (ds_if (dw_dt (dw_or (dt_not (dt_tru (de_call (ok__law_same T 12) (hr.mono (by decide)) rfl T.G__law_same T.F__law_same.kp (b__law_same T.F__law_same) hp (da_cons (de_call (ok_needs T) (hr.mono (by decide)) rfl T.G_needs T.F_needs.kp (b_needs T.F_needs) hp (da_cons (de_bin (od_add false) (de_var 2) de_int) (da_cons (de_var 4) da_nil))) (da_cons (de_var 5) da_nil))))) (dw_or1 (dt_not (dt_tru (de_call (ok__law_same T 12) (hr.mono (by decide)) rfl T.G__law_same T.F__law_same.kp (b__law_same T.F__law_same) hp (da_cons (de_callK0 (ok_needs T) (hr.mono (by decide)) rfl T.G_needs T.F_needs.kp (kb_needs_0_lane_lanes T.F_needs) hp rfl (dk_cons (de_var 4) (dk_cons (de_bin (od_add false) (de_var 2) de_int) dk_nil))) (da_cons (de_var 5) da_nil)))))))) (dss_one (ds_ret de_bl)) dss_nil))))
 (dss_cons (ds_if (dt_not (dt_tru (de_call (ok__law_same T 12) (hr.mono (by decide)) rfl T.G__law_same T.F__law_same.kp (b__law_same T.F__law_same) hp (da_cons (de_call (ok_needs T) (hr.mono (by decide)) rfl T.G_needs T.F_needs.kp (b_needs T.F_needs) hp (da_cons (de_bin (od_add false) (de_var 2) de_int) (da_cons de_non da_nil))) (da_cons (de_callTy cd_tup rfl T.b_tuple (by rfl) (da_cons (de_lc false (own := [("k", 6)]) (tg := (.name 6)) rfl nd (di_range1 rfl T.b_range (da_cons (de_var 2) da_nil)) (blkOk_by (N := n_law) (sc := defScope s_law) (by decide +kernel)) rfl rfl (fun _ _ _ _ _ => (pg_name (i := 6) nd rfl (by first | exact Or.inl rfl | exact Or.inr rfl))) (fun _ _ _ _ _ => dts_nil) (fun _ _ _ _ _ => de_str)) da_nil)) da_nil))))) (dss_one (ds_ret de_bl)) dss_nil)
 (dss_cons (ds_if (dw_dt (dw_or (dt_not (dt_tru (de_call (ok__law_row_right T) (hr.mono (by decide)) rfl T.G__law_row_right T.F__law_row_right.kp (b__law_row_right T.F__law_row_right) hp (da_cons (de_var 1) (da_cons (de_var 3) (da_cons (de_call (ok__law_throws T) (hr.mono (by decide)) rfl T.G__law_throws T.F__law_throws.kp (b__law_throws T.F__law_throws) hp (da_cons (de_var 1) (da_cons (de_var 3) (da_cons de_bl da_nil)))) da_nil)))))) (dw_or1 (dt_not (dt_tru (de_call (ok__law_row_right T) (hr.mono (by decide)) rfl T.G__law_row_right T.F__law_row_right.kp (b__law_row_right T.F__law_row_right) hp (da_cons (de_var 1) (da_cons (de_var 3) (da_cons (de_call (ok__law_throws T) (hr.mono (by decide)) rfl T.G__law_throws T.F__law_throws.kp (b__law_throws T.F__law_throws) hp (da_cons (de_var 1) (da_cons (de_var 3) (da_cons de_bl da_nil)))) da_nil))))))))) (dss_one (ds_ret de_bl)) dss_nil)
 (dss_cons (ds_if (dw_dt (dw_or (dt_not (dt_tru (de_call (ok__law_same T 12) (hr.mono (by decide)) rfl T.G__law_same T.F__law_same.kp (b__law_same T.F__law_same) hp (da_cons (de_call (ok_done T) (hr.mono (by decide)) rfl T.G_done T.F_done.kp (b_done T.F_done) hp (da_cons (de_tup (da_cons de_int (da_cons de_int da_nil))) (da_cons (de_lst false (da_cons de_int (da_cons de_non (da_cons de_int (da_cons de_int da_nil))))) da_nil))) (da_cons (de_tup (da_cons de_int (da_cons de_int da_nil))) da_nil))))) (dw_or1 (dt_not (dt_tru (de_call (ok__law_same T 12) (hr.mono (by decide)) rfl T.G__law_same T.F__law_same.kp (b__law_same T.F__law_same) hp (da_cons (de_call (ok_gate_standing T) (hr.mono (by decide)) rfl T.G_gate_standing T.F_gate_standing.kp (b_gate_standing T.F_gate_standing) hp (da_cons (de_tup (da_cons de_int (da_cons de_int da_nil))) (da_cons (de_lst false (da_cons de_int (da_cons de_non (da_cons de_int da_nil)))) da_nil))) (da_cons (de_tup (da_cons (de_tup (da_cons de_str (da_cons de_int da_nil))) (da_cons (de_tup (da_cons de_str (da_cons de_int da_nil))) da_nil))) da_nil)))))))) (dss_one (ds_ret de_bl)) dss_nil)
 (dss_one (ds_ret (de_and (de_cmp od_is (de_call (ok_done T) (hr.mono (by decide)) rfl T.G_done T.F_done.kp (b_done T.F_done) hp (da_cons (de_tup (da_cons de_int (da_cons de_int da_nil))) (da_cons (de_tup (da_cons de_int (da_cons de_non (da_cons de_int (da_cons de_non (da_cons de_non (da_cons de_int da_nil))))))) da_nil))) de_non (nomark _)) (de_one (de_call (ok__law_same T 12) (hr.mono (by decide)) rfl T.G__law_same T.F__law_same.kp (b__law_same T.F__law_same) hp (da_cons (de_call (ok_gate_standing T) (hr.mono (by decide)) rfl T.G_gate_standing T.F_gate_standing.kp (b_gate_standing T.F_gate_standing) hp (da_cons (de_tup (da_cons de_int (da_cons de_int da_nil))) (da_cons (de_lst false (da_cons de_int (da_cons de_non da_nil))) da_nil))) (da_cons (de_tup (da_cons (de_tup (da_cons de_str (da_cons de_int da_nil))) (da_cons de_str da_nil))) da_nil))))))))))))))
end
end K14

namespace K14
open PySem PySem.Spec PyProof.Rows L2
def d_needs : He.DefD := ⟨("needs", none), "needs", "needs", defArgs s_needs, defBody s_needs, defScope s_needs, [], []⟩
def d__look_at_length : He.DefD := ⟨("_look_at_length", none), "_look_at_length", "_look_at_length", defArgs s__look_at_length, defBody s__look_at_length, defScope s__look_at_length, [], []⟩
def d_done : He.DefD := ⟨("done", none), "done", "done", defArgs s_done, defBody s_done, defScope s_done, [], []⟩
def d_gate_standing : He.DefD := ⟨("gate_standing", none), "gate_standing", "gate_standing", defArgs s_gate_standing, defBody s_gate_standing, defScope s_gate_standing, [], []⟩
def d__law_open : He.DefD := ⟨("_law_open", none), "_law_open", "_law_open", defArgs s__law_open, defBody s__law_open, defScope s__law_open, [], []⟩
def d__law_draw : He.DefD := ⟨("_law_draw", none), "_law_draw", "_law_draw", defArgs s__law_draw, defBody s__law_draw, defScope s__law_draw, [], []⟩
def d__law_pick : He.DefD := ⟨("_law_pick", none), "_law_pick", "_law_pick", defArgs s__law_pick, defBody s__law_pick, defScope s__law_pick, [], []⟩
def d__law_whole : He.DefD := ⟨("_law_whole", none), "_law_whole", "_law_whole", defArgs s__law_whole, defBody s__law_whole, defScope s__law_whole, [], []⟩
def d__law_same : He.DefD := ⟨("_law_same", none), "_law_same", "_law_same", defArgs s__law_same, defBody s__law_same, defScope s__law_same, [], []⟩
def d__law_needs : He.DefD := ⟨("_law_needs", none), "_law_needs", "_law_needs", defArgs s__law_needs, defBody s__law_needs, defScope s__law_needs, [], []⟩
def d__law_belt : He.DefD := ⟨("_law_belt", none), "_law_belt", "_law_belt", defArgs s__law_belt, defBody s__law_belt, defScope s__law_belt, [], []⟩
def d__law_throws : He.DefD := ⟨("_law_throws", none), "_law_throws", "_law_throws", defArgs s__law_throws, defBody s__law_throws, defScope s__law_throws, [], []⟩
def d__law_row_right : He.DefD := ⟨("_law_row_right", none), "_law_row_right", "_law_row_right", defArgs s__law_row_right, defBody s__law_row_right, defScope s__law_row_right, [], []⟩
def d_law : He.DefD := ⟨("law", none), "law", "law", defArgs s_law, defBody s_law, defScope s_law, [], []⟩
def fn : List He.DefD := [d_needs, d__look_at_length, d_done, d_gate_standing, d__law_open, d__law_draw, d__law_pick, d__law_whole, d__law_same, d__law_needs, d__law_belt, d__law_throws, d__law_row_right, d_law]
def fa : List He.Fa := [.glo "needs", .glo "_look_at_length", .glo "done", .glo "gate_standing", .glo "_law_open", .glo "_law_draw", .glo "_law_pick", .glo "_law_whole", .glo "_law_same", .glo "_law_needs", .glo "_law_belt", .glo "_law_throws", .glo "_law_row_right", .glo "law", .free "all", .free "bool", .free "dict", .free "enumerate", .free "int", .free "isinstance", .free "len", .free "list", .free "range", .free "str", .free "tuple", .int "BEATS" 400]
abbrev R : PySem.W.OpenRow := PySem.W.OpenLaw.row PySem.Challenge.rw_lanesgraded_k14_whole_gates_beside_a_bel
abbrev hk : PySem.W.Hook := He.hookD 4 fa fn
def ob (s : PySem.W.SharedT) : He.AlD := He.obsDG 4 fa fn (HandSHeadRun.getT s)
theorem ob_eq (s : PySem.W.SharedT) : ob s = hk.obs s.abs := He.obsDG_eq (HandSHeadRun.getT_eq s)
abbrev loose : List Str := ["LanesError", "TooMany", "BEATS", "needs", "done", "gate_standing", "_look_at_length", "_law_open", "_law_draw", "_law_pick", "_law_whole", "_law_same", "_law_needs", "_law_belt", "_law_throws", "_law_row_right"]
theorem run (w : World) : HandSHeadRun.RunEq R (PySem.W.view R.prog [19]) hk ob 4000 loose w := by
  intro os
  kernel_rfl
theorem facts {P : Program} {w : World} {K : PySem.W.Frag} {h : Heap} {mg : Str → Option Value} {f : Addr} (X : K.In h) (G : h.Ns mainGlobals mg) (hfa : mg ("law" : Str) = some (.ref f)) (c : He.SaysD fa fn K) :
    ∃ fd : FuncData, (∀ (s : Shared) (v : Value), BindsTo s fd ⟨[v], []⟩ [("script", v)]) ∧ ∀ base : Heap, K.In base → base.Ns mainGlobals mg → FnOk P w K mg base CX0 16 f fd ["script"] (DL.spLaw K) := by
  obtain ⟨fd0, F0⟩ := c.def_ 0 (d := d_needs) rfl
  obtain ⟨fd1, F1⟩ := c.def_ 1 (d := d__look_at_length) rfl
  obtain ⟨fd2, F2⟩ := c.def_ 2 (d := d_done) rfl
  obtain ⟨fd3, F3⟩ := c.def_ 3 (d := d_gate_standing) rfl
  obtain ⟨fd4, F4⟩ := c.def_ 4 (d := d__law_open) rfl
  obtain ⟨fd5, F5⟩ := c.def_ 5 (d := d__law_draw) rfl
  obtain ⟨fd6, F6⟩ := c.def_ 6 (d := d__law_pick) rfl
  obtain ⟨fd7, F7⟩ := c.def_ 7 (d := d__law_whole) rfl
  obtain ⟨fd8, F8⟩ := c.def_ 8 (d := d__law_same) rfl
  obtain ⟨fd9, F9⟩ := c.def_ 9 (d := d__law_needs) rfl
  obtain ⟨fd10, F10⟩ := c.def_ 10 (d := d__law_belt) rfl
  obtain ⟨fd11, F11⟩ := c.def_ 11 (d := d__law_throws) rfl
  obtain ⟨fd12, F12⟩ := c.def_ 12 (d := d__law_row_right) rfl
  obtain ⟨fd13, F13⟩ := c.def_ 13 (d := d_law) rfl
  have g0 := He.glo_ok X G (c.fact 0 (f := .glo "needs") rfl)
  have g1 := He.glo_ok X G (c.fact 1 (f := .glo "_look_at_length") rfl)
  have g2 := He.glo_ok X G (c.fact 2 (f := .glo "done") rfl)
  have g3 := He.glo_ok X G (c.fact 3 (f := .glo "gate_standing") rfl)
  have g4 := He.glo_ok X G (c.fact 4 (f := .glo "_law_open") rfl)
  have g5 := He.glo_ok X G (c.fact 5 (f := .glo "_law_draw") rfl)
  have g6 := He.glo_ok X G (c.fact 6 (f := .glo "_law_pick") rfl)
  have g7 := He.glo_ok X G (c.fact 7 (f := .glo "_law_whole") rfl)
  have g8 := He.glo_ok X G (c.fact 8 (f := .glo "_law_same") rfl)
  have g9 := He.glo_ok X G (c.fact 9 (f := .glo "_law_needs") rfl)
  have g10 := He.glo_ok X G (c.fact 10 (f := .glo "_law_belt") rfl)
  have g11 := He.glo_ok X G (c.fact 11 (f := .glo "_law_throws") rfl)
  have g12 := He.glo_ok X G (c.fact 12 (f := .glo "_law_row_right") rfl)
  have g13 := He.glo_ok X G (c.fact 13 (f := .glo "law") rfl)
  have e_all := He.free_ok X G (c.fact 14 (f := .free "all") rfl)
  have e_bool := He.free_ok X G (c.fact 15 (f := .free "bool") rfl)
  have e_dict := He.free_ok X G (c.fact 16 (f := .free "dict") rfl)
  have e_enumerate := He.free_ok X G (c.fact 17 (f := .free "enumerate") rfl)
  have e_int := He.free_ok X G (c.fact 18 (f := .free "int") rfl)
  have e_isinstance := He.free_ok X G (c.fact 19 (f := .free "isinstance") rfl)
  have e_len := He.free_ok X G (c.fact 20 (f := .free "len") rfl)
  have e_list := He.free_ok X G (c.fact 21 (f := .free "list") rfl)
  have e_range := He.free_ok X G (c.fact 22 (f := .free "range") rfl)
  have e_str := He.free_ok X G (c.fact 23 (f := .free "str") rfl)
  have e_tuple := He.free_ok X G (c.fact 24 (f := .free "tuple") rfl)
  have k_BEATS := He.int_ok X G (c.fact 25 (f := .int "BEATS" 400) rfl)
  have e := hfa.symm.trans g13
  cases e
  have b := FunD.bindsA (ps := ["script"]) F13 fun _ _ _ _ _ _ us hl => match us, hl with | [_], _ => rfl
  have T : Tx K mg (fun i => match i with | 0 => _ | 1 => _ | 2 => _ | 3 => _ | 4 => _ | 5 => _ | 6 => _ | 7 => _ | 8 => _ | 9 => _ | 10 => _ | 11 => _ | 12 => _ | _ => _) (fun i => match i with | 0 => fd0 | 1 => fd1 | 2 => fd2 | 3 => fd3 | 4 => fd4 | 5 => fd5 | 6 => fd6 | 7 => fd7 | 8 => fd8 | 9 => fd9 | 10 => fd10 | 11 => fd11 | 12 => fd12 | _ => fd13) := ⟨F0, g0, F1, g1, F2, g2, F3, g3, F4, g4, F5, g5, F6, g6, F7, g7, F8, g8, F9, g9, F10, g10, F11, g11, F12, g12, F13, g13, e_all, e_bool, e_dict, e_enumerate, e_int, e_isinstance, e_len, e_list, e_range, e_str, e_tuple, k_BEATS⟩
  exact ⟨_, fun s v => b s [v] rfl, fun base _ _ => DL.law_ok (m := l_law) (ok_law T) law_plain⟩
end K14
open PySem PySem.W PySem.Calls PyProof.Rows
theorem PySem.Challenge.cw_lanesgraded_k14_whole_gates_beside_a_bel_holds : PySem.Challenge.rw_lanesgraded_k14_whole_gates_beside_a_bel.Holds := by
  w_on; o_law
  refine HandSHeadRun.head_any (r := OpenLaw.row PySem.Challenge.rw_lanesgraded_k14_whole_gates_beside_a_bel) (q := view (OpenLaw.row PySem.Challenge.rw_lanesgraded_k14_whole_gates_beside_a_bel).prog [19]) (H := K14.hk) (ob := K14.ob) (M := 4000) (loose := K14.loose) (d := HandSHeadRun.topDef (OpenLaw.row PySem.Challenge.rw_lanesgraded_k14_whole_gates_beside_a_bel).prog 19) (kwd := []) K14.ob_eq
    (by kernel_rfl) (fun s => by kernel_rfl) K14.run (by kernel_rfl) (by kernel_rfl) (by kernel_rfl) (by rfl) (by first | assumption | decide +kernel) (by decide +kernel) ⟨rfl, rfl, rfl, rfl, rfl, by decide +kernel⟩ ?hw ?hc
  case hw => w_witness2
  case hc =>
    refine L2.walk_ofE (l := PySem.Challenge.rw_lanesgraded_k14_whole_gates_beside_a_bel) (n := 63) (k := 16) (x := "script") (CX := L2.CX0) rfl (by decide) (by kernel_rfl) ⟨rfl, by decide, by decide⟩ ?F (fun _ _ _ _ z => z)
    intro w mg fa h Y G hmg0
    obtain ⟨K, KX, c⟩ := Y
    have hmg : mg ("law" : PySem.Str) = some (.ref fa) := by
      have e : (HandSHeadRun.topDef (OpenLaw.row PySem.Challenge.rw_lanesgraded_k14_whole_gates_beside_a_bel).prog 19).name = ("law" : PySem.Str) := by kernel_rfl
      rw [← e]
      exact hmg0
    obtain ⟨fd, hb, hF⟩ := K14.facts (P := (PySem.Challenge.rw_lanesgraded_k14_whole_gates_beside_a_bel).prog) (w := w) KX G hmg c
    exact ⟨K, fd, DL.spLaw K, KX, hb, fun H a ns hl _ hS => ⟨a, ns, rfl, hS, hl, fun _ => rfl⟩, hF⟩
