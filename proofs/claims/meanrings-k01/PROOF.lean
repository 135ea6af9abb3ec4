import PyProof.Rows.All
import Wide.All
import OpenK.AllK
import Wide.FinOn
import HandS.ForMost
import HandS.ForExc
import HandS.Wide
import HandS.CallSlots
import HandS.Deep
import KE.DataEq
import HandS.TupAny
import HandS.TupMul
import HandS.TupLe
import HandS.Style
import HandS.IsInst
import HandS.SortInts
import HandS.Conv
import HandS.TupLen
import HandS.Zip
import HandS.Walk
import HandS.Sort
import KE.GoesMore
import KE.GoesEnum
import HandS.Comp
import HandS.DictTup
import HandS.Small
import HandS.WordsExc
import PySem.Challenge.RW_meanrings_k01_what_is_a_web
set_option Elab.async false
set_option linter.all false
set_option maxRecDepth 100000
/-! TL: trees over the hand layer. Values, stores, how they lie in the abstract heap. -/
namespace TL
open PySem PySem.Spec PyProof.Rows L2

/-- a value as a tree; ref i: the i-th object of the store -/
inductive T where
  | non | bl (b : Bool) | int (i : Int) | str (s : Str)
  | tup (xs : List T) | lst (xs : List T) | dK (kvs : List (Key × T)) | dT (kvs : List (List Key × T)) | ref (i : Nat) | scr (ns : List Int)
  deriving Inhabited
/-- an object of the store -/
inductive Ob where
  | lst (xs : List T) | dK (kvs : List (Key × T)) | dT (kvs : List (List Key × T))
  deriving Inhabited
abbrev Sto := List Ob
abbrev Lo := List (Option T)

mutual
inductive Is (K : PySem.W.Frag) (Z : Addr → Prop) (H : Hp) (ι : Nat → Addr) (n : Nat) : V → T → Prop
  | non : Is K Z H ι n .non .non
  | bl (b : Bool) : Is K Z H ι n (.bl b) (.bl b)
  | int (i : Int) : Is K Z H ι n (.int i) (.int i)
  | str (s : Str) : Is K Z H ι n (.str s) (.str s)
  | tup {a : Addr} {vs : List V} {ts : List T} : H a = some (.tup vs) → IsAll K Z H ι n vs ts → Is K Z H ι n (.ref a) (.tup ts)
  | lst {a : Addr} {vs : List V} {ts : List T} : H a = some (.lst vs) → (∀ i, i < n → ι i ≠ a) → ¬ Z a → IsAll K Z H ι n vs ts → Is K Z H ι n (.ref a) (.lst ts)
  | dK {a : Addr} {ks : List Key} {vs : List V} {ts : List T} : H a = some (.dK (ks.zip vs)) → (∀ i, i < n → ι i ≠ a) → ¬ Z a → ks.length = vs.length → IsAll K Z H ι n vs ts → Is K Z H ι n (.ref a) (.dK (ks.zip ts))
  | dT {a : Addr} {ks : List (List Key)} {vs : List V} {ts : List T} : H a = some (.dT (ks.zip vs)) → (∀ i, i < n → ι i ≠ a) → ¬ Z a → ks.length = vs.length → IsAll K Z H ι n vs ts → Is K Z H ι n (.ref a) (.dT (ks.zip ts))
  | ref {i : Nat} : i < n → Is K Z H ι n (.ref (ι i)) (.ref i)
  | scrK {a : Addr} {ns : List Int} : (∃ (o : Obj) (its : Array Value) (n : Nat), K.lookup a = some o ∧ o.cls = .type "list" ∧ o.dict = none ∧ o.data = .seq its n ∧ its.size ≤ sizeLine ∧ Vals (ns.map V.int) its.toList) → Is K Z H ι n (.ref a) (.scr ns)
  | scr {a : Addr} {ns : List Int} : Rd H a (.lst (ns.map V.int)) → (∀ i, i < n → ι i ≠ a) → ¬ Z a → Is K Z H ι n (.ref a) (.scr ns)
inductive IsAll (K : PySem.W.Frag) (Z : Addr → Prop) (H : Hp) (ι : Nat → Addr) (n : Nat) : List V → List T → Prop
  | nil : IsAll K Z H ι n [] []
  | cons {v : V} {vs : List V} {t : T} {ts : List T} : Is K Z H ι n v t → IsAll K Z H ι n vs ts → IsAll K Z H ι n (v :: vs) (t :: ts)
end

section
variable {K : PySem.W.Frag} {Z : Addr → Prop} {H H' : Hp} {ι ι' : Nat → Addr} {n n' : Nat}
theorem IsAll.length : ∀ {vs : List V} {ts : List T}, IsAll K Z H ι n vs ts → vs.length = ts.length
  | _, _, .nil => rfl
  | _, _, .cons _ h => by simp [IsAll.length h]
theorem IsAll.get : ∀ {vs : List V} {ts : List T} {i : Nat} {t : T}, IsAll K Z H ι n vs ts → ts[i]? = some t → ∃ v, vs[i]? = some v ∧ Is K Z H ι n v t
  | _, _, _, _, .nil, e => by simp at e
  | _, _, 0, _, .cons h _, e => by simp at e; subst e; exact ⟨_, rfl, h⟩
  | _, _, i + 1, t, .cons _ hs, e => by
    obtain ⟨u, h1, h2⟩ := IsAll.get (i := i) (t := t) hs (by simpa using e)
    exact ⟨u, by simpa using h1, h2⟩
theorem IsAll.get' : ∀ {vs : List V} {ts : List T} {i : Nat} {v : V}, IsAll K Z H ι n vs ts → vs[i]? = some v → ∃ t, ts[i]? = some t ∧ Is K Z H ι n v t
  | _, _, _, _, .nil, e => by simp at e
  | _, _, 0, _, .cons h _, e => by simp at e; subst e; exact ⟨_, rfl, h⟩
  | _, _, i + 1, t, .cons _ hs, e => by
    obtain ⟨u, h1, h2⟩ := IsAll.get' (i := i) (v := t) hs (by simpa using e)
    exact ⟨u, by simpa using h1, h2⟩
theorem IsAll.set {v : V} {t : T} (r : Is K Z H ι n v t) : ∀ {vs : List V} {ts : List T} (i : Nat), IsAll K Z H ι n vs ts → IsAll K Z H ι n (vs.set i v) (ts.set i t)
  | _, _, _, .nil => .nil
  | _, _, 0, .cons _ hs => .cons r hs
  | _, _, i + 1, .cons q hs => .cons q (IsAll.set r i hs)
theorem IsAll.append : ∀ {vs ws : List V} {ts us : List T}, IsAll K Z H ι n vs ts → IsAll K Z H ι n ws us → IsAll K Z H ι n (vs ++ ws) (ts ++ us)
  | _, _, _, _, .nil, s => s
  | _, _, _, _, .cons r q, s => .cons r (IsAll.append q s)
theorem IsAll.one {v : V} {t : T} (r : Is K Z H ι n v t) : IsAll K Z H ι n [v] [t] := .cons r .nil
theorem IsAll.take : ∀ {vs : List V} {ts : List T} (k : Nat), IsAll K Z H ι n vs ts → IsAll K Z H ι n (vs.take k) (ts.take k)
  | _, _, 0, _ => .nil
  | _, _, _ + 1, .nil => .nil
  | _, _, k + 1, .cons r q => .cons r (IsAll.take k q)
theorem IsAll.drop : ∀ {vs : List V} {ts : List T} (k : Nat), IsAll K Z H ι n vs ts → IsAll K Z H ι n (vs.drop k) (ts.drop k)
  | _, _, 0, r => r
  | _, _, _ + 1, .nil => .nil
  | _, _, k + 1, .cons _ q => IsAll.drop k q
theorem IsAll.rev : ∀ {vs : List V} {ts : List T}, IsAll K Z H ι n vs ts → IsAll K Z H ι n vs.reverse ts.reverse
  | _, _, .nil => .nil
  | _, _, .cons r q => by
    rw [List.reverse_cons, List.reverse_cons]
    exact IsAll.append (IsAll.rev q) (.one r)
theorem IsAll.rep {vs : List V} {ts : List T} (h : IsAll K Z H ι n vs ts) : ∀ k : Nat, IsAll K Z H ι n (List.replicate k vs).flatten (List.replicate k ts).flatten
  | 0 => .nil
  | k + 1 => by
    rw [List.replicate_succ, List.replicate_succ, List.flatten_cons, List.flatten_cons]
    exact IsAll.append h (IsAll.rep h k)
theorem IsAll.nil_iff {vs : List V} {ts : List T} (r : IsAll K Z H ι n vs ts) : vs = [] ↔ ts = [] := by
  cases r <;> simp
theorem IsAll.inv1 {vs : List V} {t : T} (h : IsAll K Z H ι n vs [t]) : ∃ v, vs = [v] ∧ Is K Z H ι n v t := by
  cases h with
  | cons a b => cases b; exact ⟨_, rfl, a⟩
theorem IsAll.inv2 {vs : List V} {t u : T} (h : IsAll K Z H ι n vs [t, u]) : ∃ v w, vs = [v, w] ∧ Is K Z H ι n v t ∧ Is K Z H ι n w u := by
  cases h with
  | cons a b => obtain ⟨w, rfl, r⟩ := b.inv1; exact ⟨_, _, rfl, a, r⟩
theorem IsAll.inv0 {vs : List V} (h : IsAll K Z H ι n vs []) : vs = [] := by cases h; rfl

/-- what a step leaves: the unrecorded stands, the recorded stays recorded, what is new was free -/
structure Step (ι : Nat → Addr) (n : Nat) (H : Hp) (ι' : Nat → Addr) (n' : Nat) (H' : Hp) : Prop where
  le : n ≤ n'
  ext : ∀ i, i < n → ι' i = ι i
  new : ∀ i, n ≤ i → i < n' → H (ι' i) = none
  keep : ∀ a o, H a = some o → (∀ i, i < n → ι i ≠ a) → H' a = some o
  there : ∀ a o, H a = some o → ∃ o', H' a = some o'
theorem Step.refl : Step ι n H ι n H := ⟨Nat.le_refl _, fun _ _ => rfl, fun i h1 h2 => absurd h2 (Nat.not_lt.mpr h1), fun _ _ e _ => e, fun _ o e => ⟨o, e⟩⟩
theorem Step.same (s : Same H H') : Step ι n H ι n H' := ⟨Nat.le_refl _, fun _ _ => rfl, fun i h1 h2 => absurd h2 (Nat.not_lt.mpr h1), fun a o e _ => s a o e, fun a o e => ⟨o, s a o e⟩⟩
theorem Step.trans {ι1 ι2 : Nat → Addr} {n1 n2 : Nat} {H1 H2 : Hp} (a : Step ι n H ι1 n1 H1) (b : Step ι1 n1 H1 ι2 n2 H2) : Step ι n H ι2 n2 H2 where
  le := Nat.le_trans a.le b.le
  ext := fun i h => (b.ext i (Nat.lt_of_lt_of_le h a.le)).trans (a.ext i h)
  new := fun i h1 h2 => by
    by_cases h : i < n1
    · rw [b.ext i h]; exact a.new i h1 h
    · cases q : H (ι2 i) with
      | none => rfl
      | some o =>
        obtain ⟨o', e⟩ := a.there _ _ q
        rw [b.new i (Nat.le_of_not_lt h) h2] at e; cases e
  keep := fun c o e hc => b.keep c o (a.keep c o e hc) fun i h => by
    by_cases hi : i < n
    · rw [a.ext i hi]; exact hc i hi
    · intro z
      have := a.new i (Nat.le_of_not_lt hi) h
      rw [z, e] at this; cases this
  there := fun c o e => by
    obtain ⟨o1, e1⟩ := a.there c o e
    exact b.there c o1 e1

theorem Rd.step {u : HO} {a : Addr} (s : Step ι n H ι' n' H') (h : Rd H a u) (hn : ∀ i, i < n → ι i ≠ a) : Rd H' a u := by
  rcases h with h | ⟨o, h⟩
  · exact .inl (s.keep _ _ h hn)
  · exact .inr ⟨o, s.keep _ _ h hn⟩
theorem SqL.step {a : Addr} {vs : List V} (s : Step ι n H ι' n' H') (h : SqL K H a vs) (hn : ∀ i, i < n → ι i ≠ a) : SqL K H' a vs := by
  rcases h with h | h
  · exact .inl (Rd.step s h hn)
  · exact .inr h

/-- the store as it lies -/
inductive ObIs (K : PySem.W.Frag) (Z : Addr → Prop) (H : Hp) (ι : Nat → Addr) (n : Nat) (a : Addr) : Ob → Prop
  | lst {vs : List V} {ts : List T} : H a = some (.lst vs) → IsAll K Z H ι n vs ts → ObIs K Z H ι n a (.lst ts)
  | dK {ks : List Key} {vs : List V} {ts : List T} : H a = some (.dK (ks.zip vs)) → ks.length = vs.length → IsAll K Z H ι n vs ts → ObIs K Z H ι n a (.dK (ks.zip ts))
  | dT {ks : List (List Key)} {vs : List V} {ts : List T} : H a = some (.dT (ks.zip vs)) → ks.length = vs.length → IsAll K Z H ι n vs ts → ObIs K Z H ι n a (.dT (ks.zip ts))
structure Rel (K : PySem.W.Frag) (Z : Addr → Prop) (ι : Nat → Addr) (S : Sto) (H : Hp) : Prop where
  inj : ∀ i j, i < S.length → j < S.length → ι i = ι j → i = j
  obj : ∀ i o, S[i]? = some o → ObIs K Z H ι S.length (ι i) o
  zt : ∀ a, Z a → ∃ o, H a = some o
  nz : ∀ i, i < S.length → ¬ Z (ι i)
/-- a recorded object is no tuple -/
theorem ObIs.notup {a : Addr} {o : Ob} (h : ObIs K Z H ι n a o) : ∀ vs, ¬ Rd H a (.tup vs) := by
  intro vs r
  cases h with
  | lst e _ => rcases r with r | ⟨_, r⟩ <;> rw [e] at r <;> cases r
  | dK e _ _ => rcases r with r | ⟨_, r⟩ <;> rw [e] at r <;> cases r
  | dT e _ _ => rcases r with r | ⟨_, r⟩ <;> rw [e] at r <;> cases r
theorem ObIs.some {a : Addr} {o : Ob} (h : ObIs K Z H ι n a o) : ∃ u, H a = Option.some u := by
  cases h with
  | lst e _ => exact ⟨_, e⟩
  | dK e _ _ => exact ⟨_, e⟩
  | dT e _ _ => exact ⟨_, e⟩
theorem Rel.notup {S : Sto} (R : Rel K Z ι S H) {a : Addr} {vs : List V} (h : Rd H a (.tup vs)) : ∀ i, i < S.length → ι i ≠ a := fun i hi z => by
  have := R.obj i S[i] (List.getElem?_eq_getElem hi)
  rw [z] at this
  exact this.notup vs h
theorem Rd.is {u : HO} {a : Addr} (h : Rd H a u) : ∃ o, H a = Option.some o := by
  rcases h with h | ⟨o, h⟩ <;> exact ⟨_, h⟩
/-- what stands unrecorded is not recorded behind a step -/
theorem Step.nrec {S : Nat} (s : Step ι S H ι' n' H') {a : Addr} {o : HO} (h : H a = Option.some o) (hn : ∀ i, i < S → ι i ≠ a) : ∀ i, i < n' → ι' i ≠ a := fun i hi z => by
  by_cases hi' : i < S
  · rw [s.ext i hi'] at z; exact hn i hi' z
  · have := s.new i (Nat.le_of_not_lt hi') hi
    rw [z, h] at this; cases this
-- a value stays through a step (from a related state; the recorded grows or stays)
mutual
theorem Is.step {S : Sto} (R : Rel K Z ι S H) (s : Step ι S.length H ι' n' H') : ∀ {v : V} {t : T}, Is K Z H ι S.length v t → Is K Z H' ι' n' v t
  | _, _, .non => .non
  | _, _, .bl b => .bl b
  | _, _, .int i => .int i
  | _, _, .str x => .str x
  | _, _, .tup (a := a) h hs => .tup (s.keep _ _ h (R.notup (.of h))) (IsAll.step R s hs)
  | _, _, .lst h hn hz hs => .lst (s.keep _ _ h hn) (s.nrec h hn) hz (IsAll.step R s hs)
  | _, _, .scrK h => .scrK h
  | _, _, .scr (a := a) h hn hz => by
    obtain ⟨o, e⟩ := Rd.is h
    exact .scr (Rd.step s h hn) (s.nrec e hn) hz
  | _, _, .dK h hn hz hl hs => .dK (s.keep _ _ h hn) (s.nrec h hn) hz hl (IsAll.step R s hs)
  | _, _, .dT h hn hz hl hs => .dT (s.keep _ _ h hn) (s.nrec h hn) hz hl (IsAll.step R s hs)
  | _, _, .ref (i := i) hi => by
    rw [← s.ext i hi]
    exact .ref (Nat.lt_of_lt_of_le hi s.le)
theorem IsAll.step {S : Sto} (R : Rel K Z ι S H) (s : Step ι S.length H ι' n' H') : ∀ {vs : List V} {ts : List T}, IsAll K Z H ι S.length vs ts → IsAll K Z H' ι' n' vs ts
  | _, _, .nil => .nil
  | _, _, .cons h hs => .cons (Is.step R s h) (IsAll.step R s hs)
end
end
/-- the slots -/
def Sl (K : PySem.W.Frag) (Z : Addr → Prop) (H : Hp) (ι : Nat → Addr) (n : Nat) (σ : L2.St) (l : Lo) : Prop :=
  σ.length = l.length ∧ ∀ (j : Nat) (t : T), l[j]? = some (some t) → ∃ v, σ[j]? = some (some v) ∧ Is K Z H ι n v t
section
variable {K : PySem.W.Frag} {Z : Addr → Prop} {H H' : Hp} {ι ι' : Nat → Addr} {n n' : Nat} {σ : L2.St} {l : Lo}
theorem Sl.step {S : Sto} (R : Rel K Z ι S H) (s : Step ι S.length H ι' n' H') (h : Sl K Z H ι S.length σ l) : Sl K Z H' ι' n' σ l :=
  ⟨h.1, fun j t e => let ⟨v, e1, r⟩ := h.2 j t e; ⟨v, e1, Is.step R s r⟩⟩
theorem Sl.set {v : V} {t : T} (h : Sl K Z H ι n σ l) (j : Nat) (r : Is K Z H ι n v t) : Sl K Z H ι n (σ.set j (some v)) (l.set j (some t)) := by
  refine ⟨by simp [h.1], fun k u e => ?_⟩
  by_cases hk : j = k
  · subst hk
    have hj : j < l.length := by
      have := (List.getElem?_eq_some_iff.mp e).1
      simpa using this
    rw [List.getElem?_set_self hj] at e
    cases e
    exact ⟨v, by rw [List.getElem?_set_self (by rw [h.1]; exact hj)], r⟩
  · rw [List.getElem?_set_ne hk] at e
    obtain ⟨w, e1, r1⟩ := h.2 k u e
    exact ⟨w, by rw [List.getElem?_set_ne hk]; exact e1, r1⟩
def wipeL (l : Lo) : List Nat → Lo
  | [] => l
  | v :: vs => (wipeL l vs).set v none
theorem Sl.wipe (h : Sl K Z H ι n σ l) : ∀ vs : List Nat, Sl K Z H ι n (L2.wipe σ vs) (wipeL l vs)
  | [] => h
  | v :: vs => by
    have ih := Sl.wipe h vs
    refine ⟨by simp [L2.wipe, wipeL, ih.1], fun k u e => ?_⟩
    unfold wipeL at e
    unfold L2.wipe
    by_cases hk : v = k
    · subst hk
      rw [List.getElem?_set] at e
      simp at e
    · rw [List.getElem?_set_ne hk] at e
      obtain ⟨w, e1, r1⟩ := ih.2 k u e
      exact ⟨w, by rw [List.getElem?_set_ne hk]; exact e1, r1⟩
theorem Sl.none_any {vs : List V} {ts : List T} (h : IsAll K Z H ι n vs ts) (N : Nat) : Sl K Z H ι n (vs.map some ++ List.replicate (N - vs.length) none) (ts.map some ++ List.replicate (N - ts.length) none) := by
  refine ⟨by simp [h.length], fun j t e => ?_⟩
  by_cases hj : j < ts.length
  · rw [List.getElem?_append_left (by simpa using hj)] at e
    rw [List.getElem?_map] at e
    cases q : ts[j]? with
    | none => rw [q] at e; cases e
    | some u =>
      rw [q] at e
      have e' : u = t := by simpa using e
      subst e'
      obtain ⟨v, hv, r⟩ := h.get q
      refine ⟨v, ?_, r⟩
      rw [List.getElem?_append_left (by simpa [h.length] using hj), List.getElem?_map, hv]
      rfl
  · rw [List.getElem?_append_right (by simpa using Nat.le_of_not_lt hj)] at e
    rw [List.getElem?_replicate] at e
    split at e
    · cases e
    · cases e
end

/-! ### steps of the store -/
section
variable {K : PySem.W.Frag} {Z : Addr → Prop} {H H' : Hp} {ι ι' : Nat → Addr} {S : Sto}
mutual
theorem Is.reNew {n : Nat} (p : Addr) (hp : H p = none) : ∀ {v : V} {t : T}, Is K Z H ι n v t → Is K Z H (fun i => if i = n then p else ι i) (n + 1) v t
  | _, _, .non => .non
  | _, _, .bl b => .bl b
  | _, _, .int i => .int i
  | _, _, .str x => .str x
  | _, _, .tup h hs => .tup h (IsAll.reNew p hp hs)
  | _, _, .lst h hn hz hs => by
    refine .lst h (fun i hi => ?_) hz (IsAll.reNew p hp hs)
    by_cases e : i = n
    · simp only [e, if_true]
      intro z; rw [z, h] at hp; cases hp
    · simp only [e, if_false]
      exact hn i (by omega)
  | _, _, .scrK h => .scrK h
  | _, _, .scr h hn hz => by
    refine .scr h (fun i hi => ?_) hz
    by_cases e : i = n
    · simp only [e, if_true]
      obtain ⟨o, q⟩ := Rd.is h
      intro z; rw [z, q] at hp; cases hp
    · simp only [e, if_false]
      exact hn i (by omega)
  | _, _, .dK h hn hz hl hs => by
    refine .dK h (fun i hi => ?_) hz hl (IsAll.reNew p hp hs)
    by_cases e : i = n
    · simp only [e, if_true]
      intro z; rw [z, h] at hp; cases hp
    · simp only [e, if_false]
      exact hn i (by omega)
  | _, _, .dT h hn hz hl hs => by
    refine .dT h (fun i hi => ?_) hz hl (IsAll.reNew p hp hs)
    by_cases e : i = n
    · simp only [e, if_true]
      intro z; rw [z, h] at hp; cases hp
    · simp only [e, if_false]
      exact hn i (by omega)
  | _, _, .ref (i := i) hi => by
    have e : ι i = (fun j => if j = n then p else ι j) i := by
      have : i ≠ n := by omega
      simp [this]
    rw [e]
    exact .ref (by omega)
theorem IsAll.reNew {n : Nat} (p : Addr) (hp : H p = none) : ∀ {vs : List V} {ts : List T}, IsAll K Z H ι n vs ts → IsAll K Z H (fun i => if i = n then p else ι i) (n + 1) vs ts
  | _, _, .nil => .nil
  | _, _, .cons h hs => .cons (Is.reNew p hp h) (IsAll.reNew p hp hs)
end
/-- a new unrecorded object -/
theorem Step.fresh {n : Nat} {p : Addr} {o : HO} (hp : H p = none) : Step ι n H ι n (upd H p o) :=
  .same fun b u e => by rw [upd_ne (ne_of_none e hp)]; exact e
theorem Rel.step_same (R : Rel K Z ι S H) (s : Step ι S.length H ι S.length H') (h : ∀ i, i < S.length → H' (ι i) = H (ι i)) : Rel K Z ι S H' where
  inj := R.inj
  obj := fun i o e => by
    have hi := (List.getElem?_eq_some_iff.mp e).1
    have q := h i hi
    cases R.obj i o e with
    | lst e1 hs => exact .lst (by rw [q]; exact e1) (IsAll.step R s hs)
    | dK e1 hl hs => exact .dK (by rw [q]; exact e1) hl (IsAll.step R s hs)
    | dT e1 hl hs => exact .dT (by rw [q]; exact e1) hl (IsAll.step R s hs)
  zt := fun a z => let ⟨o, e⟩ := R.zt a z; s.there a o e
  nz := R.nz
theorem Rel.same (R : Rel K Z ι S H) (s : Same H H') : Rel K Z ι S H' := R.step_same (.same s) fun i hi => by
  obtain ⟨u, e⟩ := ObIs.some (R.obj i S[i] (List.getElem?_eq_getElem hi))
  rw [e, s _ _ e]
theorem Rel.fresh (R : Rel K Z ι S H) {p : Addr} {o : HO} (hp : H p = none) : Rel K Z ι S (upd H p o) := R.same fun b u e => by rw [upd_ne (ne_of_none e hp)]; exact e
/-- a new object, recorded -/
theorem Rel.record (R : Rel K Z ι S H) {p : Addr} {o : HO} {ob : Ob} (hp : H p = none) (h : ObIs K Z (upd H p o) (fun i => if i = S.length then p else ι i) (S.length + 1) p ob) :
    Rel K Z (fun i => if i = S.length then p else ι i) (S ++ [ob]) (upd H p o) ∧ Step ι S.length H (fun i => if i = S.length then p else ι i) (S.length + 1) (upd H p o) := by
  have nr : ∀ i, i < S.length → ι i ≠ p := fun i hi z => by
    obtain ⟨u, e⟩ := ObIs.some (R.obj i S[i] (List.getElem?_eq_getElem hi))
    rw [z, hp] at e; cases e
  have st : Step ι S.length H (fun i => if i = S.length then p else ι i) (S.length + 1) (upd H p o) :=
    ⟨Nat.le_succ _, fun i hi => by simp [show i ≠ S.length by omega], fun i h1 h2 => by simp [show i = S.length by omega, hp], fun a u e _ => by rw [upd_ne (ne_of_none e hp)]; exact e, fun a u e => ⟨u, by rw [upd_ne (ne_of_none e hp)]; exact e⟩⟩
  refine ⟨⟨fun i j hi hj e => ?_, fun i ob' e => ?_, fun a z => let ⟨u, e⟩ := R.zt a z; st.there a u e, fun i hi z => ?_⟩, st⟩
  rotate_left 2
  · by_cases e1 : i = S.length
    · rw [if_pos e1] at z
      obtain ⟨o, e⟩ := R.zt p z
      rw [hp] at e; cases e
    · rw [if_neg e1] at z
      have hi : i < S.length + 1 := by simpa using hi
      exact R.nz i (by omega) z
  · have hi : i < S.length + 1 := by simpa using hi
    have hj : j < S.length + 1 := by simpa using hj
    by_cases e1 : i = S.length <;> by_cases e2 : j = S.length
    · omega
    · simp only [e1, e2, if_true, if_false] at e
      exact absurd e.symm (nr j (by omega))
    · simp only [e1, e2, if_true, if_false] at e
      exact absurd e (nr i (by omega))
    · simp only [e1, e2, if_false] at e
      exact R.inj i j (by omega) (by omega) e
  · have hlen : (S ++ [ob]).length = S.length + 1 := by simp
    rw [hlen]
    by_cases e1 : i = S.length
    · subst e1
      have : ob' = ob := by simpa using e.symm
      subst this
      simpa using h
    · have hi : i < S.length := by
        have := (List.getElem?_eq_some_iff.mp e).1
        simp at this; omega
      rw [List.getElem?_append_left hi] at e
      have h0 := R.obj i ob' e
      have q : upd H p o (ι i) = H (ι i) := upd_ne (nr i hi)
      show ObIs K Z _ _ _ (if i = S.length then p else ι i) ob'
      rw [if_neg e1]
      cases h0 with
      | lst e1 hs => exact .lst (by rw [q]; exact e1) (IsAll.step R st hs)
      | dK e1 hl hs => exact .dK (by rw [q]; exact e1) hl (IsAll.step R st hs)
      | dT e1 hl hs => exact .dT (by rw [q]; exact e1) hl (IsAll.step R st hs)
/-- a recorded object is written -/
theorem Rel.write (R : Rel K Z ι S H) {i : Nat} {o : HO} {ob : Ob} (hi : i < S.length) (hw : ∀ vs, o ≠ .tup vs) (h : ObIs K Z (upd H (ι i) o) ι S.length (ι i) ob) :
    Rel K Z ι (S.set i ob) (upd H (ι i) o) ∧ Step ι S.length H ι S.length (upd H (ι i) o) := by
  have st : Step ι S.length H ι S.length (upd H (ι i) o) :=
    ⟨Nat.le_refl _, fun _ _ => rfl, fun j h1 h2 => absurd h2 (Nat.not_lt.mpr h1), fun a u e hn => by rw [upd_ne (fun z => hn i hi z.symm)]; exact e, fun a u e => by
      by_cases z : a = ι i
      · subst z; exact ⟨_, upd_same⟩
      · exact ⟨u, by rw [upd_ne z]; exact e⟩⟩
  refine ⟨⟨fun j k hj hk e => R.inj j k (by simpa using hj) (by simpa using hk) e, fun j ob' e => ?_, fun a z => let ⟨u, e⟩ := R.zt a z; st.there a u e, fun j hj => R.nz j (by simpa using hj)⟩, st⟩
  rw [List.length_set]
  by_cases e1 : i = j
  · subst e1
    rw [List.getElem?_set_self hi] at e
    cases e
    exact h
  · rw [List.getElem?_set_ne e1] at e
    have hj := (List.getElem?_eq_some_iff.mp e).1
    have q : upd H (ι i) o (ι j) = H (ι j) := upd_ne fun z => e1 (R.inj i j hi hj z.symm)
    cases R.obj j ob' e with
    | lst e1 hs => exact .lst (by rw [q]; exact e1) (IsAll.step R st hs)
    | dK e1 hl hs => exact .dK (by rw [q]; exact e1) hl (IsAll.step R st hs)
    | dT e1 hl hs => exact .dT (by rw [q]; exact e1) hl (IsAll.step R st hs)

/-! ### what is under construction -/
mutual
theorem Is.less {Z' : Addr → Prop} {n : Nat} (hz : ∀ a, Z' a → Z a) : ∀ {v : V} {t : T}, Is K Z H ι n v t → Is K Z' H ι n v t
  | _, _, .non => .non
  | _, _, .bl b => .bl b
  | _, _, .int i => .int i
  | _, _, .str x => .str x
  | _, _, .tup h hs => .tup h (IsAll.less hz hs)
  | _, _, .lst h hn z hs => .lst h hn (fun q => z (hz _ q)) (IsAll.less hz hs)
  | _, _, .scrK h => .scrK h
  | _, _, .scr h hn z => .scr h hn (fun q => z (hz _ q))
  | _, _, .dK h hn z hl hs => .dK h hn (fun q => z (hz _ q)) hl (IsAll.less hz hs)
  | _, _, .dT h hn z hl hs => .dT h hn (fun q => z (hz _ q)) hl (IsAll.less hz hs)
  | _, _, .ref hi => .ref hi
theorem IsAll.less {Z' : Addr → Prop} {n : Nat} (hz : ∀ a, Z' a → Z a) : ∀ {vs : List V} {ts : List T}, IsAll K Z H ι n vs ts → IsAll K Z' H ι n vs ts
  | _, _, .nil => .nil
  | _, _, .cons h hs => .cons (Is.less hz h) (IsAll.less hz hs)
end
theorem Rel.less {Z' : Addr → Prop} (hz : ∀ a, Z' a → Z a) (R : Rel K Z ι S H) : Rel K Z' ι S H where
  inj := R.inj
  obj := fun i o e => by
    cases R.obj i o e with
    | lst e1 hs => exact .lst e1 (IsAll.less hz hs)
    | dK e1 hl hs => exact .dK e1 hl (IsAll.less hz hs)
    | dT e1 hl hs => exact .dT e1 hl (IsAll.less hz hs)
  zt := fun a z => R.zt a (hz a z)
  nz := fun i hi z => R.nz i hi (hz _ z)
mutual
/-- what stands free may be held back -/
theorem Is.more {n : Nat} {D : Addr} (hD : H D = none) : ∀ {v : V} {t : T}, Is K Z H ι n v t → Is K (fun a => Z a ∨ a = D) H ι n v t
  | _, _, .non => .non
  | _, _, .bl b => .bl b
  | _, _, .int i => .int i
  | _, _, .str x => .str x
  | _, _, .tup h hs => .tup h (IsAll.more hD hs)
  | _, _, .lst h hn z hs => .lst h hn (fun q => q.elim z fun q => by rw [q, hD] at h; cases h) (IsAll.more hD hs)
  | _, _, .scrK h => .scrK h
  | _, _, .scr h hn z => .scr h hn (fun q => q.elim z fun q => by obtain ⟨o, e⟩ := Rd.is h; rw [q, hD] at e; cases e)
  | _, _, .dK h hn z hl hs => .dK h hn (fun q => q.elim z fun q => by rw [q, hD] at h; cases h) hl (IsAll.more hD hs)
  | _, _, .dT h hn z hl hs => .dT h hn (fun q => q.elim z fun q => by rw [q, hD] at h; cases h) hl (IsAll.more hD hs)
  | _, _, .ref hi => .ref hi
theorem IsAll.more {n : Nat} {D : Addr} (hD : H D = none) : ∀ {vs : List V} {ts : List T}, IsAll K Z H ι n vs ts → IsAll K (fun a => Z a ∨ a = D) H ι n vs ts
  | _, _, .nil => .nil
  | _, _, .cons h hs => .cons (Is.more hD h) (IsAll.more hD hs)
end

mutual
theorem Is.fresh2 {n : Nat} {D : Addr} {o : HO} (hD : H D = none) : ∀ {v : V} {t : T}, Is K Z H ι n v t → Is K Z (L2.upd H D o) ι n v t
  | _, _, .non => .non
  | _, _, .bl b => .bl b
  | _, _, .int i => .int i
  | _, _, .str x => .str x
  | _, _, .tup h hs => .tup (by rw [upd_ne (ne_of_none h hD)]; exact h) (IsAll.fresh2 hD hs)
  | _, _, .lst h hn z hs => .lst (by rw [upd_ne (ne_of_none h hD)]; exact h) hn z (IsAll.fresh2 hD hs)
  | _, _, .scrK h => .scrK h
  | _, _, .scr h hn z => .scr (by obtain ⟨o, e⟩ := Rd.is h; unfold Rd at h ⊢; rw [upd_ne (ne_of_none e hD)]; exact h) hn z
  | _, _, .dK h hn z hl hs => .dK (by rw [upd_ne (ne_of_none h hD)]; exact h) hn z hl (IsAll.fresh2 hD hs)
  | _, _, .dT h hn z hl hs => .dT (by rw [upd_ne (ne_of_none h hD)]; exact h) hn z hl (IsAll.fresh2 hD hs)
  | _, _, .ref hi => .ref hi
theorem IsAll.fresh2 {n : Nat} {D : Addr} {o : HO} (hD : H D = none) : ∀ {vs : List V} {ts : List T}, IsAll K Z H ι n vs ts → IsAll K Z (L2.upd H D o) ι n vs ts
  | _, _, .nil => .nil
  | _, _, .cons h hs => .cons (Is.fresh2 hD h) (IsAll.fresh2 hD hs)
end
theorem Rel.more {D : Addr} {o : HO} (hD : H D = none) (R : Rel K Z ι S H) : Rel K (fun a => Z a ∨ a = D) ι S (L2.upd H D o) where
  inj := R.inj
  obj := fun i ob e => by
    have R1 := R.fresh (o := o) hD
    have st : Step ι S.length H ι S.length (L2.upd H D o) := Step.fresh hD
    have all : ∀ {vs ts}, IsAll K Z H ι S.length vs ts → IsAll K (fun a => Z a ∨ a = D) (L2.upd H D o) ι S.length vs ts := fun h => IsAll.fresh2 hD (IsAll.more hD h)
    have nd : ι i ≠ D := fun q => by
      obtain ⟨u, e'⟩ := ObIs.some (R.obj i ob e)
      rw [q, hD] at e'; cases e'
    cases R.obj i ob e with
    | lst e1 hs => exact .lst (by rw [upd_ne nd]; exact e1) (all hs)
    | dK e1 hl hs => exact .dK (by rw [upd_ne nd]; exact e1) hl (all hs)
    | dT e1 hl hs => exact .dT (by rw [upd_ne nd]; exact e1) hl (all hs)
  zt := fun a z => by
    by_cases q : a = D
    · subst q; exact ⟨_, upd_same⟩
    · obtain ⟨u, e⟩ := R.zt a (z.elim id fun w => absurd w q)
      exact ⟨u, by rw [upd_ne q]; exact e⟩
  nz := fun i hi z => z.elim (R.nz i hi) fun q => by
    obtain ⟨u, e'⟩ := ObIs.some (R.obj i S[i] (List.getElem?_eq_getElem hi))
    rw [q, hD] at e'; cases e'
mutual
/-- the held back one is written: no value speaks of it -/
theorem Is.updZ {n : Nat} {D : Addr} {o u : HO} (hD : H D = some u) (hu : ∀ vs, u ≠ .tup vs) (hz : Z D) : ∀ {v : V} {t : T}, Is K Z H ι n v t → Is K Z (L2.upd H D o) ι n v t
  | _, _, .non => .non
  | _, _, .bl b => .bl b
  | _, _, .int i => .int i
  | _, _, .str x => .str x
  | _, _, .tup h hs => .tup (by rw [upd_ne (fun q => by rw [q, hD] at h; cases h; exact hu _ rfl)]; exact h) (IsAll.updZ hD hu hz hs)
  | _, _, .lst h hn z hs => .lst (by rw [upd_ne (fun q => z (by rw [q]; exact hz))]; exact h) hn z (IsAll.updZ hD hu hz hs)
  | _, _, .scrK h => .scrK h
  | _, _, .scr h hn z => .scr (by unfold Rd at h ⊢; rw [upd_ne (fun q => z (by rw [q]; exact hz))]; exact h) hn z
  | _, _, .dK h hn z hl hs => .dK (by rw [upd_ne (fun q => z (by rw [q]; exact hz))]; exact h) hn z hl (IsAll.updZ hD hu hz hs)
  | _, _, .dT h hn z hl hs => .dT (by rw [upd_ne (fun q => z (by rw [q]; exact hz))]; exact h) hn z hl (IsAll.updZ hD hu hz hs)
  | _, _, .ref hi => .ref hi
theorem IsAll.updZ {n : Nat} {D : Addr} {o u : HO} (hD : H D = some u) (hu : ∀ vs, u ≠ .tup vs) (hz : Z D) : ∀ {vs : List V} {ts : List T}, IsAll K Z H ι n vs ts → IsAll K Z (L2.upd H D o) ι n vs ts
  | _, _, .nil => .nil
  | _, _, .cons h hs => .cons (Is.updZ hD hu hz h) (IsAll.updZ hD hu hz hs)
end
theorem Rel.updZ {D : Addr} {o u : HO} (hD : H D = some u) (hu : ∀ vs, u ≠ .tup vs) (hz : Z D) (hn : ∀ i, i < S.length → ι i ≠ D) (R : Rel K Z ι S H) : Rel K Z ι S (L2.upd H D o) where
  inj := R.inj
  obj := fun i ob e => by
    have hi := (List.getElem?_eq_some_iff.mp e).1
    have q : L2.upd H D o (ι i) = H (ι i) := upd_ne (hn i hi)
    cases R.obj i ob e with
    | lst e1 hs => exact .lst (by rw [q]; exact e1) (IsAll.updZ hD hu hz hs)
    | dK e1 hl hs => exact .dK (by rw [q]; exact e1) hl (IsAll.updZ hD hu hz hs)
    | dT e1 hl hs => exact .dT (by rw [q]; exact e1) hl (IsAll.updZ hD hu hz hs)
  zt := fun a z => by
    by_cases q : a = D
    · subst q; exact ⟨_, upd_same⟩
    · obtain ⟨u, e⟩ := R.zt a z
      exact ⟨u, by rw [upd_ne q]; exact e⟩
  nz := R.nz
theorem Rel.notZ {p : Addr} (R : Rel K Z ι S H) (hp : H p = none) : ¬ Z p := fun z => by
  obtain ⟨o, e⟩ := R.zt p z
  rw [hp] at e; cases e
end
end TL

/-! TL: results, lifting. -/
namespace TL
open PySem PySem.Spec PyProof.Rows L2

/-- an exception of the program: its class's name, its fields -/
structure Exn where
  cls : Str
  fs : List (Str × T)
inductive Res where
  | ok (t : T) | err (x : Exn)
abbrev SE := Lo → Sto → Option (Res × Sto)
/-- how an exception lies: its class, its own dict, over what stands -/
abbrev XRel := (Addr → Prop) → Exn → Value → Option Addr → Hp → (Nat → Addr) → Nat → Prop

section
variable (K : PySem.W.Frag) (XR : XRel) (W : WX)
def Post (Z : Addr → Prop) (ι : Nat → Addr) (n : Nat) (H : Hp) (σ : L2.St) (Q : VK) : Option (Res × Sto) → Prop
  | none => False
  | some (.ok t, S') => ∀ ι' H' v, Step ι n H ι' S'.length H' → Rel K Z ι' S' H' → Is K Z H' ι' S'.length v t → Q v H'
  | some (.err x, S') => ∀ ι' H' cls d, Step ι n H ι' S'.length H' → Rel K Z ι' S' H' → XR Z x cls d H' ι' S'.length → W cls d σ H'
/-- an expression that hangs on values xs that were reckoned before -/
def liftK (xs : List V) (f : List T → SE) : TE := fun σ H Q => ∃ (Z : Addr → Prop) (ι : Nat → Addr) (S : Sto) (l : Lo) (ts : List T), Rel K Z ι S H ∧ Sl K Z H ι S.length σ l ∧ IsAll K Z H ι S.length xs ts ∧ Post K XR W Z ι S.length H σ Q (f ts l S)
def liftE (f : SE) : TE := liftK K XR W [] fun _ => f
end
/-- first f, then g of what it gives -/
def bindE (f : SE) (g : T → SE) : SE := fun l S => match f l S with
  | none => none
  | some (.err x, S') => some (.err x, S')
  | some (.ok t, S') => g t l S'

section
variable {K : PySem.W.Frag} {Z : Addr → Prop} {XR : XRel} {W : WX}
theorem Post.of_step {ι ι1 : Nat → Addr} {n n1 : Nat} {H H1 : Hp} {σ : L2.St} {Q : VK} (s : Step ι n H ι1 n1 H1) : ∀ {o : Option (Res × Sto)}, Post K XR W Z ι n H σ Q o → Post K XR W Z ι1 n1 H1 σ Q o
  | none, h => h
  | some (.ok t, S'), h => fun ι' H' v st R i => h ι' H' v (s.trans st) R i
  | some (.err x, S'), h => fun ι' H' cls d st R i => h ι' H' cls d (s.trans st) R i
theorem Post.mono {ι : Nat → Addr} {n : Nat} {H : Hp} {σ : L2.St} {Q Q' : VK} (hq : ∀ v H, Q v H → Q' v H) : ∀ {o : Option (Res × Sto)}, Post K XR W Z ι n H σ Q o → Post K XR W Z ι n H σ Q' o
  | none, h => h
  | some (.ok t, S'), h => fun ι' H' v st R i => hq _ _ (h ι' H' v st R i)
  | some (.err x, S'), h => h
theorem lift_bind {xs : List V} {f : SE} {g : List T → T → SE} {σ : L2.St} {H : Hp} {Q : VK} (h : liftK K XR W xs (fun ts => bindE f (g ts)) σ H Q) :
    liftE K XR W f σ H (fun x H1 => liftK K XR W (x :: xs) (fun ts => match ts with | t :: r => g r t | [] => fun _ _ => none) σ H1 Q) := by
  obtain ⟨Z, ι, S, l, ts, R, sl, ia, p⟩ := h
  refine ⟨Z, ι, S, l, [], R, sl, .nil, ?_⟩
  simp only [bindE] at p
  show Post K XR W Z ι S.length H σ _ (f l S)
  cases e : f l S with
  | none => rw [e] at p; exact p
  | some r =>
    obtain ⟨r, S'⟩ := r
    rw [e] at p
    cases r with
    | err x => exact p
    | ok t =>
      intro ι' H' v st R' i
      exact ⟨Z, ι', S', l, t :: ts, R', Sl.step R st sl, .cons i (IsAll.step R st ia), p.of_step st⟩
theorem lift_bind0 {f : SE} {g : T → SE} {σ : L2.St} {H : Hp} {Q : VK} (h : liftE K XR W (bindE f g) σ H Q) :
    liftE K XR W f σ H (fun x H1 => liftK K XR W [x] (fun ts => match ts with | [t] => g t | _ => fun _ _ => none) σ H1 Q) := by
  obtain ⟨Z, ι, S, l, ts, R, sl, ia, p⟩ := h
  refine ⟨Z, ι, S, l, [], R, sl, .nil, ?_⟩
  simp only [bindE] at p
  show Post K XR W Z ι S.length H σ _ (f l S)
  cases e : f l S with
  | none => rw [e] at p; exact p
  | some r =>
    obtain ⟨r, S'⟩ := r
    rw [e] at p
    cases r with
    | err x => exact p
    | ok t =>
      intro ι' H' v st R' i
      exact ⟨Z, ι', S', l, [t], R', Sl.step R st sl, .cons i .nil, p.of_step st⟩
theorem lift_mono {xs : List V} {f : List T → SE} {σ : L2.St} {H : Hp} {Q Q' : VK} (hq : ∀ v H, Q v H → Q' v H) (h : liftK K XR W xs f σ H Q) : liftK K XR W xs f σ H Q' := by
  obtain ⟨Z, ι, S, l, ts, R, sl, ia, p⟩ := h
  exact ⟨Z, ι, S, l, ts, R, sl, ia, p.mono hq⟩
theorem PE.imp {X : Cx} {e : Expr} {t t' : TE} (h : PE X e t) (i : ∀ σ H Q, t' σ H Q → t σ H Q) : PE X e t' := ⟨fun pins s σ H Q I q => h.run pins s σ H Q I (i σ H Q q)⟩
theorem PT.imp {X : Cx} {e : Expr} {t t' : TT} (h : PT X e t) (i : ∀ σ H Q, t' σ H Q → t σ H Q) : PT X e t' := ⟨fun pins s σ H Q I q => h.run pins s σ H Q I (i σ H Q q)⟩
theorem PA.imp {X : Cx} {e : List Expr} {t t' : TA} (h : PA X e t) (i : ∀ σ H Q, t' σ H Q → t σ H Q) : PA X e t' := ⟨fun pos pins s σ H Q I q => h.run pos pins s σ H Q I (i σ H Q q)⟩
theorem PS.imp {X : Cx} {e : Stmt} {t t' : TS} (h : PS X e t) (i : ∀ D σ H, t' D σ H → t D σ H) : PS X e t' := ⟨fun pins s σ H D I q => h.run pins s σ H D I (i D σ H q)⟩
theorem PSs.imp {X : Cx} {e : List Stmt} {t t' : TS} (h : PSs X e t) (i : ∀ D σ H, t' D σ H → t D σ H) : PSs X e t' := ⟨fun pins s σ H D I q => h.run pins s σ H D I (i D σ H q)⟩

/-! ### what an operator gives: a value, or a new list -/
inductive Raw where
  | val (t : T) | fresh (ts : List T)
/-- the result of an operator, by whether a new list is to be recorded -/
def outR (nw : Bool) : Option Raw → SE
  | none => fun _ _ => none
  | some (.val t) => fun _ S => if nw then none else some (.ok t, S)
  | some (.fresh ts) => fun _ S => if nw then some (.ok (.ref S.length), S ++ [.lst ts]) else some (.ok (.lst ts), S)
/-- what an operator's rule is to give -/
def RawOk (K : PySem.W.Frag) (Z : Addr → Prop) (ι : Nat → Addr) (n : Nat) (H : Hp) (Q : VK) : Raw → Prop
  | .val t => ∀ H' v, Same H H' → Is K Z H' ι n v t → Q v H'
  | .fresh ts => ∀ vs p, IsAll K Z H ι n vs ts → H p = none → Q (.ref p) (L2.upd H p (.lst vs))
theorem IsAll.fresh {H : Hp} {ι : Nat → Addr} {S : Sto} {vs : List V} {ts : List T} {p : Addr} {o : HO} (R : Rel K Z ι S H) (hp : H p = none) (h : IsAll K Z H ι S.length vs ts) : IsAll K Z (L2.upd H p o) ι S.length vs ts := IsAll.step R (Step.fresh hp) h
theorem Rel.free {H : Hp} {ι : Nat → Addr} {S : Sto} (R : Rel K Z ι S H) {p : Addr} (hp : H p = none) : ∀ i, i < S.length → ι i ≠ p := fun i hi z => by
  obtain ⟨u, e⟩ := ObIs.some (R.obj i S[i] (List.getElem?_eq_getElem hi))
  rw [z, hp] at e; cases e
theorem IsAll.reNewU {H : Hp} {ι : Nat → Addr} {S : Sto} {vs : List V} {ts : List T} {p : Addr} {o : HO} (R : Rel K Z ι S H) (hp : H p = none) (h : IsAll K Z H ι S.length vs ts) :
    IsAll K Z (L2.upd H p o) (fun i => if i = S.length then p else ι i) (S.length + 1) vs ts :=
  IsAll.step R ⟨Nat.le_succ _, fun i hi => by simp [show i ≠ S.length by omega], fun i h1 h2 => by simp [show i = S.length by omega, hp], fun a u e _ => by rw [upd_ne (ne_of_none e hp)]; exact e, fun a u e => ⟨u, by rw [upd_ne (ne_of_none e hp)]; exact e⟩⟩ h
theorem out_ok {ι : Nat → Addr} {S : Sto} {l : Lo} {H : Hp} {σ : L2.St} {Q : VK} {nw : Bool} {o : Option Raw} (R : Rel K Z ι S H) (h : Post K XR W Z ι S.length H σ Q (outR nw o l S)) : ∃ r, o = some r ∧ RawOk K Z ι S.length H Q r := by
  cases o with
  | none => exact h.elim
  | some r =>
    refine ⟨r, rfl, ?_⟩
    cases r with
    | val t =>
      cases nw with
      | true => exact h.elim
      | false => exact fun H' v s i => h ι H' v (.same s) (R.same s) i
    | fresh ts =>
      intro vs p ia hp
      cases nw with
      | false => exact h ι _ _ (Step.fresh hp) (R.fresh hp) (.lst upd_same (R.free hp) (R.notZ hp) (ia.fresh R hp))
      | true =>
        have ia' := ia.reNewU (o := .lst vs) R hp
        obtain ⟨R', st⟩ := R.record (ob := .lst ts) hp (.lst (vs := vs) upd_same ia')
        have e : V.ref p = V.ref ((fun i => if i = S.length then p else ι i) S.length) := by simp
        have h' := h (fun i => if i = S.length then p else ι i) (L2.upd H p (.lst vs)) (.ref p) (by simpa using st) R'
        exact h' (by rw [e]; exact .ref (by simp))
/-- a binary operator by trees -/
def rRaw (K : PySem.W.Frag) (f : T → T → Sto → Option Raw) : R2 := fun x y H Q => ∃ (Z : Addr → Prop) (ι : Nat → Addr) (S : Sto) (a b : T) (r : Raw), Rel K Z ι S H ∧ Is K Z H ι S.length x a ∧ Is K Z H ι S.length y b ∧ f a b S = some r ∧ RawOk K Z ι S.length H Q r
def binE (nw : Bool) (f : T → T → Sto → Option Raw) (fa fb : SE) : SE := bindE fa fun a => bindE fb fun b => fun l S => outR nw (f a b S) l S
theorem bin_lift {nw : Bool} {f : T → T → Sto → Option Raw} {fa fb : SE} {σ : L2.St} {H : Hp} {Q : VK} (h : liftE K XR W (binE nw f fa fb) σ H Q) : tOp (rRaw K f) (liftE K XR W fa) (liftE K XR W fb) σ H Q := by
  refine lift_mono (fun x H1 h1 => ?_) (lift_bind0 h)
  have h1' : liftK K XR W [x] (fun ts => bindE fb fun b => fun l S => match ts with | [a] => outR nw (f a b S) l S | _ => none) σ H1 Q := by
    obtain ⟨Z, ι, S, l, ts, R, sl, ia, p⟩ := h1
    refine ⟨Z, ι, S, l, ts, R, sl, ia, ?_⟩
    cases ia with
    | cons i j => cases j; exact p
  refine lift_mono (fun y H2 h2 => ?_) (lift_bind h1')
  obtain ⟨Z, ι, S, l, ts, R, sl, ia, p⟩ := h2
  cases ia with
  | cons iy j =>
    cases j with
    | cons ix k =>
      cases k
      obtain ⟨r, e, ok⟩ := out_ok R p
      exact ⟨Z, ι, S, _, _, r, R, ix, iy, e, ok⟩
end
end TL

/-! TL: operators by trees. -/
namespace TL
open PySem PySem.Spec PyProof.Rows L2

/-- the longest list that is made here -/
def LIM : Nat := 1000000
theorem LIM_le : LIM ≤ sizeLine := by rw [sizeLine_eq]; decide
theorem LIM_lt : LIM < sizeLine := by rw [sizeLine_eq]; decide
/-- a list's items -/
def Sto.items (S : Sto) : T → Option (List T)
  | .lst xs => some xs
  | .ref i => match S[i]? with
    | some (.lst xs) => some xs
    | _ => none
  | _ => none
/-- a list's or tuple's items, to be read -/
def Sto.seq (S : Sto) : T → Option (List T)
  | .lst xs => some xs
  | .tup xs => some xs
  | .scr ns => some (ns.map T.int)
  | .ref i => match S[i]? with
    | some (.lst xs) => some xs
    | _ => none
  | _ => none
section
variable {K : PySem.W.Frag} {Z : Addr → Prop} {H : Hp} {ι : Nat → Addr} {S : Sto} {x : V} {t : T} {ts : List T}
theorem isAll_ints : ∀ (ns : List Int), IsAll K Z H ι n (ns.map V.int) (ns.map T.int)
  | [] => .nil
  | n :: ns => .cons (.int n) (isAll_ints ns)
theorem items_ok (R : Rel K Z ι S H) (h : Is K Z H ι S.length x t) (e : S.items t = some ts) : ∃ a vs, x = .ref a ∧ H a = some (.lst vs) ∧ IsAll K Z H ι S.length vs ts := by
  cases h with
  | lst h hn hz hs => cases e; exact ⟨_, _, rfl, h, hs⟩
  | ref hi =>
    rename_i i
    have q : S[i]? = some S[i] := List.getElem?_eq_getElem hi
    have h := R.obj _ _ q
    simp only [Sto.items, q] at e
    cases ho : S[i] with
    | lst xs =>
      rw [ho] at e h
      cases e
      cases h with
      | lst h hs => exact ⟨_, _, rfl, h, hs⟩
    | dK _ => rw [ho] at e; cases e
    | dT _ => rw [ho] at e; cases e
  | _ => cases e
theorem seq_ok (R : Rel K Z ι S H) (h : Is K Z H ι S.length x t) (e : S.seq t = some ts) : ∃ a vs, x = .ref a ∧ (SqL K H a vs ∨ SqT K H a vs) ∧ IsAll K Z H ι S.length vs ts := by
  cases h with
  | lst h hn hz hs => cases e; exact ⟨_, _, rfl, .inl (.of h), hs⟩
  | tup h hs => cases e; exact ⟨_, _, rfl, .inr (.of h), hs⟩
  | scr h hn hz => cases e; exact ⟨_, _, rfl, .inl (.inl h), isAll_ints _⟩
  | scrK h => cases e; exact ⟨_, _, rfl, .inl (.inr h), isAll_ints _⟩
  | ref hi =>
    rename_i i
    obtain ⟨a, vs, e1, e2, e3⟩ := items_ok (ts := ts) R (.ref hi) (by unfold Sto.items; unfold Sto.seq at e; exact e)
    exact ⟨a, vs, e1, .inl (.of e2), e3⟩
  | _ => cases e
end

/-! ### == -/
mutual
def T.toD (f : Nat → Option PyData) : T → Option PyData
  | .non => some .none
  | .bl b => some (.bool b)
  | .int i => some (.int i)
  | .str s => some (.str s)
  | .tup xs => (T.toDs f xs).map .tuple
  | .lst xs => (T.toDs f xs).map .list
  | .scr ns => some (.list (ns.map .int))
  | .ref i => f i
  | .dK _ => none
  | .dT _ => none
def T.toDs (f : Nat → Option PyData) : List T → Option (List PyData)
  | [] => some []
  | t :: r => match T.toD f t, T.toDs f r with
    | some d, some ds => some (d :: ds)
    | _, _ => none
end
def Sto.refD (S : Sto) : Nat → Nat → Option PyData
  | 0, _ => none
  | k + 1, i => match S[i]? with
    | some (.lst xs) => (T.toDs (S.refD k) xs).map .list
    | _ => none
def Sto.toD (S : Sto) (t : T) : Option PyData := T.toD (S.refD 4) t
section
variable {K : PySem.W.Frag} {Z : Addr → Prop} {H : Hp} {ι : Nat → Addr} {n : Nat} {f : Nat → Option PyData}
theorem plainAll_map_int : ∀ ns : List Int, PyData.plainAll (ns.map .int) = true
  | [] => rfl
  | n :: ns => by simp [PyData.plainAll, PyData.plain, plainAll_map_int ns]
theorem dpAll_ints : ∀ ns : List Int, DpAll K H (ns.map V.int) (ns.map .int)
  | [] => .nil
  | n :: ns => .cons (.int n) (dpAll_ints ns)
mutual
theorem toD_ok (hf : ∀ i d, i < n → f i = some d → Dp K H (.ref (ι i)) d ∧ d.plain = true) : ∀ {x : V} {t : T} {d : PyData}, Is K Z H ι n x t → T.toD f t = some d → Dp K H x d ∧ d.plain = true
  | _, _, _, .non, e => by cases e; exact ⟨.non, rfl⟩
  | _, _, _, .bl b, e => by cases e; exact ⟨.bl b, rfl⟩
  | _, _, _, .int b, e => by cases e; exact ⟨.int b, rfl⟩
  | _, _, _, .str b, e => by cases e; exact ⟨.str b, rfl⟩
  | _, _, _, .tup (ts := ts) h hs, e => by
    simp only [T.toD] at e
    cases q : T.toDs f ts with
    | none => rw [q] at e; cases e
    | some ds =>
      rw [q] at e
      cases e
      obtain ⟨a, b⟩ := toDs_ok hf hs q
      exact ⟨.tup (.of h) a, by simpa [PyData.plain] using b⟩
  | _, _, _, .lst (ts := ts) h _ _ hs, e => by
    simp only [T.toD] at e
    cases q : T.toDs f ts with
    | none => rw [q] at e; cases e
    | some ds =>
      rw [q] at e
      cases e
      obtain ⟨a, b⟩ := toDs_ok hf hs q
      exact ⟨.lst (.of h) a, by simpa [PyData.plain] using b⟩
  | _, _, _, .scrK h, e => by
    cases e
    exact ⟨.lst (.inr h) (dpAll_ints _), by simpa [PyData.plain] using plainAll_map_int _⟩
  | _, _, _, .scr h _ _, e => by
    cases e
    exact ⟨.lst (.inl h) (dpAll_ints _), by simpa [PyData.plain] using plainAll_map_int _⟩
  | _, _, _, .ref hi, e => hf _ _ hi e
  | _, _, _, .dK _ _ _ _ _, e => by cases e
  | _, _, _, .dT _ _ _ _ _, e => by cases e
theorem toDs_ok (hf : ∀ i d, i < n → f i = some d → Dp K H (.ref (ι i)) d ∧ d.plain = true) : ∀ {xs : List V} {ts : List T} {ds : List PyData}, IsAll K Z H ι n xs ts → T.toDs f ts = some ds → DpAll K H xs ds ∧ PyData.plainAll ds = true
  | _, _, _, .nil, e => by cases e; exact ⟨.nil, rfl⟩
  | _, _, _, .cons (t := t) (ts := ts) h hs, e => by
    simp only [T.toDs] at e
    cases q : T.toD f t with
    | none => rw [q] at e; cases e
    | some d =>
      cases q2 : T.toDs f ts with
      | none => rw [q, q2] at e; cases e
      | some ds =>
        rw [q, q2] at e
        cases e
        obtain ⟨a, b⟩ := toD_ok hf h q
        obtain ⟨a2, b2⟩ := toDs_ok hf hs q2
        exact ⟨.cons a a2, by simp [PyData.plainAll, b, b2]⟩
end
theorem refD_ok {S : Sto} (R : Rel K Z ι S H) : ∀ (k i : Nat) (d : PyData), i < S.length → S.refD k i = some d → Dp K H (.ref (ι i)) d ∧ d.plain = true
  | 0, _, _, _, e => by cases e
  | k + 1, i, d, hi, e => by
    have q : S[i]? = some S[i] := List.getElem?_eq_getElem hi
    have h := R.obj _ _ q
    simp only [Sto.refD, q] at e
    cases ho : S[i] with
    | lst xs =>
      rw [ho] at e h
      dsimp only at e
      cases q2 : T.toDs (S.refD k) xs with
      | none => rw [q2] at e; cases e
      | some ds =>
        rw [q2] at e
        cases e
        cases h with
        | lst h hs =>
          obtain ⟨a, b⟩ := toDs_ok (fun j d hj => refD_ok R k j d hj) hs q2
          exact ⟨.lst (.of h) a, by simpa [PyData.plain] using b⟩
    | dK _ => rw [ho] at e; cases e
    | dT _ => rw [ho] at e; cases e
theorem Sto.toD_ok {S : Sto} (R : Rel K Z ι S H) {x : V} {t : T} {d : PyData} (h : Is K Z H ι S.length x t) (e : S.toD t = some d) : Dp K H x d ∧ d.plain = true :=
  TL.toD_ok (fun i d hi => refD_ok R 4 i d hi) h e
end
end TL

namespace TL
open PySem PySem.Spec PyProof.Rows L2

/-! ### binary operators -/
def guardR (b : Bool) (r : Raw) : Option Raw := if b then some r else none
def catF (a b : T) (S : Sto) : Option Raw := match S.items a, S.items b with
  | some xs, some ys => guardR (decide (xs.length + ys.length ≤ LIM)) (.fresh (xs ++ ys))
  | _, _ => none
def addF : T → T → Sto → Option Raw
  | .int i, .int j, _ => some (.val (.int (i + j)))
  | .str x, .str y, _ => guardR (decide (x.length + y.length ≤ LIM)) (.val (.str (x ++ y)))
  | .tup xs, .tup ys, _ => guardR (decide (xs.length + ys.length ≤ LIM)) (.val (.tup (xs ++ ys)))
  | a, b, S => catF a b S
def subF : T → T → Sto → Option Raw
  | .int i, .int j, _ => some (.val (.int (i - j)))
  | _, _, _ => none
def repF (a : T) (k : Int) (S : Sto) : Option Raw := match S.items a with
  | some xs => guardR (decide (-(2 ^ 63) ≤ k ∧ k < 2 ^ 63 ∧ xs.length * k.toNat ≤ LIM)) (.fresh (List.replicate k.toNat xs).flatten)
  | none => none
def mulF : T → T → Sto → Option Raw
  | .int i, .int j, _ => guardR (decide (i.natAbs.log2 + j.natAbs.log2 < 1000000)) (.val (.int (i * j)))
  | .tup xs, .int k, _ => guardR (decide (xs ≠ [] ∧ 2 ≤ k ∧ k ≤ 1000 ∧ xs.length ≤ 1000)) (.val (.tup (List.replicate k.toNat xs).flatten))
  | a, .int k, S => repF a k S
  | _, _, _ => none
def fdivF : T → T → Sto → Option Raw
  | .int i, .int j, _ => guardR (decide (0 < j ∧ j.natAbs.log2 < 9000)) (.val (.int (i / j)))
  | _, _, _ => none
def modF : T → T → Sto → Option Raw
  | .int i, .int j, _ => guardR (decide (0 < j)) (.val (.int (i % j)))
  | _, _, _ => none
def powF : T → T → Sto → Option Raw
  | .int i, .int j, _ => guardR (decide (0 ≤ j ∧ j ≤ 1000000 ∧ i.natAbs < 2 ^ 64)) (.val (.int (i ^ j.toNat)))
  | _, _, _ => none
def shrF : T → T → Sto → Option Raw
  | .int i, .int j, _ => guardR (decide (0 ≤ j)) (.val (.int (i / 2 ^ j.toNat)))
  | _, _, _ => none
def andF : T → T → Sto → Option Raw
  | .int i, .int j, _ => some (.val (.int (Builtin.bitAnd i j)))
  | _, _, _ => none
def binF : Operator → T → T → Sto → Option Raw
  | .Add => addF
  | .Sub => subF
  | .Mult => mulF
  | .FloorDiv => fdivF
  | .Mod => modF
  | .Pow => powF
  | .RShift => shrF
  | .BitAnd => andF
  | _ => fun _ _ _ => none

theorem guardR_some {b : Bool} {r r' : Raw} (h : guardR b r = some r') : b = true ∧ r' = r := by
  unfold guardR at h
  split at h
  · rename_i hb; cases h; exact ⟨hb, rfl⟩
  · cases h
section
variable {X : Cx} {K : PySem.W.Frag} {Z : Addr → Prop} {H : Hp} {ι : Nat → Addr} {S : Sto}
/-- a scalar result -/
theorem raw_int {Q : VK} {n : Nat} {i : Int} (h : RawOk K Z ι n H Q (.val (.int i))) : Q (.int i) H := h H (.int i) (Same.refl H) (.int i)
theorem raw_str {Q : VK} {n : Nat} {i : Str} (h : RawOk K Z ι n H Q (.val (.str i))) : Q (.str i) H := h H (.str i) (Same.refl H) (.str i)
theorem raw_bl {Q : VK} {n : Nat} {i : Bool} (h : RawOk K Z ι n H Q (.val (.bl i))) : Q (.bl i) H := h H (.bl i) (Same.refl H) (.bl i)
theorem same_fresh {p : Addr} {o : HO} (hp : H p = none) : Same H (L2.upd H p o) := fun b u e => by rw [upd_ne (ne_of_none e hp)]; exact e
theorem raw_tup {Q : VK} {ts : List T} {vs : List V} (R : Rel K Z ι S H) (h : RawOk K Z ι S.length H Q (.val (.tup ts))) (ia : IsAll K Z H ι S.length vs ts) : ∀ p, H p = none → Q (.ref p) (L2.upd H p (.tup vs)) := fun p hp =>
  h _ _ (same_fresh hp) (.tup upd_same (ia.fresh R hp))
theorem raw_tup' {Q : VK} {ts : List T} {a : Addr} {vs : List V} (h : RawOk K Z ι S.length H Q (.val (.tup ts))) (hs : H a = some (.tup vs)) (ia : IsAll K Z H ι S.length vs ts) : Q (.ref a) H :=
  h _ _ (Same.refl H) (.tup hs ia)
theorem is_int {n : Nat} {x : V} {i : Int} (h : Is K Z H ι n x (.int i)) : x = .int i := by cases h; rfl
theorem is_str {n : Nat} {x : V} {i : Str} (h : Is K Z H ι n x (.str i)) : x = .str i := by cases h; rfl
theorem is_bl {n : Nat} {x : V} {i : Bool} (h : Is K Z H ι n x (.bl i)) : x = .bl i := by cases h; rfl
theorem is_tup {n : Nat} {x : V} {ts : List T} (h : Is K Z H ι n x (.tup ts)) : ∃ a vs, x = .ref a ∧ H a = some (.tup vs) ∧ IsAll K Z H ι n vs ts := by
  cases h with
  | tup h hs => exact ⟨_, _, rfl, h, hs⟩
theorem cat_ok {Q : VK} {x y : V} {a b : T} {r : Raw} (R : Rel K Z ι S H) (ha : Is K Z H ι S.length x a) (hb : Is K Z H ι S.length y b) (e : catF a b S = some r) (ok : RawOk K Z ι S.length H Q r) : rCat x y H Q := by
  unfold catF at e
  split at e
  · rename_i xs ys e1 e2
    obtain ⟨g, rfl⟩ := guardR_some e
    obtain ⟨p, vs, rfl, hp, ip⟩ := items_ok R ha e1
    obtain ⟨q, ws, rfl, hq, iq⟩ := items_ok R hb e2
    have g := of_decide_eq_true g
    exact ⟨p, q, vs, ws, rfl, rfl, hp, hq, by rw [ip.length, iq.length]; exact Nat.le_trans g LIM_le, fun z hz => ok _ z (ip.append iq) hz⟩
  · cases e
theorem rep_ok {Q : VK} {x : V} {a : T} {k : Int} {r : Raw} (R : Rel K Z ι S H) (ha : Is K Z H ι S.length x a) (e : repF a k S = some r) (ok : RawOk K Z ι S.length H Q r) : rRep x (.int k) H Q := by
  unfold repF at e
  split at e
  · rename_i xs e1
    obtain ⟨g, rfl⟩ := guardR_some e
    obtain ⟨p, vs, rfl, hp, ip⟩ := items_ok R ha e1
    obtain ⟨g1, g2, g3⟩ := of_decide_eq_true g
    exact ⟨p, k, vs, rfl, rfl, hp, g1, g2, by rw [ip.length]; exact Nat.le_trans g3 LIM_le, fun z hz => ok _ z (ip.rep _) hz⟩
  · cases e
theorem op_addF : OpR X (binaryOp .Add) (rRaw X.K addF) := by
  intro pins s σ H x y v u Q I rx ry h
  obtain ⟨Z, ι, S, a, b, r, R, ha, hb, e, ok⟩ := h
  have lists : ∀ {a b : T}, Is X.K Z H ι S.length x a → Is X.K Z H ι S.length y b → catF a b S = some r → wpAny (model X.prog X.w) X.A (binaryOp .Add v u) (EP X pins σ Q) X.xe s := fun ha hb e =>
    op_cat pins s σ H x y v u Q I rx ry (cat_ok R ha hb e ok)
  unfold addF at e
  split at e
  · cases e
    exact op_add pins s σ H x y v u Q I rx ry ⟨_, _, is_int ha, is_int hb, raw_int ok⟩
  · obtain ⟨g, rfl⟩ := guardR_some e
    exact op_add_str pins s σ H x y v u Q I rx ry ⟨_, _, is_str ha, is_str hb, Nat.le_trans (of_decide_eq_true g) LIM_le, raw_str ok⟩
  · obtain ⟨g, rfl⟩ := guardR_some e
    obtain ⟨p, vs, rfl, hp, ip⟩ := is_tup ha
    obtain ⟨q, ws, rfl, hq, iq⟩ := is_tup hb
    refine op_catA pins s σ H _ _ v u Q I rx ry ⟨p, q, vs, ws, rfl, rfl, .of hp, .of hq, by rw [ip.length, iq.length]; exact Nat.le_trans (of_decide_eq_true g) LIM_le, fun z => ?_, fun _ z => ?_, fun _ _ => raw_tup R ok (ip.append iq)⟩
    · have := ip.nil_iff.mp z
      subst this
      exact raw_tup' ok hq (by simpa using iq)
    · have := iq.nil_iff.mp z
      subst this
      exact raw_tup' ok hp (by simpa using ip)
  · exact lists ha hb e
theorem op_subF : OpR X (binaryOp .Sub) (rRaw X.K subF) := by
  intro pins s σ H x y v u Q I rx ry h
  obtain ⟨Z, ι, S, a, b, r, R, ha, hb, e, ok⟩ := h
  unfold subF at e
  split at e
  · cases e
    exact op_sub pins s σ H x y v u Q I rx ry ⟨_, _, is_int ha, is_int hb, raw_int ok⟩
  · cases e
theorem op_mulF : OpR X (binaryOp .Mult) (rRaw X.K mulF) := by
  intro pins s σ H x y v u Q I rx ry h
  obtain ⟨Z, ι, S, a, b, r, R, ha, hb, e, ok⟩ := h
  unfold mulF at e
  split at e
  · obtain ⟨g, rfl⟩ := guardR_some e
    have g := of_decide_eq_true g
    exact op_mulW pins s σ H x y v u Q I rx ry ⟨_, _, is_int ha, is_int hb, g, raw_int ok⟩
  · obtain ⟨g, rfl⟩ := guardR_some e
    obtain ⟨g1, g2, g3, g4⟩ := of_decide_eq_true g
    obtain ⟨p, vs, rfl, hp, ip⟩ := is_tup ha
    exact op_repT pins s σ H _ y v u Q I rx ry ⟨p, _, vs, rfl, is_int hb, .of hp, fun z => g1 (ip.nil_iff.mp z), g2, g3, by rw [ip.length]; exact g4, raw_tup R ok (ip.rep _)⟩
  · rw [is_int hb] at ry
    exact op_rep pins s σ H x _ v u Q I rx ry (rep_ok R ha e ok)
  · cases e
theorem op_fdivF : OpR X (binaryOp .FloorDiv) (rRaw X.K fdivF) := by
  intro pins s σ H x y v u Q I rx ry h
  obtain ⟨Z, ι, S, a, b, r, R, ha, hb, e, ok⟩ := h
  unfold fdivF at e
  split at e
  · obtain ⟨g, rfl⟩ := guardR_some e
    have g := of_decide_eq_true g
    exact op_fdivW pins s σ H x y v u Q I rx ry ⟨_, _, is_int ha, is_int hb, g, raw_int ok⟩
  · cases e
theorem op_modF : OpR X (binaryOp .Mod) (rRaw X.K modF) := by
  intro pins s σ H x y v u Q I rx ry h
  obtain ⟨Z, ι, S, a, b, r, R, ha, hb, e, ok⟩ := h
  unfold modF at e
  split at e
  · obtain ⟨g, rfl⟩ := guardR_some e
    exact op_mod pins s σ H x y v u Q I rx ry ⟨_, _, is_int ha, is_int hb, of_decide_eq_true g, raw_int ok⟩
  · cases e
theorem op_powF : OpR X (binaryOp .Pow) (rRaw X.K powF) := by
  intro pins s σ H x y v u Q I rx ry h
  obtain ⟨Z, ι, S, a, b, r, R, ha, hb, e, ok⟩ := h
  unfold powF at e
  split at e
  · obtain ⟨g, rfl⟩ := guardR_some e
    have g := of_decide_eq_true g
    exact op_pow pins s σ H x y v u Q I rx ry ⟨_, _, is_int ha, is_int hb, g, raw_int ok⟩
  · cases e
theorem op_shrF : OpR X (binaryOp .RShift) (rRaw X.K shrF) := by
  intro pins s σ H x y v u Q I rx ry h
  obtain ⟨Z, ι, S, a, b, r, R, ha, hb, e, ok⟩ := h
  unfold shrF at e
  split at e
  · obtain ⟨g, rfl⟩ := guardR_some e
    exact op_shr pins s σ H x y v u Q I rx ry ⟨_, _, is_int ha, is_int hb, of_decide_eq_true g, raw_int ok⟩
  · cases e
theorem op_andF : OpR X (binaryOp .BitAnd) (rRaw X.K andF) := by
  intro pins s σ H x y v u Q I rx ry h
  obtain ⟨Z, ι, S, a, b, r, R, ha, hb, e, ok⟩ := h
  unfold andF at e
  split at e
  · cases e
    exact op_and pins s σ H x y v u Q I rx ry ⟨_, _, is_int ha, is_int hb, raw_int ok⟩
  · cases e
theorem op_binF (op : Operator) : OpR X (binaryOp op) (rRaw X.K (binF op)) := by
  cases op with
  | Add => exact op_addF
  | Sub => exact op_subF
  | Mult => exact op_mulF
  | FloorDiv => exact op_fdivF
  | Mod => exact op_modF
  | Pow => exact op_powF
  | RShift => exact op_shrF
  | BitAnd => exact op_andF
  | _ =>
    intro pins s σ H x y v u Q I rx ry h
    obtain ⟨Z, ι, S, a, b, r, R, ha, hb, e, ok⟩ := h
    cases e
end

/-! ### comparisons -/
def eqD (a b : T) (S : Sto) : Option Bool := match S.toD a, S.toD b with
  | some d, some e => if decide (min d.depth e.depth ≤ 60) then some (PyData.eqv d e) else none
  | _, _ => none
def T.ints : List T → Option (List Int)
  | [] => some []
  | .int i :: r => (T.ints r).map (i :: ·)
  | _ :: _ => none
def lexLe (ns ms : List Int) : Bool := Ob.lexAt (fun j => decide (ns.getD j 0 = ms.getD j 0)) (fun j => decide (ns.getD j 0 ≤ ms.getD j 0)) (decide (ns.length ≤ ms.length)) 0 (min ns.length ms.length)
def lexGe (ns ms : List Int) : Bool := Ob.lexAt (fun j => decide (ns.getD j 0 = ms.getD j 0)) (fun j => decide (ms.getD j 0 ≤ ns.getD j 0)) (decide (ns.length ≥ ms.length)) 0 (min ns.length ms.length)
def lexGt (ns ms : List Int) : Bool := Ob.lexAt (fun j => decide (ns.getD j 0 = ms.getD j 0)) (fun j => decide (ms.getD j 0 < ns.getD j 0)) (decide (ns.length > ms.length)) 0 (min ns.length ms.length)
def ordF (fi : Int → Int → Bool) (ft : List Int → List Int → Bool) : T → T → Option Bool
  | .int i, .int j => some (fi i j)
  | .tup xs, .tup ys => match T.ints xs, T.ints ys with
    | some ns, some ms => some (ft ns ms)
    | _, _ => none
  | _, _ => none
def T.key : T → Option Key
  | .int i => some (.inl i)
  | .str s => some (.inr s)
  | _ => none
def T.keysOf : List T → Option (List Key)
  | [] => some []
  | t :: r => match T.key t, T.keysOf r with
    | some k, some ks => some (k :: ks)
    | _, _ => none
def T.keyT : T → Option (List Key)
  | .tup xs => T.keysOf xs
  | _ => none
/-- what a dict holds of a key: none where the key is of no kind -/
def lookK {κ α : Type} [DecidableEq κ] (kvs : List (κ × α)) (k : κ) : Option α := (kvs.find? fun kv => decide (kv.1 = k)).map (·.2)
inductive DV where
  | k (kvs : List (Key × T)) | t (kvs : List (List Key × T))
def Sto.dict (S : Sto) : T → Option DV
  | .dK l => some (.k l)
  | .dT l => some (.t l)
  | .ref i => match S[i]? with
    | some (.dK l) => some (.k l)
    | some (.dT l) => some (.t l)
    | _ => none
  | _ => none
def DV.look : DV → T → Option (Option T)
  | .k l, x => (T.key x).map (lookK l)
  | .t l, x => (T.keyT x).map (lookK l)
def inF (a b : T) (S : Sto) : Option Bool := match b with
  | .str y => match a with
    | .str x => some (!(Builtin.Str.occurrences y x 0 y.length 1).isEmpty)
    | _ => none
  | b => match S.dict b with
    | some d => (d.look a).map (·.isSome)
    | none => match S.toD a, (S.seq b).bind (T.toDs (S.refD 4)) with
      | some d, some ds => if decide (min (PyData.depthAll ds) d.depth ≤ 60) then some (ds.any fun z => PyData.eqv z d) else none
      | _, _ => none
def isF : T → T → Option Bool
  | .non, .non => some true
  | _, .non => some false
  | .bl a, .bl b => some (decide (a = b))
  | _, _ => none
def cmpB : CmpOp → T → T → Sto → Option Bool
  | .Eq, a, b, S => eqD a b S
  | .NotEq, a, b, S => (eqD a b S).map (!·)
  | .Lt, a, b, _ => ordF (fun i j => decide (i < j)) HT.lexLt a b
  | .LtE, a, b, _ => ordF (fun i j => decide (i ≤ j)) lexLe a b
  | .Gt, a, b, _ => ordF (fun i j => decide (j < i)) lexGt a b
  | .GtE, a, b, _ => ordF (fun i j => decide (j ≤ i)) lexGe a b
  | .Is, a, b, _ => isF a b
  | .IsNot, a, b, _ => (isF a b).map (!·)
  | .In, a, b, S => inF a b S
  | .NotIn, a, b, S => (inF a b S).map (!·)
def cmpF (op : CmpOp) (a b : T) (S : Sto) : Option Raw := (cmpB op a b S).map fun k => .val (.bl k)
end TL

namespace TL
open PySem PySem.Spec PyProof.Rows L2

section
variable {K : PySem.W.Frag} {Z : Addr → Prop} {H : Hp} {ι : Nat → Addr} {S : Sto} {n : Nat}
theorem lookK_zip {κ : Type} [DecidableEq κ] (k : κ) : ∀ {ks : List κ} {vs : List V} {ts : List T}, ks.length = vs.length → IsAll K Z H ι n vs ts →
    (valV (ks.zip vs) k = none ∧ lookK (ks.zip ts) k = none) ∨ ∃ v t, valV (ks.zip vs) k = some v ∧ lookK (ks.zip ts) k = some t ∧ Is K Z H ι n v t
  | [], _, _, _, _ => .inl ⟨rfl, rfl⟩
  | c :: ks, [], _, hl, _ => by simp at hl
  | c :: ks, v :: vs, _, hl, .cons (t := t) (ts := ts) i is => by
    by_cases e : c = k
    · exact .inr ⟨v, t, by simp [valV, List.zip_cons_cons, List.find?_cons, e], by simp [lookK, List.zip_cons_cons, List.find?_cons, e], i⟩
    · have ih := lookK_zip k (by simpa using hl) is
      have e1 : valV ((c :: ks).zip (v :: vs)) k = valV (ks.zip vs) k := by simp [valV, List.zip_cons_cons, List.find?_cons, e]
      have e2 : lookK ((c :: ks).zip (t :: ts)) k = lookK (ks.zip ts) k := by simp [lookK, List.zip_cons_cons, List.find?_cons, e]
      rw [e1, e2]
      exact ih
theorem key_ok {x : V} {t : T} {k : Key} (h : Is K Z H ι n x t) (e : T.key t = some k) : x = kV k := by
  cases h <;> cases e <;> rfl
theorem keysOf_ok : ∀ {vs : List V} {ts : List T} {ks : List Key}, IsAll K Z H ι n vs ts → T.keysOf ts = some ks → vs = ks.map kV
  | _, _, _, .nil, e => by cases e; rfl
  | _, _, _, .cons (t := t) (ts := ts) i is, e => by
    simp only [T.keysOf] at e
    cases q : T.key t with
    | none => rw [q] at e; cases e
    | some k =>
      cases q2 : T.keysOf ts with
      | none => rw [q, q2] at e; cases e
      | some ks =>
        rw [q, q2] at e
        cases e
        rw [key_ok i q, keysOf_ok is q2]
        rfl
theorem keyT_ok {x : V} {t : T} {ks : List Key} (h : Is K Z H ι n x t) (e : T.keyT t = some ks) : ∃ b, x = .ref b ∧ H b = some (.tup (ks.map kV)) := by
  cases h with
  | tup h hs =>
    have := keysOf_ok hs e
    subst this
    exact ⟨_, rfl, h⟩
  | _ => cases e
/-- a dict as it lies -/
inductive DIs (K : PySem.W.Frag) (Z : Addr → Prop) (H : Hp) (ι : Nat → Addr) (n : Nat) (a : Addr) : DV → Prop
  | k {ks : List Key} {vs : List V} {ts : List T} : H a = some (.dK (ks.zip vs)) → ks.length = vs.length → IsAll K Z H ι n vs ts → DIs K Z H ι n a (.k (ks.zip ts))
  | t {ks : List (List Key)} {vs : List V} {ts : List T} : H a = some (.dT (ks.zip vs)) → ks.length = vs.length → IsAll K Z H ι n vs ts → DIs K Z H ι n a (.t (ks.zip ts))
theorem dict_ok {x : V} {t : T} {d : DV} (R : Rel K Z ι S H) (h : Is K Z H ι S.length x t) (e : S.dict t = some d) : ∃ a, x = .ref a ∧ DIs K Z H ι S.length a d := by
  cases h with
  | dK h _ _ hl hs => cases e; exact ⟨_, rfl, .k h hl hs⟩
  | dT h _ _ hl hs => cases e; exact ⟨_, rfl, .t h hl hs⟩
  | ref hi =>
    rename_i i
    have q : S[i]? = some S[i] := List.getElem?_eq_getElem hi
    have h := R.obj _ _ q
    simp only [Sto.dict, q] at e
    cases ho : S[i] with
    | lst xs => rw [ho] at e; cases e
    | dK l =>
      rw [ho] at e h
      cases e
      cases h with
      | dK h hl hs => exact ⟨_, rfl, .k h hl hs⟩
    | dT l =>
      rw [ho] at e h
      cases e
      cases h with
      | dT h hl hs => exact ⟨_, rfl, .t h hl hs⟩
  | _ => cases e
theorem look_ok {a : Addr} {d : DV} {y : V} {u : T} {o : Option T} (h : DIs K Z H ι n a d) (i : Is K Z H ι n y u) (e : d.look u = some o) :
    ∃ o', DGet H a y o' ∧ ((o = none ∧ o' = none) ∨ ∃ v t, o = some t ∧ o' = some v ∧ Is K Z H ι n v t) := by
  cases h with
  | k h hl hs =>
    simp only [DV.look] at e
    cases q : T.key u with
    | none => rw [q] at e; cases e
    | some k =>
      rw [q] at e
      cases e
      rw [key_ok i q]
      rcases lookK_zip k hl hs with ⟨e1, e2⟩ | ⟨v, t, e1, e2, iv⟩
      · exact ⟨_, .k h, .inl ⟨e2, e1⟩⟩
      · exact ⟨_, .k h, .inr ⟨v, t, e2, e1, iv⟩⟩
  | t h hl hs =>
    simp only [DV.look] at e
    cases q : T.keyT u with
    | none => rw [q] at e; cases e
    | some k =>
      rw [q] at e
      cases e
      obtain ⟨b, rfl, hb⟩ := keyT_ok i q
      rcases lookK_zip k hl hs with ⟨e1, e2⟩ | ⟨v, t, e1, e2, iv⟩
      · exact ⟨_, .t h hb, .inl ⟨e2, e1⟩⟩
      · exact ⟨_, .t h hb, .inr ⟨v, t, e2, e1, iv⟩⟩
theorem ints_ok : ∀ {vs : List V} {ts : List T} {ns : List Int}, IsAll K Z H ι n vs ts → T.ints ts = some ns → vs = ns.map V.int
  | _, _, _, .nil, e => by cases e; rfl
  | _, _, _, .cons (t := t) (ts := ts) i is, e => by
    cases i with
    | int k =>
      simp only [T.ints] at e
      cases q2 : T.ints ts with
      | none => rw [q2] at e; cases e
      | some ks =>
        rw [q2] at e
        cases e
        rw [ints_ok is q2]
        rfl
    | _ => cases e
end

section
variable {X : Cx}
theorem lexOps {A : Around} {pins : List (Addr × Obj)} {σ : L2.St} {H : Hp} {s : Shared} {a b : Addr} {ns ms : List Int} (I : Inv X pins σ H s) (ha : SqT X.K H a (ns.map V.int)) (hb : SqT X.K H b (ms.map V.int)) :
    ∃ its its2 : Array Value, s.heap.IsTuple a its ∧ s.heap.IsTuple b its2 ∧ its.size = ns.length ∧ its2.size = ms.length ∧
      (∀ j (h1 : j < its.size) (h2 : j < its2.size), SeqAt.EqAt A s its[j] its2[j] (decide (ns.getD j 0 = ms.getD j 0))) ∧
      (∀ j (h1 : j < its.size), ∃ t, its[j] = .int (ns.getD j 0) t) ∧ (∀ j (h1 : j < its2.size), ∃ t, its2[j] = .int (ms.getD j 0) t) := by
  obtain ⟨its, r1, p1, _⟩ := I.tuple ha
  obtain ⟨its2, r2, p2, _⟩ := I.tuple hb
  have i1 : IntsAre its ns := Vals.ints r1
  have i2 : IntsAre its2 ms := Vals.ints r2
  have e1 : its.toArray.size = ns.length := by rw [List.size_toArray]; exact i1.length
  have e2 : its2.toArray.size = ms.length := by rw [List.size_toArray]; exact i2.length
  have at1 : ∀ j (h1 : j < its.toArray.size), ∃ t, its.toArray[j] = .int (ns.getD j 0) t := fun j h1 => PyProof.Rows.IntsAre.int_at i1 _ _ (by simp at h1; simp [h1])
  have at2 : ∀ j (h1 : j < its2.toArray.size), ∃ t, its2.toArray[j] = .int (ms.getD j 0) t := fun j h1 => PyProof.Rows.IntsAre.int_at i2 _ _ (by simp at h1; simp [h1])
  refine ⟨its.toArray, its2.toArray, p1, p2, e1, e2, fun j h1 h2 => ?_, at1, at2⟩
  obtain ⟨t, et⟩ := at1 j h1
  obtain ⟨t', et'⟩ := at2 j h2
  rw [et, et']
  have z : (ns.getD j 0 == ms.getD j 0) = decide (ns.getD j 0 = ms.getD j 0) := by
    by_cases q : ns.getD j 0 = ms.getD j 0
    · rw [decide_eq_true q]; exact beq_iff_eq.mpr q
    · rw [decide_eq_false q]; exact beq_eq_false_iff_ne.mpr q
  rw [← z]
  exact SeqAt.EqAt.int_int _ _ _ _
def rTT (K : PySem.W.Frag) (f : List Int → List Int → Bool) : R2 := fun x y H Q => ∃ (a b : Addr) (ns ms : List Int), x = .ref a ∧ y = .ref b ∧ SqT K H a (ns.map V.int) ∧ SqT K H b (ms.map V.int) ∧ Q (.bl (f ns ms)) H
theorem op_gtT (hu : X.A.units < cLine) : OpR X (compareOp .Gt) (rTT X.K lexGt) := by
  intro pins s σ H x y v u Q I rx ry h
  obtain ⟨a, b, ns, ms, rfl, rfl, ha, hb, q⟩ := h
  cases rx
  cases ry
  obtain ⟨its, its2, p1, p2, e1, e2, he, at1, at2⟩ := lexOps (A := X.A.in1) I ha hb
  have R := Ob.RcOp.tuples_gt (A := X.A) (s := s) (e := fun j => decide (ns.getD j 0 = ms.getD j 0)) (r := fun j => decide (ms.getD j 0 < ns.getD j 0)) p1 p2 hu he (fun j h1 h2 _ => by
    obtain ⟨t, et⟩ := at1 j h1
    obtain ⟨t', et'⟩ := at2 j h2
    rw [et, et']
    exact Ob.RcOp.gt_int _ _ _ _)
  rw [e1, e2] at R
  have z : wpAny (model X.prog X.w) X.A (compareOp .Gt (.ref a) (.ref b)) (EP X pins σ Q) X.xe s := R X.prog X.w X.xe (EP X pins σ Q) ⟨.bl _, H, I, rfl, q⟩
  exact z
theorem op_geT (hu : X.A.units < cLine) : OpR X (compareOp .GtE) (rTT X.K lexGe) := by
  intro pins s σ H x y v u Q I rx ry h
  obtain ⟨a, b, ns, ms, rfl, rfl, ha, hb, q⟩ := h
  cases rx
  cases ry
  obtain ⟨its, its2, p1, p2, e1, e2, he, at1, at2⟩ := lexOps (A := X.A.in1) I ha hb
  have R := Ob.RcOp.tuples_ge (A := X.A) (s := s) (e := fun j => decide (ns.getD j 0 = ms.getD j 0)) (r := fun j => decide (ms.getD j 0 ≤ ns.getD j 0)) p1 p2 hu he (fun j h1 h2 _ => by
    obtain ⟨t, et⟩ := at1 j h1
    obtain ⟨t', et'⟩ := at2 j h2
    rw [et, et']
    exact Ob.RcOp.ge_int _ _ _ _)
  rw [e1, e2] at R
  have z : wpAny (model X.prog X.w) X.A (compareOp .GtE (.ref a) (.ref b)) (EP X pins σ Q) X.xe s := R X.prog X.w X.xe (EP X pins σ Q) ⟨.bl _, H, I, rfl, q⟩
  exact z
theorem ord_ok {op : CmpOp} {fi : Int → Int → Bool} {ft : List Int → List Int → Bool} (hi : OpR X (compareOp op) (rI0 fun i j => .bl (fi i j))) (ht : OpR X (compareOp op) (rTT X.K ft)) :
    OpR X (compareOp op) (rRaw X.K fun a b _ => (ordF fi ft a b).map fun k => .val (.bl k)) := by
  intro pins s σ H x y v u Q I rx ry h
  obtain ⟨Z, ι, S, a, b, r, R, ha, hb, e, ok⟩ := h
  replace e : (ordF fi ft a b).map (fun k => Raw.val (.bl k)) = some r := e
  unfold ordF at e
  split at e
  · cases e
    exact hi pins s σ H x y v u Q I rx ry ⟨_, _, is_int ha, is_int hb, raw_bl ok⟩
  · split at e
    · rename_i ns ms e1 e2
      cases e
      obtain ⟨p, vs, rfl, hp, ip⟩ := is_tup ha
      obtain ⟨q, ws, rfl, hq, iq⟩ := is_tup hb
      rw [ints_ok ip e1] at hp
      rw [ints_ok iq e2] at hq
      exact ht pins s σ H _ _ v u Q I rx ry ⟨p, q, ns, ms, rfl, rfl, .of hp, .of hq, raw_bl ok⟩
    · cases e
  · cases e
theorem eq_ok {x y : V} {a b : T} {Z : Addr → Prop} {ι : Nat → Addr} {S : Sto} {H : Hp} {k : Bool} (R : Rel X.K Z ι S H) (ha : Is X.K Z H ι S.length x a) (hb : Is X.K Z H ι S.length y b) (e : eqD a b S = some k) :
    ∃ d f, Dp X.K H x d ∧ Dp X.K H y f ∧ d.plain = true ∧ f.plain = true ∧ min d.depth f.depth ≤ 60 ∧ k = PyData.eqv d f := by
  unfold eqD at e
  split at e
  · rename_i d f e1 e2
    split at e
    · rename_i g
      cases e
      obtain ⟨a1, a2⟩ := Sto.toD_ok R ha e1
      obtain ⟨b1, b2⟩ := Sto.toD_ok R hb e2
      exact ⟨d, f, a1, b1, a2, b2, of_decide_eq_true g, rfl⟩
    · cases e
  · cases e
theorem op_eqF (hu : X.A.units + 65 < cLine) : OpR X (compareOp .Eq) (rRaw X.K (cmpF .Eq)) := by
  intro pins s σ H x y v u Q I rx ry h
  obtain ⟨Z, ι, S, a, b, r, R, ha, hb, e, ok⟩ := h
  simp only [cmpF, cmpB] at e
  cases q : eqD a b S with
  | none => rw [q] at e; cases e
  | some k =>
    rw [q] at e
    cases e
    obtain ⟨d, f, h1, h2, p1, p2, hd, rfl⟩ := eq_ok R ha hb q
    obtain ⟨as, r1⟩ := Dp.reads I d x v h1 rx
    obtain ⟨bs, r2⟩ := Dp.reads I f y u h2 ry
    exact SeqAt.eq_plain r1 r2 p1 p2 (by omega) ⟨.bl _, H, I, rfl, raw_bl ok⟩
theorem op_neF (hu : X.A.units + 65 < cLine) : OpR X (compareOp .NotEq) (rRaw X.K (cmpF .NotEq)) := by
  intro pins s σ H x y v u Q I rx ry h
  obtain ⟨Z, ι, S, a, b, r, R, ha, hb, e, ok⟩ := h
  simp only [cmpF, cmpB] at e
  cases q : eqD a b S with
  | none => rw [q] at e; cases e
  | some k =>
    rw [q] at e
    cases e
    obtain ⟨d, f, h1, h2, p1, p2, hd, rfl⟩ := eq_ok R ha hb q
    obtain ⟨as, r1⟩ := Dp.reads I d x v h1 rx
    obtain ⟨bs, r2⟩ := Dp.reads I f y u h2 ry
    exact SeqAt.ne_plain r1 r2 p1 p2 (by omega) ⟨.bl _, H, I, rfl, raw_bl ok⟩
/-- in: what it hangs on -/
inductive InIs (X : Cx) (H : Hp) (x y : V) (k : Bool) : Prop
  | str (i j : Str) : x = .str i → y = .str j → k = (!(Builtin.Str.occurrences j i 0 j.length 1).isEmpty) → InIs X H x y k
  | dict (a : Addr) (o : Option V) : y = .ref a → DGet H a x o → k = o.isSome → InIs X H x y k
  | lst (d : PyData) (ds : List PyData) : Dp X.K H x d → Dp X.K H y (.list ds) → d.plain = true → PyData.plainAll ds = true → min (PyData.depthAll ds) d.depth ≤ 60 → k = (ds.any fun z => PyData.eqv z d) → InIs X H x y k
  | tup (d : PyData) (ds : List PyData) : Dp X.K H x d → Dp X.K H y (.tuple ds) → d.plain = true → PyData.plainAll ds = true → min (PyData.depthAll ds) d.depth ≤ 60 → k = (ds.any fun z => PyData.eqv z d) → InIs X H x y k
theorem seqD_ok {y : V} {b : T} {Z : Addr → Prop} {ι : Nat → Addr} {S : Sto} {H : Hp} {ts : List T} {ds : List PyData} (R : Rel X.K Z ι S H) (hb : Is X.K Z H ι S.length y b) (e : S.seq b = some ts) (e2 : T.toDs (S.refD 4) ts = some ds) :
    (Dp X.K H y (.list ds) ∨ Dp X.K H y (.tuple ds)) ∧ PyData.plainAll ds = true := by
  cases hb with
  | lst h hn _ hs =>
    cases e
    obtain ⟨p, q⟩ := toDs_ok (fun i d hi => refD_ok R 4 i d hi) hs e2
    exact ⟨.inl (.lst (.of h) p), q⟩
  | tup h hs =>
    cases e
    obtain ⟨p, q⟩ := toDs_ok (fun i d hi => refD_ok R 4 i d hi) hs e2
    exact ⟨.inr (.tup (.of h) p), q⟩
  | scrK h =>
    cases e
    obtain ⟨p, q⟩ := toDs_ok (fun i d hi => refD_ok R 4 i d hi) (isAll_ints (Z := Z) _) e2
    exact ⟨.inl (.lst (.inr h) p), q⟩
  | scr h hn _ =>
    cases e
    obtain ⟨p, q⟩ := toDs_ok (fun i d hi => refD_ok R 4 i d hi) (isAll_ints (Z := Z) _) e2
    exact ⟨.inl (.lst (.inl h) p), q⟩
  | ref hi =>
    rename_i i
    obtain ⟨a, vs, e1, e3, e4⟩ := items_ok (ts := ts) R (.ref hi) (by unfold Sto.items; unfold Sto.seq at e; exact e)
    obtain ⟨p, q⟩ := toDs_ok (fun i d hi => refD_ok R 4 i d hi) e4 e2
    rw [e1]
    exact ⟨.inl (.lst (.of e3) p), q⟩
  | _ => cases e
theorem in_ok {x y : V} {a b : T} {Z : Addr → Prop} {ι : Nat → Addr} {S : Sto} {H : Hp} {k : Bool} (R : Rel X.K Z ι S H) (ha : Is X.K Z H ι S.length x a) (hb : Is X.K Z H ι S.length y b) (e : inF a b S = some k) : InIs X H x y k := by
  unfold inF at e
  split at e
  · split at e
    · cases e
      exact .str _ _ (is_str ha) (is_str hb) rfl
    · cases e
  · split at e
    · rename_i d e1
      obtain ⟨c, rfl, hd⟩ := dict_ok R hb e1
      cases q : d.look a with
      | none => rw [q] at e; cases e
      | some o =>
        rw [q] at e
        cases e
        obtain ⟨o', g, z⟩ := look_ok hd ha q
        refine .dict c o' rfl g ?_
        rcases z with ⟨rfl, rfl⟩ | ⟨v, t, rfl, rfl, _⟩ <;> rfl
    · split at e
      · rename_i d ds e1 e2
        split at e
        · rename_i g
          cases e
          obtain ⟨a1, a2⟩ := Sto.toD_ok R ha e1
          cases q : S.seq b with
          | none => rw [q] at e2; cases e2
          | some ts =>
            rw [q] at e2
            obtain ⟨p1 | p1, p2⟩ := seqD_ok R hb q e2
            · exact .lst d ds a1 p1 a2 p2 (of_decide_eq_true g) rfl
            · exact .tup d ds a1 p1 a2 p2 (of_decide_eq_true g) rfl
        · cases e
      · cases e
theorem op_inF (hu : X.A.units + 65 < cLine) : OpR X (compareOp .In) (rRaw X.K (cmpF .In)) := by
  intro pins s σ H x y v u Q I rx ry h
  obtain ⟨Z, ι, S, a, b, r, R, ha, hb, e, ok⟩ := h
  simp only [cmpF, cmpB] at e
  cases q : inF a b S with
  | none => rw [q] at e; cases e
  | some k =>
    rw [q] at e
    cases e
    have qb := raw_bl ok
    cases in_ok R ha hb q with
    | str i j e1 e2 e3 => exact op_in_str pins s σ H x y v u Q I rx ry ⟨i, j, e1, e2, by rw [← e3]; exact qb⟩
    | dict c o e1 g e3 =>
      subst e1
      cases ry
      exact d_in (by omega) I g rx fun s' I' => ⟨.bl _, H, I', rfl, by rw [← e3]; exact qb⟩
    | lst d ds h1 h2 p1 p2 hd e3 =>
      obtain ⟨as, r1⟩ := Dp.reads I d x v h1 rx
      obtain ⟨bs, r2⟩ := Dp.reads I (.list ds) y u h2 ry
      exact SeqAt.in_list_data r2 r1 p2 p1 (by omega) ⟨.bl _, H, I, rfl, by rw [← e3]; exact qb⟩
    | tup d ds h1 h2 p1 p2 hd e3 =>
      obtain ⟨as, r1⟩ := Dp.reads I d x v h1 rx
      obtain ⟨bs, r2⟩ := Dp.reads I (.tuple ds) y u h2 ry
      exact SeqAt.in_tuple_data r2 r1 p2 p1 (by omega) ⟨.bl _, H, I, rfl, by rw [← e3]; exact qb⟩
theorem op_notInF (hu : X.A.units + 65 < cLine) : OpR X (compareOp .NotIn) (rRaw X.K (cmpF .NotIn)) := by
  intro pins s σ H x y v u Q I rx ry h
  obtain ⟨Z, ι, S, a, b, r, R, ha, hb, e, ok⟩ := h
  simp only [cmpF, cmpB] at e
  cases q : inF a b S with
  | none => rw [q] at e; cases e
  | some k =>
    rw [q] at e
    cases e
    have qb := raw_bl ok
    cases in_ok R ha hb q with
    | str i j e1 e2 e3 => exact op_notIn_str pins s σ H x y v u Q I rx ry ⟨i, j, e1, e2, by rw [← e3]; exact qb⟩
    | dict c o e1 g e3 =>
      subst e1
      cases ry
      exact d_notIn (by omega) I g rx fun s' I' => ⟨.bl _, H, I', rfl, by rw [← e3]; exact qb⟩
    | lst d ds h1 h2 p1 p2 hd e3 =>
      obtain ⟨as, r1⟩ := Dp.reads I d x v h1 rx
      obtain ⟨bs, r2⟩ := Dp.reads I (.list ds) y u h2 ry
      exact SeqAt.notIn_list_data r2 r1 p2 p1 (by omega) ⟨.bl _, H, I, rfl, by rw [← e3]; exact qb⟩
    | tup d ds h1 h2 p1 p2 hd e3 =>
      obtain ⟨as, r1⟩ := Dp.reads I d x v h1 rx
      obtain ⟨bs, r2⟩ := Dp.reads I (.tuple ds) y u h2 ry
      exact SeqAt.notIn_tuple_data r2 r1 p2 p1 (by omega) ⟨.bl _, H, I, rfl, by rw [← e3]; exact qb⟩
theorem is_non {K : PySem.W.Frag} {Z : Addr → Prop} {H : Hp} {ι : Nat → Addr} {n : Nat} {x : V} {t : T} (h : Is K Z H ι n x t) : (x = .non ↔ t = .non) := by
  cases h <;> simp
theorem is_ok {x y : V} {a b : T} {Z : Addr → Prop} {ι : Nat → Addr} {S : Sto} {H : Hp} {k : Bool} (ha : Is X.K Z H ι S.length x a) (hb : Is X.K Z H ι S.length y b) (e : isF a b = some k) :
    (y = .non ∧ k = decide (x = .non)) ∨ ∃ i j, x = .bl i ∧ y = .bl j ∧ k = decide (i = j) := by
  unfold isF at e
  split at e
  · cases e
    cases ha
    cases hb
    exact .inl ⟨rfl, rfl⟩
  · rename_i h
    cases e
    cases hb
    refine .inl ⟨rfl, (decide_eq_false fun z => ?_).symm⟩
    exact h ((is_non ha).mp z)
  · cases e
    cases ha
    cases hb
    exact .inr ⟨_, _, rfl, rfl, rfl⟩
  · cases e
theorem op_isF : OpR X (compareOp .Is) (rRaw X.K (cmpF .Is)) := by
  intro pins s σ H x y v u Q I rx ry h
  obtain ⟨Z, ι, S, a, b, r, R, ha, hb, e, ok⟩ := h
  simp only [cmpF, cmpB] at e
  cases q : isF a b with
  | none => rw [q] at e; cases e
  | some k =>
    rw [q] at e
    cases e
    have qb := raw_bl ok
    rcases is_ok ha hb q with ⟨e1, e2⟩ | ⟨i, j, e1, e2, e3⟩
    · exact op_isN pins s σ H x y v u Q I rx ry ⟨e1, by rw [← e2]; exact qb⟩
    · exact op_is_bl pins s σ H x y v u Q I rx ry ⟨i, j, e1, e2, by rw [← e3]; exact qb⟩
theorem op_isNotF : OpR X (compareOp .IsNot) (rRaw X.K (cmpF .IsNot)) := by
  intro pins s σ H x y v u Q I rx ry h
  obtain ⟨Z, ι, S, a, b, r, R, ha, hb, e, ok⟩ := h
  simp only [cmpF, cmpB] at e
  cases q : isF a b with
  | none => rw [q] at e; cases e
  | some k =>
    rw [q] at e
    cases e
    have qb := raw_bl ok
    rcases is_ok ha hb q with ⟨e1, e2⟩ | ⟨i, j, e1, e2, e3⟩
    · exact op_notN pins s σ H x y v u Q I rx ry ⟨e1, by rw [← e2]; exact qb⟩
    · exact op_isnot_bl pins s σ H x y v u Q I rx ry ⟨i, j, e1, e2, by rw [← e3]; exact qb⟩
theorem op_cmpF (hu : X.A.units + 65 < cLine) (op : CmpOp) : OpR X (compareOp op) (rRaw X.K (cmpF op)) := by
  cases op with
  | Eq => exact op_eqF hu
  | NotEq => exact op_neF hu
  | Lt => exact ord_ok op_lt (op_ltT (by omega))
  | LtE => exact ord_ok op_le (op_leT (by omega))
  | Gt => exact ord_ok op_gt (op_gtT (by omega))
  | GtE => exact ord_ok op_ge (op_geT (by omega))
  | Is => exact op_isF
  | IsNot => exact op_isNotF
  | In => exact op_inF hu
  | NotIn => exact op_notInF hu
end
end TL

/-! TL: the compact syntax, the evaluator. -/
namespace TL
open PySem PySem.Spec PyProof.Rows L2

/-! ### equality of trees, for the loops' look -/
mutual
def T.same : T → T → Bool
  | .non, .non => true
  | .bl a, .bl b => a == b
  | .int a, .int b => a == b
  | .str a, .str b => a == b
  | .tup a, .tup b => T.sames a b
  | .lst a, .lst b => T.sames a b
  | .ref a, .ref b => a == b
  | _, _ => false
def T.sames : List T → List T → Bool
  | [], [] => true
  | a :: r, b :: q => T.same a b && T.sames r q
  | _, _ => false
end
mutual
theorem T.same_eq : ∀ {a b : T}, T.same a b = true → a = b
  | .non, .non, _ => rfl
  | .bl a, .bl b, h => by simp only [T.same] at h; rw [eq_of_beq h]
  | .int a, .int b, h => by simp only [T.same] at h; rw [eq_of_beq h]
  | .str a, .str b, h => by simp only [T.same] at h; rw [eq_of_beq h]
  | .tup a, .tup b, h => by simp only [T.same] at h; rw [T.sames_eq h]
  | .lst a, .lst b, h => by simp only [T.same] at h; rw [T.sames_eq h]
  | .ref a, .ref b, h => by simp only [T.same] at h; rw [eq_of_beq h]
  | .non, .bl _, h | .non, .int _, h | .non, .str _, h | .non, .tup _, h | .non, .lst _, h | .non, .dK _, h | .non, .dT _, h | .non, .ref _, h | .non, .scr _, h => by cases h
  | .bl _, .non, h | .bl _, .int _, h | .bl _, .str _, h | .bl _, .tup _, h | .bl _, .lst _, h | .bl _, .dK _, h | .bl _, .dT _, h | .bl _, .ref _, h | .bl _, .scr _, h => by cases h
  | .int _, .non, h | .int _, .bl _, h | .int _, .str _, h | .int _, .tup _, h | .int _, .lst _, h | .int _, .dK _, h | .int _, .dT _, h | .int _, .ref _, h | .int _, .scr _, h => by cases h
  | .str _, .non, h | .str _, .bl _, h | .str _, .int _, h | .str _, .tup _, h | .str _, .lst _, h | .str _, .dK _, h | .str _, .dT _, h | .str _, .ref _, h | .str _, .scr _, h => by cases h
  | .tup _, .non, h | .tup _, .bl _, h | .tup _, .int _, h | .tup _, .str _, h | .tup _, .lst _, h | .tup _, .dK _, h | .tup _, .dT _, h | .tup _, .ref _, h | .tup _, .scr _, h => by cases h
  | .lst _, .non, h | .lst _, .bl _, h | .lst _, .int _, h | .lst _, .str _, h | .lst _, .tup _, h | .lst _, .dK _, h | .lst _, .dT _, h | .lst _, .ref _, h | .lst _, .scr _, h => by cases h
  | .ref _, .non, h | .ref _, .bl _, h | .ref _, .int _, h | .ref _, .str _, h | .ref _, .tup _, h | .ref _, .lst _, h | .ref _, .dK _, h | .ref _, .dT _, h | .ref _, .scr _, h => by cases h
  | .dK _, _, h => by cases h
  | .dT _, _, h => by cases h
  | .scr _, _, h => by cases h
theorem T.sames_eq : ∀ {a b : List T}, T.sames a b = true → a = b
  | [], [], _ => rfl
  | a :: r, b :: q, h => by
    simp only [T.sames, Bool.and_eq_true] at h
    rw [T.same_eq h.1, T.sames_eq h.2]
  | [], _ :: _, h => by cases h
  | _ :: _, [], h => by cases h
end

/-! ### the syntax -/
abbrev FnS := List T → Sto → Option (Res × Sto)
/-- a built-in's rule by trees -/
abbrev BiS := List T → Sto → Option Raw
inductive Bi where
  | len | abs | max2 | min2 | max1 | min1 | sum | all | tuple | list | sorted | int | str | dict
  deriving DecidableEq
inductive Mt where
  | append | extend | pop0 | popT
  deriving DecidableEq
inductive Tg where
  | name (i : Nat) | tup (is : List Nat)
inductive E where
  | var (i : Nat) | gc (x : Str) (t : T) | int (i : Int) | str (s : Str) | bl (b : Bool) | non
  | bin (nw : Bool) (op : Operator) (a b : E)
  | neg (a : E) | not (a : E)
  | cmp (op : CmpOp) (a b : E) | chain (p q : CmpOp) (a b c : E)
  | inr (ng : Bool) (a : E) (args : E)
  | and (a b : E) | or (a b : E) | one (a : E)
  | ite (c a b : E)
  | nil | cons (a r : E)
  | tup (args : E) | lst (nw : Bool) (args : E) | dnew (t nw : Bool)
  | idx (a b : E) | sl (nw : Bool) (a lo hi : E) | rev (nw : Bool) (a : E) | nop
  | call (keep : Bool) (x : Str) (F : FnS) (args : E)
  | bi (nw : Bool) (b : Bi) (args : E) | isi (a : E) (ty : String)
  | comp (nw : Bool) (own : List (Str × Nat)) (tg : Tg) (it cond elt : E)
  | seq (a : E) | rng (args : E) | enum (a : E) | zip (a b : E)
  | meth (m : Mt) (o args : E)

/-! ### freezing -/
mutual
def T.und (lo : Nat) : T → Bool
  | .ref i => decide (i < lo)
  | .tup xs => T.unds lo xs
  | .lst xs => T.unds lo xs
  | .dK l => T.undK lo l
  | .dT l => T.undT lo l
  | _ => true
def T.unds (lo : Nat) : List T → Bool
  | [] => true
  | t :: r => T.und lo t && T.unds lo r
def T.undK (lo : Nat) : List (Key × T) → Bool
  | [] => true
  | (_, t) :: r => T.und lo t && T.undK lo r
def T.undT (lo : Nat) : List (List Key × T) → Bool
  | [] => true
  | (_, t) :: r => T.und lo t && T.undT lo r
end
def Ob.und (lo : Nat) : Ob → Bool
  | .lst xs => T.unds lo xs
  | .dK l => T.undK lo l
  | .dT l => T.undT lo l
mutual
def T.frzW (lo : Nat) (f : Nat → Option T) : T → Option T
  | .ref i => if i < lo then some (.ref i) else f i
  | .tup xs => (T.frzWs lo f xs).map .tup
  | .lst xs => (T.frzWs lo f xs).map .lst
  | .dK l => if T.undK lo l then some (.dK l) else none
  | .dT l => if T.undT lo l then some (.dT l) else none
  | t => some t
def T.frzWs (lo : Nat) (f : Nat → Option T) : List T → Option (List T)
  | [] => some []
  | t :: r => match T.frzW lo f t, T.frzWs lo f r with
    | some u, some us => some (u :: us)
    | _, _ => none
end
def Sto.frzI (S : Sto) (lo : Nat) : Nat → Nat → Option T
  | 0, _ => none
  | k + 1, i => match S[i]? with
    | some (.lst xs) => (T.frzWs lo (S.frzI lo k) xs).map .lst
    | some (.dK l) => if T.undK lo l then some (.dK l) else none
    | some (.dT l) => if T.undT lo l then some (.dT l) else none
    | _ => none
/-- what a call leaves: its own objects are frozen in what it gives, and forgotten -/
def frzR (lo : Nat) : Option (Res × Sto) → Option (Res × Sto)
  | some (.ok t, S) => if (S.take lo).all (Ob.und lo) then (T.frzW lo (S.frzI lo 4) t).map fun u => (.ok u, S.take lo) else none
  | some (.err x, S) => if (S.take lo).all (Ob.und lo) && x.fs.all (fun p => T.und lo p.2) then some (.err x, S.take lo) else none
  | none => none

/-! ### built-ins -/
def isTy : T → Option String
  | .non => some "NoneType"
  | .bl _ => some "bool"
  | .int _ => some "int"
  | .str _ => some "str"
  | .tup _ => some "tuple"
  | .lst _ => some "list"
  | .scr _ => none
  | .dK _ => some "dict"
  | .dT _ => some "dict"
  | .ref _ => none
def Sto.ty (S : Sto) : T → Option String
  | .ref i => match S[i]? with
    | some (.lst _) => some "list"
    | some (.dK _) => some "dict"
    | some (.dT _) => some "dict"
    | none => none
  | t => isTy t
def isiF (ty : String) (t : T) (S : Sto) : Option Bool := (S.ty t).map fun a => a == ty || (a == "bool" && ty == "int")
def lenF : BiS
  | [t], S => match t with
    | .str s => guardR (decide (s.length ≤ LIM)) (.val (.int s.length))
    | .dK l => some (.val (.int l.length))
    | .dT l => some (.val (.int l.length))
    | t => match S.seq t with
      | some xs => some (.val (.int xs.length))
      | none => match S.dict t with
        | some (.k l) => some (.val (.int l.length))
        | some (.t l) => some (.val (.int l.length))
        | none => none
  | _, _ => none
def absF : BiS
  | [.int i], _ => some (.val (.int (if i < 0 then -i else i)))
  | _, _ => none
def max2F : BiS
  | [.int i, .int j], _ => some (.val (.int (if j > i then j else i)))
  | _, _ => none
def min2F : BiS
  | [.int i, .int j], _ => some (.val (.int (if j < i then j else i)))
  | _, _ => none
/-- a list's items, to be read -/
def Sto.lseq (S : Sto) : T → Option (List T)
  | .tup _ => none
  | t => S.seq t
def maxL : Int → List Int → Int
  | m, [] => m
  | m, j :: r => maxL (if j > m then j else m) r
def minL : Int → List Int → Int
  | m, [] => m
  | m, j :: r => minL (if j < m then j else m) r
def max1F : BiS
  | [t], S => match (S.lseq t).bind T.ints with
    | some (i :: r) => some (.val (.int (maxL i r)))
    | _ => none
  | _, _ => none
def min1F : BiS
  | [t], S => match (S.lseq t).bind T.ints with
    | some (i :: r) => some (.val (.int (minL i r)))
    | _ => none
  | _, _ => none
def sumF : BiS
  | [t], S => match (S.lseq t).bind T.ints with
    | some ns => some (.val (.int ns.sum))
    | _ => none
  | _, _ => none
def T.bools : List T → Option (List Bool)
  | [] => some []
  | .bl b :: r => (T.bools r).map (b :: ·)
  | _ :: _ => none
def allF : BiS
  | [t], S => match (S.lseq t).bind T.bools with
    | some bs => some (.val (.bl (bs.all id)))
    | _ => none
  | _, _ => none
def tupleF : BiS
  | [t], S => (S.seq t).map fun xs => .val (.tup xs)
  | _, _ => none
def T.ofKey : Key → T
  | .inl i => .int i
  | .inr s => .str s
def listF : BiS
  | [t], S => match S.seq t with
    | some xs => some (.fresh xs)
    | none => match S.dict t with
      | some (.k l) => some (.fresh (l.map fun p => T.ofKey p.1))
      | some (.t l) => some (.fresh (l.map fun p => .tup (p.1.map T.ofKey)))
      | none => none
  | _, _ => none
/-- sorting by < of lists of numbers -/
def insL (x : List Int) : List (List Int) → List (List Int)
  | [] => [x]
  | y :: r => if HT.lexLt y x then y :: insL x r else x :: y :: r
def sortL : List (List Int) → List (List Int)
  | [] => []
  | x :: r => insL x (sortL r)
def insI (x : Int) : List Int → List Int
  | [] => [x]
  | y :: r => if y < x then y :: insI x r else x :: y :: r
def sortI : List Int → List Int
  | [] => []
  | x :: r => insI x (sortI r)
def T.tupI : T → Option (List Int)
  | .tup xs => match T.ints xs with
    | some (n :: ns) => some (n :: ns)
    | _ => none
  | _ => none
def T.tupIs : List T → Option (List (List Int))
  | [] => some []
  | t :: r => match T.tupI t, T.tupIs r with
    | some x, some xs => some (x :: xs)
    | _, _ => none
def T.ofInts (ns : List Int) : T := .tup (ns.map .int)
def sortedF : BiS
  | [t], S => match S.lseq t with
    | some xs => match T.ints xs with
      | some ns => some (.fresh ((sortI ns).map .int))
      | none => (T.tupIs xs).map fun l => .fresh ((sortL l).map T.ofInts)
    | none => none
  | _, _ => none
def intF : BiS
  | [.int i], _ => some (.val (.int i))
  | [.bl b], _ => some (.val (.int (if b then 1 else 0)))
  | _, _ => none
def strF : BiS
  | [.int i], _ => guardR (decide (i.natAbs.log2 < 1920)) (.val (.str (toString i)))
  | _, _ => none
def biF : Bi → BiS
  | .len => lenF
  | .abs => absF
  | .max2 => max2F
  | .min2 => min2F
  | .max1 => max1F
  | .min1 => min1F
  | .sum => sumF
  | .all => allF
  | .tuple => tupleF
  | .list => listF
  | .sorted => sortedF
  | .int => intF
  | .str => strF
  | .dict => fun _ _ => none

/-! ### subscripts -/
def idxF (a b : T) (S : Sto) : Option T := match a with
  | .str z => match b with
    | .int i => if z.length ≤ LIM then (atI z.cps.toList i).map fun c => .str ⟨#[c]⟩ else none
    | _ => none
  | a => match S.seq a with
    | some xs => match b with
      | .int i => atI xs i
      | _ => none
    | none => match S.dict a with
      | some d => (d.look b).bind id
      | none => none
def partF : T → Option (Option Int)
  | .non => some none
  | .int i => some (some i)
  | _ => none
def cutT (xs : List T) (lo hi : Option Int) : List T := (xs.drop (HT.sIx xs.length 0 lo)).take (HT.sIx xs.length xs.length hi - HT.sIx xs.length 0 lo)
def slF (a : T) (lo hi : Option Int) (S : Sto) : Option Raw := match a with
  | .tup xs => some (.val (.tup (cutT xs lo hi)))
  | .str z => none
  | a => match S.seq a with
    | some xs => some (.fresh (cutT xs lo hi))
    | none => none
def revF (a : T) (S : Sto) : Option Raw := match a with
  | .tup xs => some (.val (.tup xs.reverse))
  | a => match S.seq a with
    | some xs => some (.fresh xs.reverse)
    | none => none

/-! ### methods and stores -/
def putD {κ α : Type} [DecidableEq κ] (kvs : List (κ × α)) (k : κ) (v : α) : List (κ × α) :=
  if (kvs.any fun kv => decide (kv.1 = k)) = true then kvs.map (fun kv => if kv.1 = k then (kv.1, v) else kv) else kvs ++ [(k, v)]
def dropD {κ α : Type} [DecidableEq κ] (kvs : List (κ × α)) (k : κ) : List (κ × α) := kvs.filter fun kv => decide (kv.1 ≠ k)
def mtTy : Mt → T → Sto → Bool
  | .popT, x, S => match x with
    | .ref i => match S[i]? with
      | some (.dT _) => true
      | _ => false
    | _ => false
  | _, x, S => match x with
    | .ref i => match S[i]? with
      | some (.lst _) => true
      | _ => false
    | _ => false
def mtF : Mt → T → List T → Sto → Option (T × Sto)
  | .append, .ref i, [t], S => match S[i]? with
    | some (.lst xs) => if xs.length < LIM then some (.non, S.set i (.lst (xs ++ [t]))) else none
    | _ => none
  | .extend, .ref i, [t], S => match S[i]? with
    | some (.lst xs) => match S.items t with
      | some ys => if xs.length + ys.length ≤ LIM then some (.non, S.set i (.lst (xs ++ ys))) else none
      | none => none
    | _ => none
  | .pop0, .ref i, [], S => match S[i]? with
    | some (.lst xs) => match xs[xs.length - 1]? with
      | some t => some (t, S.set i (.lst xs.dropLast))
      | none => none
    | _ => none
  | .popT, .ref i, [k, d], S => match S[i]? with
    | some (.dT kvs) => match T.keyT k with
      | some ks => match lookK kvs ks with
        | some t => some (t, S.set i (.dT (dropD kvs ks)))
        | none => some (d, S)
      | none => none
    | _ => none
  | _, _, _, _ => none
/-- a[b] = v -/
def putI (v a b : T) (S : Sto) : Option Sto := match a with
  | .ref i => match S[i]? with
    | some (.lst xs) => match b with
      | .int k => match ixN xs.length k with
        | some j => some (S.set i (.lst (xs.set j v)))
        | none => none
      | _ => none
    | some (.dK kvs) => match T.key b with
      | some k => if kvs.length < LIM then some (S.set i (.dK (putD kvs k v))) else none
      | none => none
    | some (.dT kvs) => match T.keyT b with
      | some k => if kvs.length < LIM then some (S.set i (.dT (putD kvs k v))) else none
      | none => none
    | none => none
  | _ => none
/-! ### evaluation -/
def E.isNop : E → Bool
  | .nop => true
  | _ => false
/-- a slice's bound -/
def partE (nop : Bool) (f : SE) : SE := if nop then fun _ S => some (.ok .non, S) else bindE f fun t => match t with
  | .int i => fun _ S => some (.ok (.int i), S)
  | _ => fun _ _ => none
def retE (t : T) : SE := fun _ S => some (.ok t, S)
def noneE : SE := fun _ _ => none
def boolE (o : Option Bool) : SE := match o with
  | some b => retE (.bl b)
  | none => noneE
def condE (nop : Bool) (f : SE) : SE := if nop then retE (.bl true) else f
/-- an exception within is not met here -/
def noErr (f : SE) : SE := fun l S => match f l S with
  | some (.ok t, S') => some (.ok t, S')
  | _ => none
def asgTup : List Nat → List T → Lo → Option Lo
  | [], [], l => some l
  | i :: is, t :: ts, l => asgTup is ts (l.set i (some t))
  | _, _, _ => none
def asgTg : Tg → T → Lo → Option Lo
  | .name i, t, l => some (l.set i (some t))
  | .tup is, .tup ts, l => asgTup is ts l
  | .tup _, _, _ => none
def enumT : Nat → List T → List T
  | _, [] => []
  | k, t :: r => .tup [.int k, t] :: enumT (k + 1) r
def zipT : List T → List T → List T
  | t :: r, u :: q => .tup [t, u] :: zipT r q
  | _, _ => []
/-- what an iterator walks -/
def srcItems (d : T) (S : Sto) : Option (List T) := match d with
  | .tup [.int _, x] => S.seq x
  | .tup [.non, .lst xs] => some xs
  | .tup [.bl _, x] => (S.seq x).map (enumT 0)
  | .tup [.bl _, x, y] => match S.seq x, S.seq y with
    | some xs, some ys => some (zipT xs ys)
    | _, _ => none
  | _ => none
def isRefT : T → Bool
  | .ref _ => true
  | _ => false
def srcRef : T → Bool
  | .tup [.int _, x] => isRefT x
  | .tup [.bl _, x] => isRefT x
  | .tup [.bl _, x, y] => isRefT x || isRefT y
  | _ => false
def okSrc (d : T) (items : List T) (S : Sto) : Bool := if srcRef d then (match srcItems d S with
  | some ys => T.sames ys items
  | none => false) else true
/-- a comprehension's turns -/
def compL (tg : Tg) (cond : SE) (elt : SE) (src : T) (items : List T) (l0 : Lo) : List T → Sto → Option (List T × Sto)
  | [], S => if okSrc src items S then some ([], S) else none
  | t :: r, S => if okSrc src items S then
      match asgTg tg t l0 with
      | none => none
      | some l1 => match cond l1 S with
        | some (.ok (.bl true), S1) => match elt l1 S1 with
          | some (.ok v, S2) => match compL tg cond elt src items l0 r S2 with
            | some (vs, S3) => some (v :: vs, S3)
            | none => none
          | _ => none
        | some (.ok (.bl false), S1) => compL tg cond elt src items l0 r S1
        | _ => none
    else none
def compE (nw : Bool) (own : List Nat) (tg : Tg) (it cond elt : SE) : SE := fun l S => match it l S with
  | some (.ok src, S1) => match srcItems src S1 with
    | some items => if items.length ≤ LIM then
        match compL tg cond elt src items (wipeL l own) items S1 with
        | some (vs, S2) => outR nw (some (.fresh vs)) l S2
        | none => none
      else none
    | none => none
  | some (.err x, S1) => some (.err x, S1)
  | none => none
def intRange (lo hi : Int) : List T := (List.range (hi - lo).toNat).map fun i => .int (lo + (i : Nat))
def rngBounds : List T → Option (Int × Int)
  | [.int j] => some (0, j)
  | [.int i, .int j] => some (i, j)
  | _ => none
def rngF (ts : List T) : Option (List T) := match ts with
  | [.int i, .int j, .int c] => if c = -1 ∧ -(2 ^ 62) ≤ i ∧ i < 2 ^ 62 ∧ -(2 ^ 62) ≤ j ∧ j < 2 ^ 62 then some ((List.range (i - j).toNat).map fun k => .int (i - (k : Nat))) else none
  | ts => match rngBounds ts with
    | some (lo, hi) => if -(2 ^ 62) ≤ lo ∧ lo < 2 ^ 62 ∧ -(2 ^ 62) ≤ hi ∧ hi < 2 ^ 62 then some (intRange lo hi) else none
    | none => none
def argsE (f : SE) (g : List T → SE) : SE := bindE f fun t => match t with
  | .lst ts => g ts
  | _ => noneE
def callE (keep : Bool) (F : FnS) (ts : List T) : SE := fun _ S => if keep then F ts S else frzR S.length (F ts S)
def ev : E → SE
  | .var i => fun l S => match l[i]? with
    | some (some t) => some (.ok t, S)
    | _ => none
  | .gc _ t => retE t
  | .int i => retE (.int i)
  | .str s => retE (.str s)
  | .bl b => retE (.bl b)
  | .non => retE .non
  | .bin nw op a b => binE nw (binF op) (ev a) (ev b)
  | .neg a => bindE (ev a) fun t => match t with
    | .int i => retE (.int (-i))
    | _ => noneE
  | .not a => bindE (ev a) fun t => match t with
    | .bl b => retE (.bl (!b))
    | _ => noneE
  | .cmp op a b => binE false (cmpF op) (ev a) (ev b)
  | .chain p q a b c => bindE (ev a) fun x => bindE (ev b) fun y => fun l S => match cmpB p x y S with
    | some true => bindE (ev c) (fun z => fun l S => outR false (cmpF q y z S) l S) l S
    | some false => some (.ok (.bl false), S)
    | none => none
  | .inr ng a args => bindE (ev a) fun x => argsE (ev args) fun ts => match x, rngBounds ts with
    | .int i, some (lo, hi) => if -(2 ^ 62) ≤ lo ∧ lo < 2 ^ 62 ∧ -(2 ^ 62) ≤ hi ∧ hi < 2 ^ 62 then retE (.bl (if ng then !decide (lo ≤ i ∧ i < hi) else decide (lo ≤ i ∧ i < hi))) else noneE
    | _, _ => noneE
  | .and a b => bindE (ev a) fun t => match t with
    | .bl true => ev b
    | .bl false => retE (.bl false)
    | _ => noneE
  | .or a b => bindE (ev a) fun t => match t with
    | .bl true => retE (.bl true)
    | .bl false => ev b
    | _ => noneE
  | .one a => ev a
  | .ite c a b => bindE (ev c) fun t => match t with
    | .bl true => ev a
    | .bl false => ev b
    | _ => noneE
  | .nil => retE (.lst [])
  | .cons a r => bindE (ev a) fun x => argsE (ev r) fun ts => retE (.lst (x :: ts))
  | .tup args => argsE (ev args) fun ts => if ts.length ≤ LIM then retE (.tup ts) else noneE
  | .lst nw args => argsE (ev args) fun ts => fun l S => if ts.length ≤ LIM then outR nw (some (.fresh ts)) l S else none
  | .dnew t nw => fun _ S => if t then (if nw then some (.ok (.ref S.length), S ++ [.dT []]) else some (.ok (.dT []), S)) else (if nw then some (.ok (.ref S.length), S ++ [.dK []]) else some (.ok (.dK []), S))
  | .idx a b => bindE (ev a) fun x => bindE (ev b) fun y => fun l S => match idxF x y S with
    | some t => some (.ok t, S)
    | none => none
  | .sl nw a lo hi => bindE (ev a) fun x => bindE (partE lo.isNop (ev lo)) fun i => bindE (partE hi.isNop (ev hi)) fun j => fun l S => match partF i, partF j with
    | some i, some j => outR nw (slF x i j S) l S
    | _, _ => none
  | .rev nw a => bindE (ev a) fun x => fun l S => outR nw (revF x S) l S
  | .nop => retE .non
  | .call keep _ F args => argsE (ev args) fun ts => callE keep F ts
  | .bi nw b args => argsE (ev args) fun ts => fun l S => outR nw (biF b ts S) l S
  | .isi a ty => bindE (ev a) fun x => fun l S => boolE (isiF ty x S) l S
  | .comp nw own tg it cond elt => compE nw (own.map (·.2)) tg (ev it) (condE cond.isNop (ev cond)) (ev elt)
  | .seq a => bindE (ev a) fun x => retE (.tup [.int 0, x])
  | .rng args => argsE (ev args) fun ts => match rngF ts with
    | some xs => retE (.tup [.non, .lst xs])
    | none => noneE
  | .enum a => bindE (ev a) fun x => retE (.tup [.bl false, x])
  | .zip a b => bindE (ev a) fun x => bindE (ev b) fun y => retE (.tup [.bl true, x, y])
  | .meth m o args => bindE (ev o) fun x => fun l S => if mtTy m x S then argsE (ev args) (fun ts => fun _ S => match mtF m x ts S with
    | some (t, S') => some (.ok t, S')
    | none => none) l S else none
end TL

/-! TL: argument lists, calls, freezing. -/
namespace TL
open PySem PySem.Spec PyProof.Rows L2

/-! ### syntax -/
def notStar : Expr → Bool
  | .Starred .. => false
  | _ => true
def notComp : Expr → Bool
  | .ListComp .. => false
  | .SetComp .. => false
  | .DictComp .. => false
  | _ => true
theorem star_cons {e : Expr} {es : List Expr} {env : Env} (h : notStar e = true) : starEach (e :: es) env = (false, eval e env) :: starEach es env := by
  cases e <;> first | rfl | cases h
theorem star_none {env : Env} {pos : Pos} : ∀ {es : List Expr}, es.all notStar = true → (backTo pos (starEach es env)).any (·.1) = false := by
  have base : ∀ {es : List Expr}, es.all notStar = true → ∀ x ∈ starEach es env, x.1 = false := by
    intro es
    induction es with
    | nil => intro _ x hx; cases hx
    | cons e es ih =>
      intro h x hx
      simp only [List.all_cons, Bool.and_eq_true] at h
      rw [star_cons h.1] at hx
      rcases List.mem_cons.mp hx with rfl | hx
      · rfl
      · exact ih h.2 x hx
  intro es h
  rw [List.any_eq_false]
  intro x hx
  have hm : ∃ y ∈ starEach es env, y.1 = x.1 := by
    unfold backTo at hx
    rw [List.mem_map] at hx
    obtain ⟨y, hy, rfl⟩ := hx
    exact ⟨y, hy, rfl⟩
  obtain ⟨y, hy, e⟩ := hm
  rw [← e, base h y hy]
  simp

/-! ### argument lists -/
section
variable (K : PySem.W.Frag) (XR : XRel) (W : WX)
def PostA (Z : Addr → Prop) (ι : Nat → Addr) (n : Nat) (H : Hp) (σ : L2.St) (Q : List V → Hp → Prop) : Option (Res × Sto) → Prop
  | some (.ok (.lst ts), S') => ∀ ι' H' vs, Step ι n H ι' S'.length H' → Rel K Z ι' S' H' → IsAll K Z H' ι' S'.length vs ts → Q vs H'
  | some (.err x, S') => ∀ ι' H' cls d, Step ι n H ι' S'.length H' → Rel K Z ι' S' H' → XR Z x cls d H' ι' S'.length → W cls d σ H'
  | _ => False
def liftA (f : SE) : TA := fun σ H Q => ∃ (Z : Addr → Prop) (ι : Nat → Addr) (S : Sto) (l : Lo), Rel K Z ι S H ∧ Sl K Z H ι S.length σ l ∧ PostA K XR W Z ι S.length H σ Q (f l S)
/-- what hangs on a list of values -/
def liftL (xs : List V) (f : List T → SE) : L2.St → Hp → VK → Prop := liftK K XR W xs f
end
section
variable {K : PySem.W.Frag} {XR : XRel} {W : WX} {Z : Addr → Prop}
theorem PostA.of_step {ι ι1 : Nat → Addr} {n n1 : Nat} {H H1 : Hp} {σ : L2.St} {Q : List V → Hp → Prop} (s : Step ι n H ι1 n1 H1) : ∀ {o : Option (Res × Sto)}, PostA K XR W Z ι n H σ Q o → PostA K XR W Z ι1 n1 H1 σ Q o
  | none, h => h
  | some (.ok (.lst ts), S'), h => fun ι' H' v st R i => h ι' H' v (s.trans st) R i
  | some (.err x, S'), h => fun ι' H' cls d st R i => h ι' H' cls d (s.trans st) R i
  | some (.ok .non, S'), h => h
  | some (.ok (.bl _), S'), h => h
  | some (.ok (.int _), S'), h => h
  | some (.ok (.str _), S'), h => h
  | some (.ok (.tup _), S'), h => h
  | some (.ok (.dK _), S'), h => h
  | some (.ok (.dT _), S'), h => h
  | some (.ok (.ref _), S'), h => h
  | some (.ok (.scr _), S'), h => h
/-- the arguments first, then what is done with them -/
theorem args_bind {xs : List V} {f : SE} {g : List T → List T → SE} {σ : L2.St} {H : Hp} {Q : VK} (h : liftK K XR W xs (fun ts => argsE f (g ts)) σ H Q) :
    liftA K XR W f σ H (fun vs H1 => ∃ (n : Nat), n = vs.length ∧ liftK K XR W (vs ++ xs) (fun ts => g (ts.drop n) (ts.take n)) σ H1 Q) := by
  obtain ⟨Z, ι, S, l, ts, R, sl, ia, p⟩ := h
  refine ⟨Z, ι, S, l, R, sl, ?_⟩
  simp only [argsE, bindE] at p
  cases e : f l S with
  | none => rw [e] at p; exact p
  | some r =>
    obtain ⟨r, S'⟩ := r
    rw [e] at p
    cases r with
    | err x => exact p
    | ok t =>
      cases t with
      | lst us =>
        intro ι' H' vs st R' i
        refine ⟨_, rfl, Z, ι', S', l, us ++ ts, R', Sl.step R st sl, i.append (IsAll.step R st ia), ?_⟩
        have e1 : (us ++ ts).drop vs.length = ts := by rw [i.length]; simp
        have e2 : (us ++ ts).take vs.length = us := by rw [i.length]; simp
        show Post K XR W Z ι' S'.length H' σ Q (g _ _ l S')
        rw [e1, e2]
        exact p.of_step st
      | _ => exact p.elim
theorem args_bind0 {f : SE} {g : List T → SE} {σ : L2.St} {H : Hp} {Q : VK} (h : liftE K XR W (argsE f g) σ H Q) :
    liftA K XR W f σ H (fun vs H1 => liftK K XR W vs g σ H1 Q) := by
  obtain ⟨Z, ι, S, l, ts, R, sl, ia, p⟩ := h
  refine ⟨Z, ι, S, l, R, sl, ?_⟩
  simp only [argsE, bindE] at p
  cases e : f l S with
  | none => rw [e] at p; exact p
  | some r =>
    obtain ⟨r, S'⟩ := r
    rw [e] at p
    cases r with
    | err x => exact p
    | ok t =>
      cases t with
      | lst us =>
        intro ι' H' vs st R' i
        exact ⟨Z, ι', S', l, us, R', Sl.step R st sl, i, p.of_step st⟩
      | _ => exact p.elim
/-- .. of a known number -/
theorem args_bindN {f : SE} {g : List T → SE} {σ : L2.St} {H : Hp} {Q : VK} {n : Nat} (hl : ∀ l S ts S', f l S = some (.ok (.lst ts), S') → ts.length = n) (h : liftE K XR W (argsE f g) σ H Q) :
    liftA K XR W f σ H (fun vs H1 => vs.length = n ∧ liftK K XR W vs g σ H1 Q) := by
  obtain ⟨Z, ι, S, l, ts, R, sl, ia, p⟩ := h
  refine ⟨Z, ι, S, l, R, sl, ?_⟩
  simp only [argsE, bindE] at p
  cases e : f l S with
  | none => rw [e] at p; exact p
  | some r =>
    obtain ⟨r, S'⟩ := r
    rw [e] at p
    cases r with
    | err x => exact p
    | ok t =>
      cases t with
      | lst us =>
        intro ι' H' vs st R' i
        exact ⟨by rw [i.length]; exact hl _ _ _ _ e, Z, ι', S', l, us, R', Sl.step R st sl, i, p.of_step st⟩
      | _ => exact p.elim
theorem liftA_mono {f : SE} {σ : L2.St} {H : Hp} {Q Q' : List V → Hp → Prop} (hq : ∀ v H, Q v H → Q' v H) (h : liftA K XR W f σ H Q) : liftA K XR W f σ H Q' := by
  obtain ⟨Z, ι, S, l, R, sl, p⟩ := h
  refine ⟨Z, ι, S, l, R, sl, ?_⟩
  cases e : f l S with
  | none => rw [e] at p; exact p
  | some r =>
    obtain ⟨r, S'⟩ := r
    rw [e] at p
    cases r with
    | err x => exact p
    | ok t =>
      cases t with
      | lst us => exact fun ι' H' vs st R' i => hq _ _ (p ι' H' vs st R' i)
      | _ => exact p.elim
/-- no arguments -/
theorem liftA_nil {σ : L2.St} {H : Hp} {Q : List V → Hp → Prop} (h : liftA K XR W (retE (.lst [])) σ H Q) : tNil σ H Q := by
  obtain ⟨Z, ι, S, l, R, sl, p⟩ := h
  exact p ι H [] Step.refl R .nil
/-- one more -/
theorem liftA_cons {fa fr : SE} {σ : L2.St} {H : Hp} {Q : List V → Hp → Prop} (h : liftA K XR W (bindE fa fun x => argsE fr fun ts => retE (.lst (x :: ts))) σ H Q) : tCons (liftE K XR W fa) (liftA K XR W fr) σ H Q := by
  obtain ⟨Z, ι, S, l, R, sl, p⟩ := h
  refine ⟨Z, ι, S, l, [], R, sl, .nil, ?_⟩
  simp only [bindE] at p
  show Post K XR W Z ι S.length H σ _ (fa l S)
  cases e : fa l S with
  | none => rw [e] at p; exact p
  | some r =>
    obtain ⟨r, S'⟩ := r
    rw [e] at p
    cases r with
    | err x => exact p
    | ok t =>
      intro ι' H' v st R' i
      refine ⟨Z, ι', S', l, R', Sl.step R st sl, ?_⟩
      simp only [argsE, bindE] at p
      cases e2 : fr l S' with
      | none => rw [e2] at p; exact p
      | some r2 =>
        obtain ⟨r2, S2⟩ := r2
        rw [e2] at p
        cases r2 with
        | err x => exact PostA.of_step st p
        | ok t2 =>
          cases t2 with
          | lst us =>
            intro ι2 H2 vs st2 R2 i2
            exact p ι2 H2 (v :: vs) (st.trans st2) R2 (.cons (Is.step R' st2 i) i2)
          | _ => exact p.elim
/-- tuples and lists of written items -/
theorem tup_lift {f : SE} {σ : L2.St} {H : Hp} {Q : VK} (h : liftE K XR W (argsE f fun ts => if ts.length ≤ LIM then retE (.tup ts) else noneE) σ H Q) : tTup (liftA K XR W f) σ H Q := by
  refine liftA_mono (fun vs H1 h1 => ?_) (args_bind0 h)
  obtain ⟨Z, ι, S, l, ts, R, sl, ia, p⟩ := h1
  dsimp only at p
  by_cases hl : ts.length ≤ LIM
  · rw [if_pos hl] at p
    refine ⟨by rw [ia.length]; exact Nat.le_trans hl LIM_le, fun a ha => ?_⟩
    exact p ι _ _ (Step.fresh ha) (R.fresh ha) (.tup upd_same (ia.fresh R ha))
  · rw [if_neg hl] at p
    exact p.elim
theorem lst_lift {nw : Bool} {f : SE} {σ : L2.St} {H : Hp} {Q : VK} (h : liftE K XR W (argsE f fun ts => fun l S => if ts.length ≤ LIM then outR nw (some (.fresh ts)) l S else none) σ H Q) : tLst (liftA K XR W f) σ H Q := by
  refine liftA_mono (fun vs H1 h1 => ?_) (args_bind0 h)
  obtain ⟨Z, ι, S, l, ts, R, sl, ia, p⟩ := h1
  dsimp only at p
  by_cases hl : ts.length ≤ LIM
  · rw [if_pos hl] at p
    obtain ⟨r, e, ok⟩ := out_ok R p
    cases e
    exact ⟨by rw [ia.length]; exact Nat.le_trans hl LIM_le, fun a ha => ok _ a ia ha⟩
  · rw [if_neg hl] at p
    exact p.elim

/-! ### freezing -/
section
variable {H : Hp} {ι : Nat → Addr} {n lo : Nat}
mutual
theorem und_ok (hl : lo ≤ n) : ∀ {v : V} {t : T}, Is K Z H ι n v t → T.und lo t = true → Is K Z H ι lo v t
  | _, _, .non, _ => .non
  | _, _, .bl b, _ => .bl b
  | _, _, .int i, _ => .int i
  | _, _, .str x, _ => .str x
  | _, _, .tup h hs, e => .tup h (unds_ok hl hs (by simpa [T.und] using e))
  | _, _, .lst h hn z hs, e => .lst h (fun i hi => hn i (Nat.lt_of_lt_of_le hi hl)) z (unds_ok hl hs (by simpa [T.und] using e))
  | _, _, .scrK h, _ => .scrK h
  | _, _, .scr h hn z, _ => .scr h (fun i hi => hn i (Nat.lt_of_lt_of_le hi hl)) z
  | _, _, .dK h hn z hk hs, e => .dK h (fun i hi => hn i (Nat.lt_of_lt_of_le hi hl)) z hk (undK_ok hl (by simpa using hk) hs (by simpa [T.und] using e))
  | _, _, .dT h hn z hk hs, e => .dT h (fun i hi => hn i (Nat.lt_of_lt_of_le hi hl)) z hk (undT_ok hl (by simpa using hk) hs (by simpa [T.und] using e))
  | _, _, .ref hi, e => .ref (by simpa [T.und] using e)
theorem unds_ok (hl : lo ≤ n) : ∀ {vs : List V} {ts : List T}, IsAll K Z H ι n vs ts → T.unds lo ts = true → IsAll K Z H ι lo vs ts
  | _, _, .nil, _ => .nil
  | _, _, .cons h hs, e => by
    simp only [T.unds, Bool.and_eq_true] at e
    exact .cons (und_ok hl h e.1) (unds_ok hl hs e.2)
theorem undK_ok (hl : lo ≤ n) : ∀ {ks : List Key} {vs : List V} {ts : List T}, ks.length = vs.length → IsAll K Z H ι n vs ts → T.undK lo (ks.zip ts) = true → IsAll K Z H ι lo vs ts
  | _, _, _, _, .nil, _ => .nil
  | [], _, _, hk, .cons h hs, e => by simp at hk
  | k :: ks, _, _, hk, .cons h hs, e => by
    simp only [List.zip_cons_cons, T.undK, Bool.and_eq_true] at e
    exact .cons (und_ok hl h e.1) (undK_ok hl (by simpa using hk) hs e.2)
theorem undT_ok (hl : lo ≤ n) : ∀ {ks : List (List Key)} {vs : List V} {ts : List T}, ks.length = vs.length → IsAll K Z H ι n vs ts → T.undT lo (ks.zip ts) = true → IsAll K Z H ι lo vs ts
  | _, _, _, _, .nil, _ => .nil
  | [], _, _, hk, .cons h hs, e => by simp at hk
  | k :: ks, _, _, hk, .cons h hs, e => by
    simp only [List.zip_cons_cons, T.undT, Bool.and_eq_true] at e
    exact .cons (und_ok hl h e.1) (undT_ok hl (by simpa using hk) hs e.2)
end
mutual
theorem frzW_ok (hl : lo ≤ n) {f : Nat → Option T} (hf : ∀ i u, lo ≤ i → i < n → f i = some u → Is K Z H ι lo (.ref (ι i)) u) : ∀ {v : V} {t u : T}, Is K Z H ι n v t → T.frzW lo f t = some u → Is K Z H ι lo v u
  | _, _, _, .non, e => by cases e; exact .non
  | _, _, _, .bl b, e => by cases e; exact .bl b
  | _, _, _, .int i, e => by cases e; exact .int i
  | _, _, _, .str x, e => by cases e; exact .str x
  | _, _, _, .tup (ts := ts) h hs, e => by
    simp only [T.frzW] at e
    cases q : T.frzWs lo f ts with
    | none => rw [q] at e; cases e
    | some us =>
      rw [q] at e
      cases e
      exact .tup h (frzWs_ok hl hf hs q)
  | _, _, _, .lst (ts := ts) h hn z hs, e => by
    simp only [T.frzW] at e
    cases q : T.frzWs lo f ts with
    | none => rw [q] at e; cases e
    | some us =>
      rw [q] at e
      cases e
      exact .lst h (fun i hi => hn i (Nat.lt_of_lt_of_le hi hl)) z (frzWs_ok hl hf hs q)
  | _, _, _, .scrK h, e => by cases e; exact .scrK h
  | _, _, _, .scr h hn z, e => by cases e; exact .scr h (fun i hi => hn i (Nat.lt_of_lt_of_le hi hl)) z
  | _, _, _, .dK h hn z hk hs, e => by
    simp only [T.frzW] at e
    split at e
    · rename_i q
      cases e
      exact .dK h (fun i hi => hn i (Nat.lt_of_lt_of_le hi hl)) z hk (undK_ok hl hk hs q)
    · cases e
  | _, _, _, .dT h hn z hk hs, e => by
    simp only [T.frzW] at e
    split at e
    · rename_i q
      cases e
      exact .dT h (fun i hi => hn i (Nat.lt_of_lt_of_le hi hl)) z hk (undT_ok hl hk hs q)
    · cases e
  | _, _, _, .ref (i := i) hi, e => by
    simp only [T.frzW] at e
    split at e
    · rename_i q
      cases e
      exact .ref q
    · rename_i q
      exact hf i _ (Nat.le_of_not_lt q) hi e
theorem frzWs_ok (hl : lo ≤ n) {f : Nat → Option T} (hf : ∀ i u, lo ≤ i → i < n → f i = some u → Is K Z H ι lo (.ref (ι i)) u) : ∀ {vs : List V} {ts us : List T}, IsAll K Z H ι n vs ts → T.frzWs lo f ts = some us → IsAll K Z H ι lo vs us
  | _, _, _, .nil, e => by cases e; exact .nil
  | _, _, _, .cons (t := t) (ts := ts) h hs, e => by
    simp only [T.frzWs] at e
    cases q : T.frzW lo f t with
    | none => rw [q] at e; cases e
    | some u =>
      cases q2 : T.frzWs lo f ts with
      | none => rw [q, q2] at e; cases e
      | some us =>
        rw [q, q2] at e
        cases e
        exact .cons (frzW_ok hl hf h q) (frzWs_ok hl hf hs q2)
end
theorem frzI_ok {S : Sto} (R : Rel K Z ι S H) (hl : lo ≤ S.length) : ∀ (k i : Nat) (u : T), lo ≤ i → i < S.length → S.frzI lo k i = some u → Is K Z H ι lo (.ref (ι i)) u
  | 0, _, _, _, _, e => by cases e
  | k + 1, i, u, h1, h2, e => by
    have q : S[i]? = some S[i] := List.getElem?_eq_getElem h2
    have h := R.obj _ _ q
    have nr : ∀ j, j < lo → ι j ≠ ι i := fun j hj z => by
      have := R.inj j i (by omega) h2 z
      omega
    simp only [Sto.frzI, q] at e
    cases ho : S[i] with
    | lst xs =>
      rw [ho] at e h
      dsimp only at e
      cases q2 : T.frzWs lo (S.frzI lo k) xs with
      | none => rw [q2] at e; cases e
      | some us =>
        rw [q2] at e
        cases e
        cases h with
        | lst h hs => exact .lst h nr (R.nz i h2) (frzWs_ok hl (fun j u a b => frzI_ok R hl k j u a b) hs q2)
    | dK l =>
      rw [ho] at e h
      dsimp only at e
      split at e
      · rename_i q2
        cases e
        cases h with
        | dK h hk hs => exact .dK h nr (R.nz i h2) hk (undK_ok hl hk hs q2)
      · cases e
    | dT l =>
      rw [ho] at e h
      dsimp only at e
      split at e
      · rename_i q2
        cases e
        cases h with
        | dT h hk hs => exact .dT h nr (R.nz i h2) hk (undT_ok hl hk hs q2)
      · cases e
theorem Rel.take {S : Sto} (R : Rel K Z ι S H) (hl : lo ≤ S.length) (hu : (S.take lo).all (Ob.und lo) = true) : Rel K Z ι (S.take lo) H := by
  have hlen : (S.take lo).length = lo := by simp [Nat.min_eq_left hl]
  refine ⟨fun i j hi hj e => R.inj i j (by omega) (by omega) e, fun i o e => ?_, R.zt, fun i hi => R.nz i (by omega)⟩
  have hi : i < lo := by
    have := (List.getElem?_eq_some_iff.mp e).1
    omega
  have e' : S[i]? = some o := by rw [List.getElem?_take] at e; rw [if_pos hi] at e; exact e
  have ho : Ob.und lo o = true := by
    rw [List.all_eq_true] at hu
    exact hu o (List.mem_of_getElem? e)
  rw [hlen]
  cases R.obj i o e' with
  | lst h hs => exact .lst h (unds_ok hl hs (by simpa [Ob.und] using ho))
  | dK h hk hs => exact .dK h hk (undK_ok hl hk hs (by simpa [Ob.und] using ho))
  | dT h hk hs => exact .dT h hk (undT_ok hl hk hs (by simpa [Ob.und] using ho))
theorem Step.less {ι' : Nat → Addr} {n' : Nat} {H' : Hp} (s : Step ι lo H ι' n' H') : Step ι lo H ι' lo H' :=
  ⟨Nat.le_refl _, s.ext, fun i h1 h2 => absurd h2 (Nat.not_lt.mpr h1), s.keep, s.there⟩
end

/-! ### calls -/
/-- the module and what runs it -/
structure Md where
  prog : Program
  w : World
  K : PySem.W.Frag
  mg : Str → Option Value
  base : Heap
def mdOf (X : Cx) : Md := ⟨X.prog, X.w, X.K, X.mg, X.base⟩
/-- how exceptions lie may not hang on the forgotten -/
def XOk (K : PySem.W.Frag) (XR : XRel) : Prop := ∀ Z x cls d H ι n lo, lo ≤ n → x.fs.all (fun p => T.und lo p.2) = true → XR Z x cls d H ι n → XR Z x cls d H ι lo
/-- a def's promise by trees -/
def spT (K : PySem.W.Frag) (XR : XRel) (ar : Nat) (F : FnS) : Sp := fun vs H Q E => vs.length = ar ∧ ∃ (Z : Addr → Prop) (ι : Nat → Addr) (S : Sto) (ts : List T), Rel K Z ι S H ∧ IsAll K Z H ι S.length vs ts ∧
  match F ts S with
  | none => False
  | some (.ok t, S') => ∀ ι' H' v, Step ι S.length H ι' S'.length H' → Rel K Z ι' S' H' → Is K Z H' ι' S'.length v t → Q v H'
  | some (.err x, S') => ∀ ι' H' cls d, Step ι S.length H ι' S'.length H' → Rel K Z ι' S' H' → XR Z x cls d H' ι' S'.length → E cls d H'
def FnNeed (M : Md) (XR : XRel) (lv : Nat) (x : Str) (ar : Nat) (F : FnS) : Prop :=
  ∃ (f : Addr) (fd : FuncData) (ps : List Str) (k : Nat), k ≤ lv ∧ FnOk M.prog M.w M.K M.mg M.base (L2.CX M.prog M.w) k f fd ps (spT M.K XR ar F) ∧ M.mg x = some (.ref f) ∧ PySem.W.keepIn M.K (.ref f) = true ∧ Binds M.K fd ps []
theorem call_post {keep : Bool} {F : FnS} {ts : List T} {ι : Nat → Addr} {S : Sto} {l : Lo} {H : Hp} {σ : L2.St} {Q : VK} {vs : List V} (xo : XOk K XR) (R : Rel K Z ι S H) (ia : IsAll K Z H ι S.length vs ts) (p : Post K XR W Z ι S.length H σ Q (callE keep F ts l S)) :
    spT K XR vs.length F vs H Q (WE W σ) := by
  refine ⟨rfl, Z, ι, S, ts, R, ia, ?_⟩
  simp only [callE] at p
  cases keep with
  | true =>
    simp only [if_true] at p
    cases e : F ts S with
    | none => rw [e] at p; exact p
    | some r =>
      obtain ⟨r, S'⟩ := r
      rw [e] at p
      cases r with
      | ok t => exact p
      | err x => exact p
  | false =>
    simp only [Bool.false_eq_true, if_false] at p
    cases e : F ts S with
    | none => rw [e] at p; exact p
    | some r =>
      obtain ⟨r, S'⟩ := r
      rw [e] at p
      cases r with
      | ok t =>
        intro ι' H' v st R' i
        simp only [frzR] at p
        split at p
        · rename_i hu
          cases q : T.frzW S.length (S'.frzI S.length 4) t with
          | none => rw [q] at p; exact p.elim
          | some u =>
            rw [q] at p
            have hl := st.le
            have hlen : (S'.take S.length).length = S.length := by simp [Nat.min_eq_left hl]
            exact p ι' H' v (by rw [hlen]; exact st.less) (R'.take hl hu) (by rw [hlen]; exact frzW_ok hl (fun j u a b => frzI_ok R' hl 4 j u a b) i q)
        · exact p.elim
      | err x =>
        intro ι' H' cls d st R' i
        simp only [frzR] at p
        split at p
        · rename_i hu
          rw [Bool.and_eq_true] at hu
          have hl := st.le
          have hlen : (S'.take S.length).length = S.length := by simp [Nat.min_eq_left hl]
          exact p ι' H' cls d (by rw [hlen]; exact st.less) (R'.take hl hu.1) (by rw [hlen]; exact xo _ _ _ _ _ _ _ _ hl hu.2 i)
        · exact p.elim
end
end TL

/-! TL: sorted of lists of tuples of numbers, of any length. -/
namespace TL
open PySem PySem.Spec PyProof.Rows L2 Srt SrtO

def IsTupI (h : Heap) (v : Value) (ns : List Int) : Prop := ∃ a o items n, v = .ref a ∧ h.get? a = some o ∧ o.cls = .type "tuple" ∧ o.data = .seq items n ∧ IntsAre items.toList ns ∧ ns ≠ []
theorem IsTupI.keeps {h h' : Heap} {v : Value} {ns : List Int} (p : IsTupI h v ns) (k : ∀ b o, h.get? b = some o → o.cls = .type "tuple" → h'.get? b = some o) : IsTupI h' v ns := by
  obtain ⟨a, o, t, n, e, ho, hc, hd, hi, hn⟩ := p
  exact ⟨a, o, t, n, e, k _ _ ho hc, hc, hd, hi, hn⟩
theorem lexLt_irrefl : ∀ ns : List Int, HT.lexLt ns ns = false
  | [] => rfl
  | x :: xs => by rw [HT.lexLt_cons, if_pos rfl]; exact lexLt_irrefl xs
theorem lexLt_iff_cons {x y : Int} {xs ys : List Int} : HT.lexLt (x :: xs) (y :: ys) = true ↔ x < y ∨ (x = y ∧ HT.lexLt xs ys = true) := by
  rw [HT.lexLt_cons]
  by_cases e : x = y
  · rw [if_pos e]
    constructor
    · exact fun h => .inr ⟨e, h⟩
    · rintro (h | h)
      · omega
      · exact h.2
  · rw [if_neg e, decide_eq_true_eq]
    constructor
    · exact fun h => .inl h
    · rintro (h | h)
      · exact h
      · exact absurd h.1 e
theorem lexLt_asymm : ∀ {a b : List Int}, HT.lexLt a b = true → HT.lexLt b a = false
  | [], [], h => by cases h
  | [], _ :: _, _ => rfl
  | _ :: _, [], h => by cases h
  | x :: xs, y :: ys, h => by
    rcases lexLt_iff_cons.mp h with h | ⟨e, h⟩
    · cases q : HT.lexLt (y :: ys) (x :: xs) with
      | false => rfl
      | true =>
        rcases lexLt_iff_cons.mp q with q | ⟨q, _⟩ <;> omega
    · cases q : HT.lexLt (y :: ys) (x :: xs) with
      | false => rfl
      | true =>
        rcases lexLt_iff_cons.mp q with q | ⟨_, q⟩
        · omega
        · rw [lexLt_asymm h] at q; cases q
theorem lexLt_conn : ∀ {a b : List Int}, HT.lexLt a b = false → HT.lexLt b a = false → a = b
  | [], [], _, _ => rfl
  | [], _ :: _, h, _ => by cases h
  | _ :: _, [], _, h => by cases h
  | x :: xs, y :: ys, h1, h2 => by
    have n1 : ¬ (x < y ∨ (x = y ∧ HT.lexLt xs ys = true)) := fun z => by rw [lexLt_iff_cons.mpr z] at h1; cases h1
    have n2 : ¬ (y < x ∨ (y = x ∧ HT.lexLt ys xs = true)) := fun z => by rw [lexLt_iff_cons.mpr z] at h2; cases h2
    have e : x = y := by omega
    have a1 : HT.lexLt xs ys = false := by
      cases q : HT.lexLt xs ys with
      | false => rfl
      | true => exact absurd (.inr ⟨e, q⟩) n1
    have a2 : HT.lexLt ys xs = false := by
      cases q : HT.lexLt ys xs with
      | false => rfl
      | true => exact absurd (.inr ⟨e.symm, q⟩) n2
    rw [e, lexLt_conn a1 a2]
theorem lexLt_trans : ∀ {a b c : List Int}, HT.lexLt a b = true → HT.lexLt b c = true → HT.lexLt a c = true
  | [], [], _, h, _ => by cases h
  | [], _ :: _, [], _, h => by cases h
  | [], _ :: _, _ :: _, _, _ => rfl
  | _ :: _, [], _, h, _ => by cases h
  | _ :: _, _ :: _, [], _, h => by cases h
  | x :: xs, y :: ys, z :: zs, h1, h2 => by
    rcases lexLt_iff_cons.mp h1 with h1 | ⟨e1, h1⟩ <;> rcases lexLt_iff_cons.mp h2 with h2 | ⟨e2, h2⟩
    · exact lexLt_iff_cons.mpr (.inl (by omega))
    · exact lexLt_iff_cons.mpr (.inl (by omega))
    · exact lexLt_iff_cons.mpr (.inl (by omega))
    · exact lexLt_iff_cons.mpr (.inr ⟨by omega, lexLt_trans h1 h2⟩)
/-- not less, through a third -/
theorem lexLt_neg {a b c : List Int} (h1 : HT.lexLt b a = false) (h2 : HT.lexLt c b = false) : HT.lexLt c a = false := by
  cases q : HT.lexLt c a with
  | false => rfl
  | true =>
    cases q2 : HT.lexLt a b with
    | true => rw [lexLt_trans q q2] at h2; cases h2
    | false =>
      have := lexLt_conn q2 h1
      subst this
      rw [q] at h2; cases h2
theorem swo_lexI (k : Value → List Int) : Swo fun v u => HT.lexLt (k v) (k u) := ⟨fun x y h => lexLt_asymm h, fun x y z h1 h2 => lexLt_neg h1 h2⟩
section
variable {prog : Program} {w : World} {A : Around} {E : Value → Shared → Prop} {s : Shared}
theorem katLex_ints {b fin : Bool} {Q : Bool → Shared → Prop} : ∀ {vs us : List Value} {ns ms : List Int} (i : Nat), IntsAre vs ns → IntsAre us ms → fin = decide (vs.length < us.length) → Q (HT.lexLt ns ms) s → PySem.W.KatLex prog w A b fin Q (vs.zip us) i s
  | [], [], _, _, _, .nil, .nil, hf, h => by
    rw [hf]; exact PySem.W.kat_nil h
  | [], _ :: _, _, _, _, .nil, .cons _ _ _, hf, h => by
    rw [hf]; exact PySem.W.kat_nil (by simpa [HT.lexLt_nil_cons] using h)
  | _ :: _, [], _, _, _, .cons _ _ _, .nil, hf, h => by
    rw [hf]; exact PySem.W.kat_nil (by simpa [HT.lexLt_cons_nil] using h)
  | _ :: vs, _ :: us, _, _, i, .cons (ns := ns) x t hv, .cons (ns := ms) y u hu, hf, h => by
    show PySem.W.KatLex prog w A b fin Q ((.int x t, .int y u) :: vs.zip us) i s
    refine PySem.W.kat_cons (SeqAt.EqAt.int_int x t y u prog w _ _ ?_)
    refine PySem.W.kat_go (fun e1 => ?_) (fun e1 => ?_)
    · have ex : x = y := by simpa using e1
      refine PySem.W.kat_yes (katLex_ints (i + 1) hv hu (by rw [hf]; simp) ?_)
      rw [HT.lexLt_cons, if_pos ex] at h
      exact h
    · have ex : ¬ x = y := by simpa using e1
      rw [HT.lexLt_cons, if_neg ex] at h
      refine PySem.W.kat_no ?_
      cases q : (b && i == 0) with
      | true => exact oneLt_int h
      | false => exact PySem.W.kat_one _ _ (PyProof.Rows.lt_int h)
theorem tups_cmp {vs : List Value} {k : Value → List Int} (hp : ∀ v ∈ vs, IsTupI s.heap v (k v)) : Cmp prog w A s (tuples' true) (fun p => p.1 ∈ vs) (lt2 fun v u => HT.lexLt (k v) (k u)) := by
  intro p q hm hm'
  obtain ⟨a, o, t, n, e, ho, hc, hd, hi, _⟩ := hp _ hm
  obtain ⟨a', o', t', n', e', ho', hc', hd', hi', _⟩ := hp _ hm'
  show wpAny (model prog w) A (keyLt' (tuples' true) p.1 q.1) (fun r s' => s' = s ∧ r = HT.lexLt (k p.1) (k q.1)) (fun _ _ => False) s
  generalize k p.1 = ns at hi ⊢
  generalize k q.1 = ms at hi' ⊢
  rw [e, e']
  exact PySem.W.kat_lt ho hd ho' hd' (katLex_ints 0 hi hi' (by simp) ⟨rfl, rfl⟩)
theorem firsts_ofI {h : Heap} {k : Value → List Int} : ∀ {vs : List Value}, (∀ v ∈ vs, IsTupI h v (k v)) → ∃ fs, PySem.W.KatTups h vs fs ∧ fs.length = vs.length ∧ ∀ f ∈ fs, ∃ x t, f = Value.int x t
  | [], _ => ⟨[], .nil, rfl, fun _ h => nomatch h⟩
  | v :: vs, hv => by
    obtain ⟨fs, h1, h2, h3⟩ := firsts_ofI fun u hu => hv u (List.mem_cons_of_mem _ hu)
    obtain ⟨a, o, xs, n, rfl, ho, hc, hd, hi, hn⟩ := hv v List.mem_cons_self
    generalize k (Value.ref a) = ns at hi hn
    obtain ⟨l⟩ := xs
    cases hi with
    | nil => exact absurd rfl hn
    | cons x t r =>
      refine ⟨.int x t :: fs, .cons ho hc hd rfl h1, by simp [h2], fun f hf => ?_⟩
      rcases List.mem_cons.mp hf with rfl | hf
      · exact ⟨_, _, rfl⟩
      · exact h3 f hf
theorem tups_sortable {a : Addr} {vs : List Value} {k : Value → List Int} (h0 : 0 < vs.length) (hp : ∀ v ∈ vs, IsTupI s.heap v (k v)) (ha : ∀ o, s.heap.get? a = some o → o.cls ≠ .type "tuple") : SortableO prog w A s a vs fun v u => HT.lexLt (k v) (k u) := by
  intro h' keep
  have hp' : ∀ v ∈ vs, IsTupI h' v (k v) := fun v hm => (hp v hm).keeps fun b o e c => keep b o (fun z => by subst z; exact ha o e c) e
  obtain ⟨fs, h1, h2, h3⟩ := firsts_ofI hp'
  refine ⟨tuples' true, fun Q E hq => ?_, tups_cmp hp'⟩
  refine PySem.W.kat_kind (T := .type "int") h1 (by omega) (fun f hm => ?_) (by rfl) ?_
  · obtain ⟨x, t, rfl⟩ := h3 f hm
    exact PySem.W.Looks.now
  · have e : (Value.type "int" != Value.type "tuple") = true := by first | decide +kernel | rfl | decide
    rw [e]
    exact hq
theorem sorted_tupsI {l : Addr} {vs : List Value} {k : Value → List Int} {Q : Value → Shared → Prop} (hl : s.heap.IsList l vs.toArray) (hz : vs.length ≤ sizeLine) (hp : ∀ v ∈ vs, IsTupI s.heap v (k v))
    (h : ∀ (h' : Heap) (d : Addr) (out : List Value), Srtd (fun v u => HT.lexLt (k v) (k u)) out → Stb (fun v u => HT.lexLt (k v) (k u)) out vs → (∀ b o, s.heap.get? b = some o → h'.get? b = some o) → s.heap.objs.size ≤ d → (∃ n, h'.get? d = some (seqObj "list" out.toArray n)) → Q (.ref d) { s with heap := h' }) :
    wpAny (model prog w) A (call (.builtin "sorted") [.ref l]) Q E s := by
  refine sorted_ord (swo_lexI k) hl hz (fun h2 h₁ a ha kk => ?_) fun out hs hb => ?_
  · refine tups_sortable (s := { s with heap := h₁ }) (by omega) (fun v hm => (hp v hm).keeps fun b o e _ => (kk b o e).2) fun o e => ?_
    have e' : some o = some (seqObj "list" vs.toArray 0) := e.symm.trans ha
    cases e'
    intro c
    exact absurd (Value.type.inj c) (by decide)
  · exact h _ _ out hs hb (fun b o e => sortedAll_old e) (Nat.le_succ _) (sortedAll_at s.heap vs out.toArray)
end

/-! ### the one sorted list -/
theorem insL_perm (x : List Int) : ∀ l : List (List Int), (insL x l).Perm (x :: l)
  | [] => .refl _
  | y :: r => by
    unfold insL
    split
    · exact ((insL_perm x r).cons y).trans (.swap x y r)
    · exact .refl _
theorem sortL_perm : ∀ l : List (List Int), (sortL l).Perm l
  | [] => .refl _
  | x :: r => (insL_perm x (sortL r)).trans ((sortL_perm r).cons x)
def SrtL (l : List (List Int)) : Prop := l.Pairwise fun a b => HT.lexLt b a = false
theorem insL_sorted (x : List Int) : ∀ {l : List (List Int)}, SrtL l → SrtL (insL x l)
  | [], _ => List.pairwise_singleton _ _
  | y :: r, h => by
    have h' := List.pairwise_cons.mp h
    unfold insL
    split
    · rename_i q
      refine List.pairwise_cons.mpr ⟨fun z hz => ?_, insL_sorted x h'.2⟩
      rcases List.mem_cons.mp ((insL_perm x r).mem_iff.mp hz) with rfl | hz
      · exact lexLt_asymm q
      · exact h'.1 z hz
    · rename_i q
      have q : HT.lexLt y x = false := by simpa using q
      refine List.pairwise_cons.mpr ⟨fun z hz => ?_, h⟩
      rcases List.mem_cons.mp hz with rfl | hz
      · exact q
      · exact lexLt_neg q (h'.1 z hz)
theorem sortL_sorted : ∀ l : List (List Int), SrtL (sortL l)
  | [] => .nil
  | x :: r => insL_sorted x (sortL_sorted r)
theorem srtL_unique : ∀ {l m : List (List Int)}, SrtL l → SrtL m → l.Perm m → l = m
  | [], m, _, _, p => by simpa using p.symm.eq_nil
  | a :: l, [], _, _, p => by simpa using p.eq_nil
  | a :: l, b :: m, h1, h2, p => by
    have h1' := List.pairwise_cons.mp h1
    have h2' := List.pairwise_cons.mp h2
    have e : a = b := by
      rcases List.mem_cons.mp (p.mem_iff.mp List.mem_cons_self) with e | ha
      · exact e
      · rcases List.mem_cons.mp (p.mem_iff.mpr List.mem_cons_self) with e | hb
        · exact e.symm
        · exact lexLt_conn (h2'.1 a ha) (h1'.1 b hb)
    subst e
    rw [srtL_unique h1'.2 h2'.2 ((List.perm_cons a).mp p)]
theorem insI_perm (x : Int) : ∀ l : List Int, (insI x l).Perm (x :: l)
  | [] => .refl _
  | y :: r => by
    unfold insI
    split
    · exact ((insI_perm x r).cons y).trans (.swap x y r)
    · exact .refl _
theorem sortI_perm : ∀ l : List Int, (sortI l).Perm l
  | [] => .refl _
  | x :: r => (insI_perm x (sortI r)).trans ((sortI_perm r).cons x)
theorem insI_sorted (x : Int) : ∀ {l : List Int}, l.Pairwise (· ≤ ·) → (insI x l).Pairwise (· ≤ ·)
  | [], _ => List.pairwise_singleton _ _
  | y :: r, h => by
    have h' := List.pairwise_cons.mp h
    unfold insI
    split
    · rename_i q
      refine List.pairwise_cons.mpr ⟨fun z hz => ?_, insI_sorted x h'.2⟩
      rcases List.mem_cons.mp ((insI_perm x r).mem_iff.mp hz) with rfl | hz
      · omega
      · exact h'.1 z hz
    · rename_i q
      refine List.pairwise_cons.mpr ⟨fun z hz => ?_, h⟩
      rcases List.mem_cons.mp hz with rfl | hz
      · omega
      · exact Int.le_trans (by omega) (h'.1 z hz)
theorem sortI_sorted : ∀ l : List Int, (sortI l).Pairwise (· ≤ ·)
  | [] => .nil
  | x :: r => insI_sorted x (sortI_sorted r)
theorem srtI_unique : ∀ {l m : List Int}, l.Pairwise (· ≤ ·) → m.Pairwise (· ≤ ·) → l.Perm m → l = m
  | [], m, _, _, p => by simpa using p.symm.eq_nil
  | a :: l, [], _, _, p => by simpa using p.eq_nil
  | a :: l, b :: m, h1, h2, p => by
    have h1' := List.pairwise_cons.mp h1
    have h2' := List.pairwise_cons.mp h2
    have e : a = b := by
      rcases List.mem_cons.mp (p.mem_iff.mp List.mem_cons_self) with e | ha
      · exact e
      · rcases List.mem_cons.mp (p.mem_iff.mpr List.mem_cons_self) with e | hb
        · exact e.symm
        · have := h2'.1 a ha
          have := h1'.1 b hb
          omega
    subst e
    rw [srtI_unique h1'.2 h2'.2 ((List.perm_cons a).mp p)]

/-! ### sorted as a rule -/
def vInt : V → Int
  | .int i => i
  | _ => 0
def kOf (H : Hp) : V → List Int
  | .ref t => match H t with
    | some (.tup vs) => vs.map vInt
    | _ => []
  | _ => []
theorem vInt_map : ∀ ns : List Int, (ns.map V.int).map vInt = ns
  | [] => rfl
  | n :: ns => congrArg (n :: ·) (vInt_map ns)
def rSortT (K : PySem.W.Frag) : List V → Hp → VK → Prop := fun vs H Q => ∃ (a : Addr) (xs : List V), vs = [V.ref a] ∧ SqL K H a xs ∧ (∀ x ∈ xs, ∃ t ns, x = V.ref t ∧ H t = some (.tup (ns.map V.int)) ∧ ns ≠ []) ∧
  ∀ ys p, ys.Perm xs → SrtL (ys.map (kOf H)) → H p = none → Q (.ref p) (L2.upd H p (.lst ys))
theorem cr_sortT {X : Cx} : CallR X (.builtin "sorted") (rSortT X.K) := by
  intro pins s σ H vs us Q I r h
  obtain ⟨a, xs, rfl, hs, hx, q⟩ := h
  obtain ⟨its, rv, hl, hz⟩ := I.list hs
  obtain ⟨u, rfl, ru⟩ := vals1 r
  obtain rfl : u = Value.ref a := ru
  obtain ⟨e1, e2⟩ := refs_back rv fun x m => by
    obtain ⟨t, _, e, _⟩ := hx x m
    exact ⟨t, e⟩
  refine sorted_tupsI (k := fun u => kOf H (backV u)) hl.isList (by rw [← rv.length]; exact hz) (fun v hv => ?_) fun h' d out h1 h2 kp hd hn => ?_
  · obtain ⟨t, rfl⟩ := e2 v hv
    have hm : V.ref t ∈ xs := by rw [e1]; exact List.mem_map.mpr ⟨_, hv, rfl⟩
    obtain ⟨t', ns, e, ht, hne⟩ := hx _ hm
    cases e
    obtain ⟨_, its2, r2, o, ho, hc, n, hd⟩ := I.hok _ _ ht
    refine ⟨t, o, its2.toArray, n, rfl, ho, hc, hd, ?_, ?_⟩
    · have : kOf H (backV (.ref t)) = ns := by
        show (match H t with | some (.tup vs) => vs.map vInt | _ => []) = ns
        rw [ht]
        exact vInt_map ns
      rw [this]
      exact Vals.ints r2
    · show (match H t with | some (.tup vs) => vs.map vInt | _ => []) ≠ []
      rw [ht]
      show (ns.map V.int).map vInt ≠ []
      rw [vInt_map]
      exact hne
  · have h3 : ∀ u ∈ out, ∃ a, u = Value.ref a := fun u hu => e2 u (h2.perm.mem_iff.mp hu)
    obtain ⟨n, hn⟩ := hn
    have hp : (out.map backV).Perm xs := by
      rw [e1]
      exact h2.perm.map _
    refine ⟨.ref d, L2.upd H d (.lst (out.map backV)), I.laid (t' := s.toks) kp hd ⟨?_, out, n, vals_back h3, hn⟩, rfl, q _ d hp ?_ (I.hok.fresh hd)⟩
    · rw [hp.length_eq]
      exact hz
    · rw [List.map_map]
      exact List.pairwise_map.mpr h1
end TL

/-! TL: built-ins by trees. -/
namespace TL
open PySem PySem.Spec PyProof.Rows L2
def rBi (K : PySem.W.Frag) (f : BiS) : List V → Hp → VK → Prop := fun xs H Q => ∃ (Z : Addr → Prop) (ι : Nat → Addr) (S : Sto) (ts : List T) (r : Raw), Rel K Z ι S H ∧ IsAll K Z H ι S.length xs ts ∧ f ts S = some r ∧ RawOk K Z ι S.length H Q r
theorem bi_lift {K : PySem.W.Frag} {XR : XRel} {W : WX} {nw : Bool} {f : BiS} {fa : SE} {σ : L2.St} {H : Hp} {Q : VK} (h : liftE K XR W (argsE fa fun ts => fun l S => outR nw (f ts S) l S) σ H Q) : tCB (rBi K f) (liftA K XR W fa) σ H Q := by
  refine liftA_mono (fun vs H1 h1 => ?_) (args_bind0 h)
  obtain ⟨Z, ι, S, l, ts, R, sl, ia, p⟩ := h1
  obtain ⟨r, e, ok⟩ := out_ok R p
  exact ⟨Z, ι, S, ts, r, R, ia, e, ok⟩
section
variable {X : Cx} {K : PySem.W.Frag} {Z : Addr → Prop} {H : Hp} {ι : Nat → Addr} {S : Sto}
theorem bools_ok {n : Nat} : ∀ {vs : List V} {ts : List T} {bs : List Bool}, IsAll K Z H ι n vs ts → T.bools ts = some bs → vs = bs.map V.bl
  | _, _, _, .nil, e => by cases e; rfl
  | _, _, _, .cons (t := t) (ts := ts) i is, e => by
    cases i with
    | bl k =>
      simp only [T.bools] at e
      cases q2 : T.bools ts with
      | none => rw [q2] at e; cases e
      | some ks =>
        rw [q2] at e
        cases e
        rw [bools_ok is q2]
        rfl
    | _ => cases e
theorem lseq_ok {x : V} {t : T} {ts : List T} (R : Rel K Z ι S H) (h : Is K Z H ι S.length x t) (e : S.lseq t = some ts) : ∃ a vs, x = .ref a ∧ SqL K H a vs ∧ IsAll K Z H ι S.length vs ts := by
  cases h with
  | lst h hn hz hs => cases e; exact ⟨_, _, rfl, .of h, hs⟩
  | tup h hs => cases e
  | scr h hn hz => cases e; exact ⟨_, _, rfl, .inl h, isAll_ints _⟩
  | scrK h => cases e; exact ⟨_, _, rfl, .inr h, isAll_ints _⟩
  | ref hi =>
    rename_i i
    obtain ⟨a, vs, e1, e2, e3⟩ := items_ok (ts := ts) R (.ref hi) (by unfold Sto.items; unfold Sto.lseq Sto.seq at e; exact e)
    exact ⟨a, vs, e1, .of e2, e3⟩
  | _ => cases e
theorem lints_ok {x : V} {t : T} {ns : List Int} (R : Rel K Z ι S H) (h : Is K Z H ι S.length x t) (e : (S.lseq t).bind T.ints = some ns) : ∃ a, x = .ref a ∧ SqL K H a (ns.map V.int) := by
  cases q : S.lseq t with
  | none => rw [q] at e; cases e
  | some ts =>
    rw [q] at e
    obtain ⟨a, vs, rfl, hs, ia⟩ := lseq_ok R h q
    rw [ints_ok ia e] at hs
    exact ⟨a, rfl, hs⟩
theorem call_lenF : CallR X (.builtin "len") (rBi X.K lenF) := by
  intro pins s σ H xs us Q I rx h
  obtain ⟨Z, ι, S, ts, r, R, ia, e, ok⟩ := h
  unfold lenF at e
  split at e
  · rename_i t
    obtain ⟨x, rfl, ix⟩ := ia.inv1
    have hseq : ∀ {xs : List T}, S.seq t = some xs → r = .val (.int xs.length) → wpAny (model X.prog X.w) X.A (call (.builtin "len") us) (EP X pins σ Q) X.xe s := fun {xs} e1 e2 => by
      subst e2
      obtain ⟨a, vs, rfl, hs, iv⟩ := seq_ok R ix e1
      exact call_len_seq pins s σ H _ us Q I rx ⟨a, vs, rfl, hs, by rw [iv.length]; exact raw_int ok⟩
    have hdict : ∀ {d : DV}, S.dict t = some d → (∀ l, d = .k l → r = .val (.int l.length)) → (∀ l, d = .t l → r = .val (.int l.length)) → wpAny (model X.prog X.w) X.A (call (.builtin "len") us) (EP X pins σ Q) X.xe s := fun {d} e1 k1 k2 => by
      obtain ⟨a, rfl, hd⟩ := dict_ok R ix e1
      cases hd with
      | k h hl hs =>
        have e2 := k1 _ rfl
        subst e2
        obtain ⟨u, rfl, ru⟩ := vals1 rx
        obtain rfl : u = Value.ref a := ru
        have q := raw_int ok
        rw [List.length_zip, ← hs.length, ← List.length_zip] at q
        exact d_len I (.inl h) fun t s' I' => ⟨.int _, H, I', ⟨_, rfl⟩, q⟩
      | t h hl hs =>
        have e2 := k2 _ rfl
        subst e2
        have q := raw_int ok
        rw [List.length_zip, ← hs.length, ← List.length_zip] at q
        exact call_len_dT pins s σ H _ us Q I rx ⟨a, _, rfl, h, q⟩
    split at e
    · obtain ⟨g, rfl⟩ := guardR_some e
      exact call_len_str pins s σ H _ us Q I rx ⟨_, by rw [is_str ix], Nat.le_trans (of_decide_eq_true g) LIM_le, raw_int ok⟩
    · cases e
      exact hdict (d := .k _) rfl (fun l q => by cases q; rfl) (fun l q => by cases q)
    · cases e
      exact hdict (d := .t _) rfl (fun l q => by cases q) (fun l q => by cases q; rfl)
    · split at e
      · rename_i q
        cases e
        exact hseq q rfl
      · split at e
        · rename_i q
          cases e
          exact hdict q (fun l q => by cases q; rfl) (fun l q => by cases q)
        · rename_i q
          cases e
          exact hdict q (fun l q => by cases q) (fun l q => by cases q; rfl)
        · cases e
  · cases e
theorem call_absF : CallR X (.builtin "abs") (rBi X.K absF) := by
  intro pins s σ H xs us Q I rx h
  obtain ⟨Z, ι, S, ts, r, R, ia, e, ok⟩ := h
  unfold absF at e
  split at e
  · cases e
    obtain ⟨x, rfl, ix⟩ := ia.inv1
    exact call_abs pins s σ H _ us Q I rx ⟨_, by rw [is_int ix], raw_int ok⟩
  · cases e
theorem call_max2F (hc : X.calm = true) : CallR X (.builtin "max") (rBi X.K max2F) := by
  intro pins s σ H xs us Q I rx h
  obtain ⟨Z, ι, S, ts, r, R, ia, e, ok⟩ := h
  unfold max2F at e
  split at e
  · cases e
    obtain ⟨x, y, rfl, ix, iy⟩ := ia.inv2
    exact call_max2 hc pins s σ H _ us Q I rx ⟨_, _, by rw [is_int ix, is_int iy], raw_int ok⟩
  · cases e
theorem call_min2F (hc : X.calm = true) : CallR X (.builtin "min") (rBi X.K min2F) := by
  intro pins s σ H xs us Q I rx h
  obtain ⟨Z, ι, S, ts, r, R, ia, e, ok⟩ := h
  unfold min2F at e
  split at e
  · cases e
    obtain ⟨x, y, rfl, ix, iy⟩ := ia.inv2
    exact call_min2 hc pins s σ H _ us Q I rx ⟨_, _, by rw [is_int ix, is_int iy], raw_int ok⟩
  · cases e
theorem maxL_is : ∀ (r : List Int) (i m : Int), (m = i ∨ m ∈ r) → (i ≤ m) → (∀ y ∈ r, y ≤ m) → maxL i r = m
  | [], i, m, h, _, _ => by
    rcases h with h | h
    · exact h.symm
    · cases h
  | j :: r, i, m, h, h1, h2 => by
    unfold maxL
    have hj := h2 j List.mem_cons_self
    have hr : ∀ y ∈ r, y ≤ m := fun y hy => h2 y (List.mem_cons_of_mem _ hy)
    by_cases c : j > i
    · rw [if_pos c]
      refine maxL_is r j m ?_ hj hr
      rcases h with h | h
      · exact .inl (by omega)
      · exact (List.mem_cons.mp h)
    · rw [if_neg c]
      refine maxL_is r i m ?_ h1 hr
      rcases h with h | h
      · exact .inl h
      · rcases List.mem_cons.mp h with h | h
        · exact .inl (by omega)
        · exact .inr h
theorem minL_is : ∀ (r : List Int) (i m : Int), (m = i ∨ m ∈ r) → (m ≤ i) → (∀ y ∈ r, m ≤ y) → minL i r = m
  | [], i, m, h, _, _ => by
    rcases h with h | h
    · exact h.symm
    · cases h
  | j :: r, i, m, h, h1, h2 => by
    unfold minL
    have hj := h2 j List.mem_cons_self
    have hr : ∀ y ∈ r, m ≤ y := fun y hy => h2 y (List.mem_cons_of_mem _ hy)
    by_cases c : j < i
    · rw [if_pos c]
      refine minL_is r j m ?_ hj hr
      rcases h with h | h
      · exact .inl (by omega)
      · exact (List.mem_cons.mp h)
    · rw [if_neg c]
      refine minL_is r i m ?_ h1 hr
      rcases h with h | h
      · exact .inl h
      · rcases List.mem_cons.mp h with h | h
        · exact .inl (by omega)
        · exact .inr h
theorem call_max1F (hc : X.calm = true) : CallR X (.builtin "max") (rBi X.K max1F) := by
  intro pins s σ H xs us Q I rx h
  obtain ⟨Z, ι, S, ts, r, R, ia, e, ok⟩ := h
  unfold max1F at e
  split at e
  · split at e
    · rename_i q
      cases e
      obtain ⟨x, rfl, ix⟩ := ia.inv1
      obtain ⟨a, rfl, hs⟩ := lints_ok R ix q
      refine cr_max hc pins s σ H _ us Q I rx ⟨a, _, rfl, hs, by simp, fun m hm hy => ?_⟩
      have := maxL_is _ _ m (List.mem_cons.mp hm) (hy _ List.mem_cons_self) fun y h => hy y (List.mem_cons_of_mem _ h)
      rw [← this]
      exact raw_int ok
    · cases e
  · cases e
theorem call_min1F (hc : X.calm = true) : CallR X (.builtin "min") (rBi X.K min1F) := by
  intro pins s σ H xs us Q I rx h
  obtain ⟨Z, ι, S, ts, r, R, ia, e, ok⟩ := h
  unfold min1F at e
  split at e
  · split at e
    · rename_i q
      cases e
      obtain ⟨x, rfl, ix⟩ := ia.inv1
      obtain ⟨a, rfl, hs⟩ := lints_ok R ix q
      refine cr_min hc pins s σ H _ us Q I rx ⟨a, _, rfl, hs, by simp, fun m hm hy => ?_⟩
      have := minL_is _ _ m (List.mem_cons.mp hm) (hy _ List.mem_cons_self) fun y h => hy y (List.mem_cons_of_mem _ h)
      rw [← this]
      exact raw_int ok
    · cases e
  · cases e
theorem call_sumF (hc : X.calm = true) : CallR X (.builtin "sum") (rBi X.K sumF) := by
  intro pins s σ H xs us Q I rx h
  obtain ⟨Z, ι, S, ts, r, R, ia, e, ok⟩ := h
  unfold sumF at e
  split at e
  · split at e
    · rename_i q
      cases e
      obtain ⟨x, rfl, ix⟩ := ia.inv1
      obtain ⟨a, rfl, hs⟩ := lints_ok R ix q
      exact cr_sum hc pins s σ H _ us Q I rx ⟨a, _, rfl, hs, raw_int ok⟩
    · cases e
  · cases e
theorem call_allF (hc : X.calm = true) : CallR X (.builtin "all") (rBi X.K allF) := by
  intro pins s σ H xs us Q I rx h
  obtain ⟨Z, ι, S, ts, r, R, ia, e, ok⟩ := h
  unfold allF at e
  split at e
  · split at e
    · rename_i t _ bs q
      cases e
      obtain ⟨x, rfl, ix⟩ := ia.inv1
      cases q2 : S.lseq t with
      | none => rw [q2] at q; cases q
      | some ts =>
        rw [q2] at q
        obtain ⟨a, vs, rfl, hs, iv⟩ := lseq_ok R ix q2
        rw [bools_ok iv q] at hs
        exact cr_all hc pins s σ H _ us Q I rx ⟨a, _, rfl, hs, raw_bl ok⟩
    · cases e
  · cases e
theorem call_tupleF : CallR X (.type "tuple") (rBi X.K tupleF) := by
  intro pins s σ H xs us Q I rx h
  obtain ⟨Z, ι, S, ts, r, R, ia, e, ok⟩ := h
  unfold tupleF at e
  split at e
  · rename_i t
    obtain ⟨x, rfl, ix⟩ := ia.inv1
    cases q : S.seq t with
    | none => rw [q] at e; cases e
    | some xs =>
      rw [q] at e
      cases e
      by_cases ht : ∃ ts, t = .tup ts
      · obtain ⟨ts, rfl⟩ := ht
        cases q
        obtain ⟨a, vs, rfl, hs, iv⟩ := is_tup ix
        exact call_tuple_of pins s σ H _ us Q I rx ⟨a, vs, rfl, .inr ⟨.of hs, raw_tup' ok hs iv⟩⟩
      · have ql : S.lseq t = some xs := by
          cases t <;> first | exact q | exact absurd ⟨_, rfl⟩ ht
        obtain ⟨a, vs, rfl, hs, iv⟩ := lseq_ok R ix ql
        exact call_tuple_of pins s σ H _ us Q I rx ⟨a, vs, rfl, .inl ⟨hs, raw_tup R ok iv⟩⟩
  · cases e
theorem map_zip_fst {α β γ : Type} {f : α → γ} : ∀ {ks : List α} {vs : List β}, ks.length = vs.length → (ks.zip vs).map (fun p => f p.1) = ks.map f
  | [], _, _ => rfl
  | _ :: _, [], h => by simp at h
  | k :: ks, v :: vs, h => by
    rw [List.zip_cons_cons, List.map_cons, List.map_cons, map_zip_fst (by simpa using h)]
theorem isAll_keys {n : Nat} : ∀ ks : List Key, IsAll K Z H ι n (ks.map kV) (ks.map T.ofKey)
  | [] => .nil
  | .inl i :: ks => .cons (.int i) (isAll_keys ks)
  | .inr i :: ks => .cons (.str i) (isAll_keys ks)
theorem isAll_keyT {n : Nat} : ∀ {ks : List (List Key)} {vs : List V} {bs : List Addr}, ks.length = vs.length → IsKeys H (ks.zip vs) bs → IsAll K Z H ι n (bs.map V.ref) (ks.map fun k => T.tup (k.map T.ofKey))
  | [], _, _, _, h => by
    cases h
    exact .nil
  | k :: ks, [], _, hl, _ => by simp at hl
  | k :: ks, v :: vs, _, hl, h => by
    cases h with
    | cons a b => exact .cons (.tup a (isAll_keys k)) (isAll_keyT (by simpa using hl) b)
theorem call_listF (hc : X.calm = true) : CallR X (.type "list") (rBi X.K listF) := by
  intro pins s σ H xs us Q I rx h
  obtain ⟨Z, ι, S, ts, r, R, ia, e, ok⟩ := h
  unfold listF at e
  split at e
  · rename_i t
    obtain ⟨x, rfl, ix⟩ := ia.inv1
    split at e
    · rename_i q
      cases e
      obtain ⟨a, vs, rfl, hs, iv⟩ := seq_ok R ix q
      exact call_list_of pins s σ H _ us Q I rx ⟨a, vs, rfl, hs, fun p hp => ok vs p iv hp⟩
    · split at e
      · rename_i q
        cases e
        obtain ⟨a, rfl, hd⟩ := dict_ok R ix q
        cases hd with
        | k h hl hs =>
          refine call_list_dK hc pins s σ H _ us Q I rx ⟨a, _, rfl, h, fun p hp => ?_⟩
          have hl2 := hl.trans hs.length
          rw [map_zip_fst (f := kV) hl]
          refine ok _ p ?_ hp
          rw [map_zip_fst (f := T.ofKey) hl2]
          exact isAll_keys _
      · rename_i q
        cases e
        obtain ⟨a, rfl, hd⟩ := dict_ok R ix q
        cases hd with
        | t h hl hs =>
          refine call_list_dT hc pins s σ H _ us Q I rx ⟨a, _, rfl, .inl h, fun p bs hp hb => ?_⟩
          refine ok _ p ?_ hp
          rw [map_zip_fst (f := fun k : List Key => T.tup (k.map T.ofKey)) (hl.trans hs.length)]
          exact isAll_keyT hl hb
      · cases e
  · cases e
end
end TL

/-! TL: subscripts, slices, the other built-ins. -/
namespace TLH
open PySem PySem.Spec PyProof.Rows PySem.Builtin.Slice
section
variable {prog : Program} {w : World} {A : Around} {E : Value → Shared → Prop} {s : Shared}
theorem sliceApplied_rev {sl : Addr} {vl vu : Value} {t : Tok} {n : Nat} {Q : Int × Int × Nat → Shared → Prop} (hs : s.heap.IsSliceOf sl vl vu (.int (-1) t)) (pl : IsPart vl none) (pu : IsPart vu none)
    (h : Q ((n : Int) - 1, -1, n) s) : wpAny (model prog w) A (Builtin.Slice.sliceApplied (.ref sl) (pure (n : Int))) Q E s := by
  obtain ⟨os, hos, hcs, hds⟩ := id hs
  unfold Builtin.Slice.sliceApplied Builtin.Slice.sliceFields
  refine wpAny_bind (wpAny_bind (wpAny_field hos hds (x := vl) rfl (wpAny_bind (wpAny_field hos hds (x := vu) rfl (wpAny_bind (wpAny_field hos hds (x := .int (-1) t) rfl (wpAny_pure ?_)))))))
  refine wpAny_bind (slicePart_int ?_)
  show wpAny _ _ (if ((-1 : Int) == 0) = true then _ else _) _ _ s
  rw [if_neg (by decide)]
  refine wpAny_bind (HT.slicePart_ pl (wpAny_bind (HT.slicePart_ pu (wpAny_bind (wpAny_pure ?_)))))
  show wpAny _ _ (match Builtin.Slice.sliceAdjust none none (-1) (n : Int) with | (lo, hi) => pure (lo, (-1 : Int), Builtin.Slice.slicePlaces lo hi (-1))) _ _ s
  have e1 : Builtin.Slice.sliceAdjust none none (-1) (n : Int) = ((n : Int) - 1, -1) := by
    unfold Builtin.Slice.sliceAdjust
    rfl
  rw [e1]
  show wpAny _ _ (pure (((n : Int) - 1), (-1 : Int), Builtin.Slice.slicePlaces ((n : Int) - 1) (-1) (-1))) _ _ s
  have e2 : Builtin.Slice.slicePlaces ((n : Int) - 1) (-1) (-1) = n := by
    unfold Builtin.Slice.slicePlaces
    rw [if_neg (by decide)]
    by_cases h0 : n = 0
    · subst h0; rfl
    · rw [if_pos (by omega)]
      have : ((n : Int) - 1 - -1 - 1) / (- -1) + 1 = n := by
        rw [show (- -1 : Int) = 1 from rfl, Int.ediv_one]
        omega
      rw [this]
      simp
  rw [e2]
  exact wpAny_pure h
theorem filterMap_all {α β : Type} (f : α → Option β) (g : α → β) : ∀ (l : List α), (∀ x ∈ l, f x = some (g x)) → l.filterMap f = l.map g
  | [], _ => rfl
  | x :: l, h => by
    rw [List.filterMap_cons, h x List.mem_cons_self, List.map_cons, filterMap_all f g l fun y hy => h y (List.mem_cons_of_mem _ hy)]
theorem pick_rev (xs : Array Value) : ((List.range xs.size).filterMap fun (m : Nat) => xs[((xs.size : Int) - 1 + (m : Int) * -1).toNat]?).toArray = xs.toList.reverse.toArray := by
  congr 1
  have : ∀ (l : List Value) (n : Nat), n = l.length → (List.range n).filterMap (fun (m : Nat) => l[((n : Int) - 1 + (m : Int) * -1).toNat]?) = l.reverse := by
    intro l n hn
    apply List.ext_getElem?
    intro i
    have hall : (List.range n).filterMap (fun (m : Nat) => l[((n : Int) - 1 + (m : Int) * -1).toNat]?) = (List.range n).map (fun m => l.getD (n - 1 - m) default) := by
      refine filterMap_all _ _ _ fun m hm => ?_
      have hm := List.mem_range.mp hm
      have e : ((n : Int) - 1 + (m : Int) * -1).toNat = n - 1 - m := by omega
      rw [e]
      have : n - 1 - m < l.length := by omega
      simp [List.getD, List.getElem?_eq_getElem this]
    rw [hall]
    by_cases hi : i < n
    · rw [List.getElem?_map, List.getElem?_range hi, List.getElem?_reverse (by omega)]
      have : n - 1 - i < l.length := by omega
      simp only [Option.map_some, List.getD]
      rw [← hn, List.getElem?_eq_getElem this]
      rfl
    · rw [List.getElem?_eq_none (by simp; omega), List.getElem?_eq_none (by simp; omega)]
  have h := this xs.toList xs.size (by simp)
  rw [← h]
  simp
theorem getItem_tuple_rev {t sl : Addr} {items : Array Value} {vl vu : Value} {tk : Tok} {Q : Value → Shared → Prop} (ht : IsTup s.heap t items) (hs : s.heap.IsSliceOf sl vl vu (.int (-1) tk)) (pl : IsPart vl none) (pu : IsPart vu none)
    (h : Q (.ref s.heap.objs.size) { s with heap := s.heap.push { cls := .type "tuple", data := .seq items.toList.reverse.toArray } })
    (hsz : items.size ≤ sizeLine) : wpAny (model prog w) A (getItem (.ref t) (.ref sl)) Q E s := by
  have htake : sizeOk (.seq items.toList.reverse.toArray) := by
    show items.toList.reverse.toArray.size ≤ sizeLine
    simpa using hsz
  obtain ⟨os, hos, hcs, hds⟩ := id hs
  have hTs : s.TypeIs (.ref sl) "slice" := ⟨os, hos, hcs⟩
  unfold getItem
  try with_reducible refine wpAny_holding ?_
  first | refine wpAny_bind (wpAny_pure ?_) | skip
  refine wpAny_bind (wpAny_sequenceKey ht.typeIs (by decide) ?_)
  refine wpAny_bind (wpAny_callSpecial?_slot (name := Str.ofString "__getitem__") ht.typeIs PyProof.Rows.slot_tuple_getitem
    (wpAny_call_entry PyProof.Rows.slot_tuple_getitem ht.typeIs entry_tuple_getitem ?_ (args_tuple_getitem _ _)))
  show wpAny _ _ (Builtin.Tuple.tupleItemsOf (.ref t) >>= _) _ _ s
  refine wpAny_bind (tupleItemsOf_ ht ?_)
  refine wpAny_bind (wpAny_typeOf hTs ?_)
  rw [if_pos (by decide)]
  refine wpAny_bind (sliceApplied_rev hs pl pu ?_)
  have hno : ¬ ((((items.size : Int) - 1) == 0 && (-1 : Int) == 1 && items.size == items.size) = true) := by
    intro q
    rw [Bool.and_eq_true, Bool.and_eq_true] at q
    exact absurd q.1.2 (by decide)
  show wpAny _ _ (if (((items.size : Int) - 1) == 0 && (-1 : Int) == 1 && items.size == items.size) = true then _ else _) _ _ s
  rw [if_neg hno, pick_rev]
  first
    | exact wpAny_bind (m := Builtin.Tuple.tupleExact _) (wpAny_newObj_type (wpAny_pure ⟨_, rfl, wpAny_pure h⟩) htake)
    | exact wpAny_bind (m := Builtin.Tuple.tupleExact _) (wpAny_newObj_type (wpAny_bind (wpAny_pure (wpAny_pure ⟨_, rfl, wpAny_pure h⟩))) htake)
    | exact wpAny_bind (wpAny_bind (m := Builtin.Tuple.tupleExact _) (wpAny_newObj_type (wpAny_pure (wpAny_pure ⟨_, rfl, wpAny_pure h⟩)) htake))
    | exact wpAny_bind (wpAny_bind (m := Builtin.Tuple.tupleExact _) (wpAny_newObj_type (wpAny_pure ⟨_, rfl, wpAny_pure h⟩) htake))
end
end TLH
namespace TL
open PySem PySem.Spec PyProof.Rows L2
section
variable {X : Cx}
/-- xs[::-1], a list or a tuple -/
def tRevA (K : PySem.W.Frag) (te : TE) : TE := fun σ H Q => te σ H fun x H1 => ∃ a xs, x = .ref a ∧ ((SqL K H1 a xs ∧ ∀ p, H1 p = none → Q (.ref p) (L2.upd H1 p (.lst xs.reverse))) ∨ (SqT K H1 a xs ∧ ∀ p, H1 p = none → Q (.ref p) (L2.upd H1 p (.tup xs.reverse))))
theorem pe_revA {e : Expr} {te : TE} {k : Nat} {p1 p2 p3 pos : Pos} (he : PE X e te) : PE X (.Subscript e (.Slice none none (some (.UnaryOp .USub (.Constant (.int 1) k p1) p2)) p3) pos) (tRevA X.K te) := by
  refine ⟨fun pins s σ H Q I h => ?_⟩
  refine Subscript_ (thn (he.run pins s σ H _ I h) fun v s1 ⟨x, H1, I1, r1, q1⟩ => ?_)
  obtain ⟨a, xs, ex, hx⟩ := q1
  subst ex
  cases r1
  have hst : PO X (some (.UnaryOp .USub (.Constant (.int 1) k p1) p2)) (tPart (tUn (rU fun i => .int (-i)) (tC (.int 1)))) := po_some (pe_un un_neg pe_int)
  refine wpAny_Slice (thn (po_none.run pins s1 σ H1 (fun o H2 => o = none ∧ H2 = H1) I1 ⟨rfl, rfl⟩) fun vl s2 ⟨l, H2, I2, pl, el, e2⟩ => ?_)
  subst el e2
  refine thn (po_none.run pins s2 σ H2 (fun o H3 => o = none ∧ H3 = H2) I2 ⟨rfl, rfl⟩) fun vu s3 ⟨u, H3, I3, pu, eu, e3⟩ => ?_
  subst eu e3
  refine thn (hst.run pins s3 σ H3 (fun o H4 => o = some (-1) ∧ H4 = H3) I3 ⟨1, rfl, -1, rfl, rfl, rfl⟩) fun vs s4 ⟨o, H4, I4, ps, eo, e4⟩ => ?_
  subst eo e4
  have I5 : Inv X pins σ H4 { s4 with heap := s4.heap.push { cls := .type "slice", data := .fields #[vl, vu, vs] } } := I4.kept (t' := s4.toks) fun b ob q => Heap.get?_push_of_some _ q
  rcases hx with ⟨hx, q⟩ | ⟨hx, q⟩
  · obtain ⟨its, r, ht, hz⟩ := I5.list hx
    have hlen := r.length
    show wpAny (model X.prog X.w) X.A (subscriptTail e (.Slice none none (some (.UnaryOp .USub (.Constant (.int 1) k p1) p2)) p3) (.ref a) (.ref s4.heap.objs.size)) (EP X pins σ Q) X.xe { s4 with heap := s4.heap.push { cls := .type "slice", data := .fields #[vl, vu, vs] } }
    refine tail_any (ops := [.ref a, .ref s4.heap.objs.size]) ht.isList.typeIs (PySem.slot_list_getitem.lookup) ?_ (by with_unfolding_all rfl)
    refine wpAny_getItem_list_slice ht.isList (Heap.IsSliceOf.new _ vl vu vs) pl pu ps (by decide) ?_ (by rw [List.size_toArray]; omega)
    rw [PySem.W.krv_pick]
    refine ⟨.ref _, _, I5.laid (t' := s4.toks) (o := .lst xs.reverse) (fun b ob q => Heap.get?_push_of_some _ q) (Nat.le_refl _) ?_, rfl, q _ (I5.hok.fresh (Nat.le_refl _))⟩
    exact ⟨by rw [List.length_reverse]; exact hz, _, 0, r.reverse, Heap.get?_push_size _ rfl⟩
  · obtain ⟨its, r, ht, hz⟩ := I5.tuple hx
    have hlen := r.length
    obtain ⟨tk, rfl⟩ : ∃ tk, vs = .int (-1) tk := by cases ps with | int i t => exact ⟨t, rfl⟩
    show wpAny (model X.prog X.w) X.A (subscriptTail e (.Slice none none (some (.UnaryOp .USub (.Constant (.int 1) k p1) p2)) p3) (.ref a) (.ref s4.heap.objs.size)) (EP X pins σ Q) X.xe { s4 with heap := s4.heap.push { cls := .type "slice", data := .fields #[vl, vu, .int (-1) tk] } }
    refine tail_any (ops := [.ref a, .ref s4.heap.objs.size]) ht.typeIs (slot_tuple_getitem.lookup) ?_ (by with_unfolding_all rfl)
    refine TLH.getItem_tuple_rev ht (Heap.IsSliceOf.new _ vl vu (.int (-1) tk)) pl pu ?_ (by rw [List.size_toArray]; omega)
    refine ⟨.ref _, _, I5.laid (t' := s4.toks) (o := .tup xs.reverse) (fun b ob q => Heap.get?_push_of_some _ q) (Nat.le_refl _) ?_, rfl, q _ (I5.hok.fresh (Nat.le_refl _))⟩
    exact ⟨by rw [List.length_reverse]; exact hz, its.reverse, r.reverse, _, Heap.get?_push_size _ rfl, rfl, 0, by simp⟩
/-- d[k] as a subscript by values -/
theorem ix_dict (hu : X.A.units + 1 < cLine) : IxR X (fun x y H Q => ∃ a v, x = .ref a ∧ DGet H a y (some v) ∧ Q v H) := by
  intro value slice pins s σ H x y v u Q I rx ry h hs
  obtain ⟨a, w, rfl, g, q⟩ := h
  cases rx
  exact tail_any (dict_typeIs I g) PySem.F.slot_dict_getitem.lookup (d_getItem hu I g ry fun w' s' I' rw' => ⟨w, H, I', rw', q⟩) hs
/-- a subscript by trees -/
def rIdx (K : PySem.W.Frag) : R2 := fun x y H Q => ∃ (Z : Addr → Prop) (ι : Nat → Addr) (S : Sto) (a b t : T), Rel K Z ι S H ∧ Is K Z H ι S.length x a ∧ Is K Z H ι S.length y b ∧ idxF a b S = some t ∧ ∀ v, Is K Z H ι S.length v t → Q v H
theorem atI_isAll {K : PySem.W.Frag} {Z : Addr → Prop} {H : Hp} {ι : Nat → Addr} {n : Nat} {vs : List V} {ts : List T} {i : Int} {t : T} (ia : IsAll K Z H ι n vs ts) (e : atI ts i = some t) : ∃ v, atI vs i = some v ∧ Is K Z H ι n v t := by
  unfold atI at e ⊢
  rw [ia.length]
  cases q : ixN ts.length i with
  | none => rw [q] at e; cases e
  | some j =>
    rw [q] at e
    obtain ⟨v, hv, iv⟩ := ia.get (show ts[j]? = some t from e)
    exact ⟨v, hv, iv⟩
theorem ix_T (hu : X.A.units + 1 < cLine) : IxR X (rIdx X.K) := by
  intro value slice pins s σ H x y v u Q I rx ry h hs
  obtain ⟨Z, ι, S, a, b, t, R, ia, ib, e, ok⟩ := h
  unfold idxF at e
  split at e
  · split at e
    · rename_i z b i
      split at e
      · rename_i g
        cases q : atI z.cps.toList i with
        | none => rw [q] at e; cases e
        | some c =>
          rw [q] at e
          cases e
          exact ix_str value slice pins s σ H x y v u Q I rx ry ⟨z, i, c, is_str ia, is_int ib, Nat.le_trans g LIM_le, q, ok _ (.str _)⟩ hs
      · cases e
    · cases e
  · split at e
    · rename_i xs q
      split at e
      · rename_i i
        obtain ⟨p, vs, rfl, hp, iv⟩ := seq_ok R ia q
        obtain ⟨w, hw, iw⟩ := atI_isAll iv e
        rcases hp with hp | hp
        · exact ix_list value slice pins s σ H _ y v u Q I rx ry ⟨p, vs, i, w, rfl, is_int ib, hp, hw, ok w iw⟩ hs
        · exact ix_tup value slice pins s σ H _ y v u Q I rx ry ⟨p, vs, i, w, rfl, is_int ib, hp, hw, ok w iw⟩ hs
      · cases e
    · split at e
      · rename_i d q
        obtain ⟨c, rfl, hd⟩ := dict_ok R ia q
        cases q2 : d.look b with
        | none => rw [q2] at e; cases e
        | some o =>
          rw [q2] at e
          have e : o = some t := e
          obtain ⟨o', g, z⟩ := look_ok hd ib q2
          rcases z with ⟨z, _⟩ | ⟨w, t', z1, z2, iw⟩
          · rw [e] at z; cases z
          · rw [e] at z1
            cases z1
            subst z2
            exact ix_dict hu value slice pins s σ H _ y v u Q I rx ry ⟨c, w, rfl, g, ok w iw⟩ hs
      · cases e
theorem idx_lift {K : PySem.W.Frag} {XR : XRel} {W : WX} {fa fb : SE} {σ : L2.St} {H : Hp} {Q : VK} (h : liftE K XR W (bindE fa fun x => bindE fb fun y => fun l S => match idxF x y S with
    | some t => some (.ok t, S)
    | none => none) σ H Q) : tOp (rIdx K) (liftE K XR W fa) (liftE K XR W fb) σ H Q := by
  refine lift_mono (fun x H1 h1 => ?_) (lift_bind0 h)
  have h1' : liftK K XR W [x] (fun ts => bindE fb fun b => fun l S => match ts with | [a] => (match idxF a b S with | some t => some (.ok t, S) | none => none) | _ => none) σ H1 Q := by
    obtain ⟨Z, ι, S, l, ts, R, sl, ia, p⟩ := h1
    refine ⟨Z, ι, S, l, ts, R, sl, ia, ?_⟩
    cases ia with
    | cons i j => cases j; exact p
  refine lift_mono (fun y H2 h2 => ?_) (lift_bind h1')
  obtain ⟨Z, ι, S, l, ts, R, sl, ia, p⟩ := h2
  cases ia with
  | cons iy j =>
    cases j with
    | cons ix k =>
      cases k
      dsimp only at p
      split at p
      · rename_i t e
        exact ⟨Z, ι, S, _, _, t, R, ix, iy, e, fun v iv => p ι H2 v Step.refl R iv⟩
      · exact p.elim

/-! ### slices -/
def rSlT (K : PySem.W.Frag) : V → Option Int → Option Int → Hp → VK → Prop := fun x lo hi H Q => ∃ (Z : Addr → Prop) (ι : Nat → Addr) (S : Sto) (a : T) (r : Raw), Rel K Z ι S H ∧ Is K Z H ι S.length x a ∧ slF a lo hi S = some r ∧ RawOk K Z ι S.length H Q r
theorem cut_isAll {K : PySem.W.Frag} {Z : Addr → Prop} {H : Hp} {ι : Nat → Addr} {n : Nat} {vs : List V} {ts : List T} (lo hi : Option Int) (ia : IsAll K Z H ι n vs ts) : IsAll K Z H ι n (cutV vs lo hi) (cutT ts lo hi) := by
  unfold cutV cutT
  rw [ia.length]
  exact (ia.drop _).take _
theorem cutT_whole (xs : List T) (lo hi : Option Int) (h : HT.sIx xs.length 0 lo = 0 ∧ HT.sIx xs.length xs.length hi = xs.length) : cutT xs lo hi = xs := by
  unfold cutT
  rw [h.1, h.2]
  simp
theorem sl_T : SlR X (rSlT X.K) := by
  intro pins s σ H x v vl vu lo hi sl Q I rx hs pl pu h
  obtain ⟨Z, ι, S, a, r, R, ia, e, ok⟩ := h
  unfold slF at e
  split at e
  · cases e
    obtain ⟨p, vs, rfl, hp, iv⟩ := is_tup ia
    refine sl_tupA pins s σ H _ v vl vu lo hi sl Q I rx hs pl pu ⟨p, vs, rfl, .of hp, fun w => ?_, fun w => raw_tup R ok (cut_isAll lo hi iv)⟩
    rw [iv.length] at w
    rw [cutT_whole _ _ _ w] at ok
    exact raw_tup' ok hp iv
  · cases e
  · split at e
    · rename_i nt _ _ xs q
      cases e
      have ql : S.lseq a = some xs := by
        cases a <;> first | exact q | exact absurd rfl (nt _)
      obtain ⟨p, vs, rfl, hp, iv⟩ := lseq_ok R ia ql
      exact sl_list pins s σ H _ v vl vu lo hi sl Q I rx hs pl pu ⟨p, vs, rfl, hp, fun z hz => ok _ z (cut_isAll lo hi iv) hz⟩
    · cases e
end
end TL

/-! TL: sorted, int, str, isinstance, in range. -/
namespace TL
open PySem PySem.Spec PyProof.Rows L2
section
variable {X : Cx} {K : PySem.W.Frag} {Z : Addr → Prop} {H : Hp} {ι : Nat → Addr} {S : Sto}
theorem call_intF : CallR X (.type "int") (rBi X.K intF) := by
  intro pins s σ H xs us Q I rx h
  obtain ⟨Z, ι, S, ts, r, R, ia, e, ok⟩ := h
  unfold intF at e
  split at e
  · cases e
    obtain ⟨x, rfl, ix⟩ := ia.inv1
    exact call_int1 pins s σ H _ us Q I rx (.inl ⟨_, by rw [is_int ix], raw_int ok⟩)
  · cases e
    obtain ⟨x, rfl, ix⟩ := ia.inv1
    exact call_int1 pins s σ H _ us Q I rx (.inr ⟨_, by rw [is_bl ix], raw_int ok⟩)
  · cases e
theorem call_strF : CallR X (.type "str") (rBi X.K strF) := by
  intro pins s σ H xs us Q I rx h
  obtain ⟨Z, ι, S, ts, r, R, ia, e, ok⟩ := h
  unfold strF at e
  split at e
  · obtain ⟨g, rfl⟩ := guardR_some e
    obtain ⟨x, rfl, ix⟩ := ia.inv1
    exact call_str_int pins s σ H _ us Q I rx ⟨_, by rw [is_int ix], of_decide_eq_true g, raw_str ok⟩
  · cases e
theorem tupI_ok {n : Nat} {x : V} {t : T} {ns : List Int} (h : Is K Z H ι n x t) (e : T.tupI t = some ns) : t = T.ofInts ns ∧ ns ≠ [] ∧ ∃ a, x = .ref a ∧ H a = some (.tup (ns.map V.int)) := by
  cases h with
  | tup h hs =>
    rename_i a vs ts
    simp only [T.tupI] at e
    split at e
    · rename_i m ms q
      cases e
      have e1 := ints_ok hs q
      subst e1
      refine ⟨?_, by simp, a, rfl, h⟩
      have : ∀ {ts : List T} {ns : List Int}, T.ints ts = some ns → ts = ns.map T.int := by
        intro ts
        induction ts with
        | nil => intro ns h; cases h; rfl
        | cons t r ih =>
          intro ns h
          cases t <;> simp only [T.ints] at h <;> try cases h
          rename_i i
          cases q : T.ints r with
          | none => rw [q] at h; cases h
          | some ks => rw [q] at h; cases h; rw [ih q]; rfl
      rw [this q]
      rfl
    · cases e
  | _ => cases e
theorem tupIs_ok {n : Nat} : ∀ {vs : List V} {ts : List T} {l : List (List Int)}, IsAll K Z H ι n vs ts → T.tupIs ts = some l → vs.map (kOf H) = l ∧ ∀ x ∈ vs, ∃ t ns, x = V.ref t ∧ H t = some (.tup (ns.map V.int)) ∧ ns ≠ []
  | _, _, _, .nil, e => by cases e; exact ⟨rfl, fun _ h => nomatch h⟩
  | _, _, _, .cons (v := v) (vs := vs) (t := t) (ts := ts) i is, e => by
    simp only [T.tupIs] at e
    cases q : T.tupI t with
    | none => rw [q] at e; cases e
    | some m =>
      cases q2 : T.tupIs ts with
      | none => rw [q, q2] at e; cases e
      | some ms =>
        rw [q, q2] at e
        cases e
        obtain ⟨_, hne, a, rfl, ha⟩ := tupI_ok i q
        obtain ⟨h1, h2⟩ := tupIs_ok is q2
        refine ⟨?_, fun x hx => ?_⟩
        · rw [List.map_cons, h1]
          have : kOf H (.ref a) = m := by
            show (match H a with | some (.tup vs) => vs.map vInt | _ => []) = m
            rw [ha]
            exact vInt_map m
          rw [this]
        · rcases List.mem_cons.mp hx with rfl | hx
          · exact ⟨a, m, rfl, ha, hne⟩
          · exact h2 x hx
theorem isAll_of_kOf {n : Nat} : ∀ {vs : List V}, (∀ x ∈ vs, ∃ t ns, x = V.ref t ∧ H t = some (.tup (ns.map V.int)) ∧ ns ≠ []) → IsAll K Z H ι n vs ((vs.map (kOf H)).map T.ofInts)
  | [], _ => .nil
  | v :: vs, h => by
    obtain ⟨t, ns, rfl, ht, _⟩ := h v List.mem_cons_self
    refine .cons ?_ (isAll_of_kOf fun x hx => h x (List.mem_cons_of_mem _ hx))
    have : kOf H (.ref t) = ns := by
      show (match H t with | some (.tup vs) => vs.map vInt | _ => []) = ns
      rw [ht]
      exact vInt_map ns
    rw [this]
    exact .tup ht (isAll_ints ns)
theorem call_sortedF : CallR X (.builtin "sorted") (rBi X.K sortedF) := by
  intro pins s σ H xs us Q I rx h
  obtain ⟨Z, ι, S, ts, r, R, ia, e, ok⟩ := h
  unfold sortedF at e
  split at e
  · rename_i t
    obtain ⟨x, rfl, ix⟩ := ia.inv1
    split at e
    · rename_i xs q
      split at e
      · rename_i ns q2
        cases e
        obtain ⟨a, vs, rfl, hs, iv⟩ := lseq_ok R ix q
        rw [ints_ok iv q2] at hs
        exact cr_sortedI pins s σ H _ us Q I rx ⟨a, ns, rfl, hs, fun ns' p h1 h2 hp => by
          rw [srtI_unique h2 (sortI_sorted ns) (h1.trans (sortI_perm ns).symm)]
          exact ok _ p (isAll_ints _) hp⟩
      · cases q3 : T.tupIs xs with
        | none => rw [q3] at e; cases e
        | some l =>
          rw [q3] at e
          cases e
          obtain ⟨a, vs, rfl, hs, iv⟩ := lseq_ok R ix q
          obtain ⟨h1, h2⟩ := tupIs_ok iv q3
          refine cr_sortT pins s σ H _ us Q I rx ⟨a, vs, rfl, hs, h2, fun ys p hp hsr hn => ?_⟩
          refine ok ys p ?_ hn
          have hy : ∀ x ∈ ys, ∃ t ns, x = V.ref t ∧ H t = some (.tup (ns.map V.int)) ∧ ns ≠ [] := fun x hx => h2 x (hp.mem_iff.mp hx)
          have e1 : ys.map (kOf H) = sortL l := by
            refine srtL_unique hsr (sortL_sorted l) ?_
            have := hp.map (kOf H)
            rw [h1] at this
            exact this.trans (sortL_perm l).symm
          rw [← e1]
          exact isAll_of_kOf hy
    · cases e
  · cases e
end
end TL

/-! TL: isinstance, in range; iterators. -/
namespace TL
open PySem PySem.Spec PyProof.Rows L2
/-! ### isinstance -/
def isiTys : List String := ["int", "bool", "tuple", "list", "str", "dict"]
def ownTys : List String := ["NoneType", "bool", "int", "str", "tuple", "list", "dict"]
theorem kit_all : ∀ a ∈ ownTys, ∀ b ∈ isiTys, kitB a b = some (a == b || (a == "bool" && b == "int")) := by decide +kernel
section
variable {X : Cx} {K : PySem.W.Frag} {Z : Addr → Prop} {H : Hp} {ι : Nat → Addr} {S : Sto} {XR : XRel} {W : WX}
theorem ty_ok {x : V} {t : T} {a : String} (R : Rel K Z ι S H) (h : Is K Z H ι S.length x t) (e : S.ty t = some a) : TyX K H x (.type a) ∧ a ∈ ownTys := by
  cases h with
  | non => cases e; exact ⟨.base .non, by decide⟩
  | bl b => cases e; exact ⟨.base (.bl b), by decide⟩
  | int b => cases e; exact ⟨.base (.int b), by decide⟩
  | str b => cases e; exact ⟨.base (.str b), by decide⟩
  | tup h _ => cases e; exact ⟨.base (.tup h), by decide⟩
  | lst h _ _ _ => cases e; exact ⟨.base (.lst h), by decide⟩
  | scr h _ _ => cases e
  | scrK h => cases e
  | dK h _ _ _ _ => cases e; exact ⟨.base (.dK h), by decide⟩
  | dT h _ _ _ _ => cases e; exact ⟨.base (.dT h), by decide⟩
  | ref hi =>
    rename_i i
    have q : S[i]? = some S[i] := List.getElem?_eq_getElem hi
    have h := R.obj _ _ q
    simp only [Sto.ty, q] at e
    cases ho : S[i] with
    | lst xs =>
      rw [ho] at e h
      cases e
      cases h with
      | lst h _ => exact ⟨.base (.lst h), by decide⟩
    | dK xs =>
      rw [ho] at e h
      cases e
      cases h with
      | dK h _ _ => exact ⟨.base (.dK h), by decide⟩
    | dT xs =>
      rw [ho] at e h
      cases e
      cases h with
      | dT h _ _ => exact ⟨.base (.dT h), by decide⟩
theorem isi_lift {fa : SE} {ty : String} {σ : L2.St} {H : Hp} {Q : VK} (ht : ty ∈ isiTys) (h : liftE K XR W (bindE fa fun x => fun l S => boolE (isiF ty x S) l S) σ H Q) :
    tCB (rIsi K) (tCons (liftE K XR W fa) (tCons (tC (.ty ty)) tNil)) σ H Q := by
  refine lift_mono (fun x H1 h1 => ?_) (lift_bind0 h)
  obtain ⟨Z, ι, S, l, ts, R, sl, ia, p⟩ := h1
  cases ia with
  | cons i j =>
    rename_i t ts
    cases j
    dsimp only at p
    simp only [isiF] at p
    cases q : S.ty t with
    | none => rw [q] at p; exact p.elim
    | some a =>
      rw [q] at p
      obtain ⟨k, m⟩ := ty_ok R i q
      exact ⟨x, .ty ty, .type a, .type ty, _, rfl, .ty ty, k, kit_ty (kit_all a m ty ht), p ι H1 _ Step.refl R (.bl _)⟩

/-! ### in range -/
theorem cr_range1 : CallR X (.type "range") (fun vs H Q => ∃ j, vs = [V.int j] ∧ ∀ p, H p = none → Q (.ref p) (L2.upd H p (.rng 0 j))) := by
  intro pins s σ H vs us Q I r h
  obtain ⟨j, rfl, q⟩ := h
  obtain ⟨u1, rfl, ri⟩ := vals1 r
  obtain ⟨t, rfl⟩ := ri
  refine call_range_1 ⟨.ref s.heap.objs.size, L2.upd H s.heap.objs.size (.rng 0 j), I.laid (t' := s.toks + 1 + 1) (fun b o e => Heap.get?_push_of_some _ e) (Nat.le_refl _) ?_, rfl, q _ (I.hok.fresh (Nat.le_refl _))⟩
  exact ⟨s.toks, t, s.toks + 1, Heap.get?_push_size _ rfl⟩
theorem cr_range : CallR X (.type "range") (fun vs H Q => ((∃ j, vs = [V.int j] ∧ ∀ p, H p = none → Q (.ref p) (L2.upd H p (.rng 0 j))) ∨ ∃ i j, vs = [V.int i, V.int j] ∧ ∀ p, H p = none → Q (.ref p) (L2.upd H p (.rng i j)))) := by
  intro pins s σ H vs us Q I r h
  rcases h with h | h
  · exact cr_range1 pins s σ H vs us Q I r h
  · exact cr_range2 pins s σ H vs us Q I r h
theorem op_notIn_rng : OpR X (compareOp .NotIn) (fun x y H Q => ∃ i a lo hi, x = V.int i ∧ y = V.ref a ∧ H a = some (.rng lo hi) ∧ Q (.bl (!decide (lo ≤ i ∧ i < hi))) H) := by
  intro pins s σ H x y v u Q I rx ry h
  obtain ⟨i, a, lo, hi, rfl, rfl, ha, q⟩ := h
  obtain ⟨k, rfl⟩ := rx
  obtain rfl : u = Value.ref a := ry
  obtain ⟨t1, t2, t3, ho⟩ := I.hok a _ ha
  show wpAny _ _ (do return Value.bool (!(← contains (Value.ref a) (Value.int i k)))) _ _ s
  refine wpAny_bind (wpAny_contains_slot (T := "range") ⟨_, ho, rfl⟩ F.slot_range_contains (call_meets F.slot_range_contains ⟨_, ho, rfl⟩ F.entry_range_contains (F.args_range_contains_2 _ _) (q_contains a lo hi i t1 t2 t3 k)
    ⟨ho, wpAny_truthy_bool (wpAny_pure ⟨.bl _, H, I, rfl, ?_⟩)⟩))
  rw [place1]
  exact q
def rRg (ng : Bool) : R2 := fun x y H Q => ∃ i a lo hi, x = V.int i ∧ y = V.ref a ∧ H a = some (.rng lo hi) ∧ Q (.bl (if ng then !decide (lo ≤ i ∧ i < hi) else decide (lo ≤ i ∧ i < hi))) H
theorem op_rg (ng : Bool) : OpR X (compareOp (if ng then .NotIn else .In)) (rRg ng) := by
  cases ng with
  | true => exact op_notIn_rng
  | false => exact op_in_rng
abbrev rRange : List V → Hp → VK → Prop := fun vs H Q => ((∃ j, vs = [V.int j] ∧ ∀ p, H p = none → Q (.ref p) (L2.upd H p (.rng 0 j))) ∨ ∃ i j, vs = [V.int i, V.int j] ∧ ∀ p, H p = none → Q (.ref p) (L2.upd H p (.rng i j)))
theorem rng_vs {vs : List V} {ts : List T} {n : Nat} {lo hi : Int} (ia : IsAll K Z H ι n vs ts) (e : rngBounds ts = some (lo, hi)) : (vs = [.int hi] ∧ lo = 0) ∨ vs = [.int lo, .int hi] := by
  unfold rngBounds at e
  split at e
  · cases e
    obtain ⟨v, rfl, iv⟩ := ia.inv1
    exact .inl ⟨by rw [is_int iv], rfl⟩
  · cases e
    obtain ⟨v, w, rfl, iv, iw⟩ := ia.inv2
    exact .inr (by rw [is_int iv, is_int iw])
  · cases e
theorem inr_lift {fa fr : SE} {ng : Bool} {σ : L2.St} {H : Hp} {Q : VK} (h : liftE K XR W (bindE fa fun x => argsE fr fun ts => match x, rngBounds ts with
    | .int i, some (lo, hi) => if -(2 ^ 62) ≤ lo ∧ lo < 2 ^ 62 ∧ -(2 ^ 62) ≤ hi ∧ hi < 2 ^ 62 then retE (.bl (if ng then !decide (lo ≤ i ∧ i < hi) else decide (lo ≤ i ∧ i < hi))) else noneE
    | _, _ => noneE) σ H Q) : tOp (rRg ng) (liftE K XR W fa) (tCB rRange (liftA K XR W fr)) σ H Q := by
  refine lift_mono (fun x H1 h1 => ?_) (lift_bind0 h)
  have h1' : liftK K XR W [x] (fun ts => argsE fr fun us => match ts with
    | [x] => (match x, rngBounds us with
      | .int i, some (lo, hi) => if -(2 ^ 62) ≤ lo ∧ lo < 2 ^ 62 ∧ -(2 ^ 62) ≤ hi ∧ hi < 2 ^ 62 then retE (.bl (if ng then !decide (lo ≤ i ∧ i < hi) else decide (lo ≤ i ∧ i < hi))) else noneE
      | _, _ => noneE)
    | _ => noneE) σ H1 Q := by
    obtain ⟨Z, ι, S, l, ts, R, sl, ia, p⟩ := h1
    refine ⟨Z, ι, S, l, ts, R, sl, ia, ?_⟩
    cases ia with
    | cons i j => cases j; exact p
  refine liftA_mono (fun vs H2 h2 => ?_) (args_bind h1')
  obtain ⟨n, hn, Z, ι, S, l, ts, R, sl, ia, p⟩ := h2
  obtain ⟨us, rs, rfl, ia1, ia2⟩ : ∃ us rs, ts = us ++ rs ∧ IsAll K Z H2 ι S.length vs us ∧ IsAll K Z H2 ι S.length [x] rs := by
    refine ⟨ts.take vs.length, ts.drop vs.length, (List.take_append_drop _ _).symm, ?_, ?_⟩
    · have := ia.take vs.length
      rwa [List.take_left] at this
    · have := ia.drop vs.length
      rwa [List.drop_left] at this
  have hl : us.length = n := by rw [hn, ia1.length]
  have e1 : (us ++ rs).drop n = rs := by rw [← hl]; simp
  have e2 : (us ++ rs).take n = us := by rw [← hl]; simp
  have p : Post K XR W Z ι S.length H2 σ Q ((fun ts us => match ts with
    | [x] => (match x, rngBounds us with
      | .int i, some (lo, hi) => if -(2 ^ 62) ≤ lo ∧ lo < 2 ^ 62 ∧ -(2 ^ 62) ≤ hi ∧ hi < 2 ^ 62 then retE (.bl (if ng then !decide (lo ≤ i ∧ i < hi) else decide (lo ≤ i ∧ i < hi))) else noneE
      | _, _ => noneE)
    | _ => noneE : List T → List T → SE) rs us l S) := by
    have this := p
    dsimp only at this
    rw [e1, e2] at this
    exact this
  obtain ⟨t, rfl⟩ : ∃ t, rs = [t] := by
    cases ia2 with
    | cons a b => cases b; exact ⟨_, rfl⟩
  have ix : Is K Z H2 ι S.length x t := by cases ia2 with | cons a b => exact a
  dsimp only at p
  cases t with
  | int i =>
    cases q : rngBounds us with
    | none => rw [q] at p; exact p.elim
    | some b =>
      obtain ⟨lo, hi⟩ := b
      rw [q] at p
      dsimp only at p
      by_cases g : -(2 ^ 62) ≤ lo ∧ lo < 2 ^ 62 ∧ -(2 ^ 62) ≤ hi ∧ hi < 2 ^ 62
      · rw [if_pos g] at p
        have hx := is_int ix
        subst hx
        have fin : ∀ pa, H2 pa = none → rRg ng (.int i) (.ref pa) (L2.upd H2 pa (.rng lo hi)) Q := fun pa hp =>
          ⟨i, pa, lo, hi, rfl, rfl, upd_same, p ι _ _ (Step.fresh hp) (R.fresh hp) (.bl _)⟩
        rcases rng_vs ia1 q with ⟨rfl, rfl⟩ | rfl
        · exact .inl ⟨hi, rfl, fin⟩
        · exact .inr ⟨lo, hi, rfl, fin⟩
      · rw [if_neg g] at p
        exact p.elim
  | _ => exact p.elim
end
end TL

/-! TL: iterators. -/
namespace TL
open PySem PySem.Spec PyProof.Rows L2
section
variable {K : PySem.W.Frag} {Z Z' : Addr → Prop} {H H' : Hp} {ι ι' : Nat → Addr} {n' : Nat}
mutual
theorem Is.stepZ {S : Sto} (R : Rel K Z ι S H) (hz : ∀ a o, H a = some o → Z' a → Z a) (s : Step ι S.length H ι' n' H') : ∀ {v : V} {t : T}, Is K Z H ι S.length v t → Is K Z' H' ι' n' v t
  | _, _, .non => .non
  | _, _, .bl b => .bl b
  | _, _, .int i => .int i
  | _, _, .str x => .str x
  | _, _, .tup (a := a) h hs => .tup (s.keep _ _ h (R.notup (.of h))) (IsAll.stepZ R hz s hs)
  | _, _, .lst h hn z hs => .lst (s.keep _ _ h hn) (s.nrec h hn) (fun q => z (hz _ _ h q)) (IsAll.stepZ R hz s hs)
  | _, _, .scrK h => .scrK h
  | _, _, .scr (a := a) h hn z => by
    obtain ⟨o, e⟩ := Rd.is h
    exact .scr (Rd.step s h hn) (s.nrec e hn) fun q => z (hz _ _ e q)
  | _, _, .dK h hn z hl hs => .dK (s.keep _ _ h hn) (s.nrec h hn) (fun q => z (hz _ _ h q)) hl (IsAll.stepZ R hz s hs)
  | _, _, .dT h hn z hl hs => .dT (s.keep _ _ h hn) (s.nrec h hn) (fun q => z (hz _ _ h q)) hl (IsAll.stepZ R hz s hs)
  | _, _, .ref (i := i) hi => by
    rw [← s.ext i hi]
    exact .ref (Nat.lt_of_lt_of_le hi s.le)
theorem IsAll.stepZ {S : Sto} (R : Rel K Z ι S H) (hz : ∀ a o, H a = some o → Z' a → Z a) (s : Step ι S.length H ι' n' H') : ∀ {vs : List V} {ts : List T}, IsAll K Z H ι S.length vs ts → IsAll K Z' H' ι' n' vs ts
  | _, _, .nil => .nil
  | _, _, .cons h hs => .cons (Is.stepZ R hz s h) (IsAll.stepZ R hz s hs)
end
theorem Sl.stepZ {S : Sto} {σ : L2.St} {l : Lo} (R : Rel K Z ι S H) (hz : ∀ a o, H a = some o → Z' a → Z a) (s : Step ι S.length H ι' n' H') (h : Sl K Z H ι S.length σ l) : Sl K Z' H' ι' n' σ l :=
  ⟨h.1, fun j t e => let ⟨v, e1, r⟩ := h.2 j t e; ⟨v, e1, Is.stepZ R hz s r⟩⟩
def isTup : T → Bool
  | .tup _ => true
  | _ => false
/-- a list, or a tuple -/
def SqB (K : PySem.W.Frag) (b : Bool) (H : Hp) (a : Addr) (vs : List V) : Prop := if b then SqT K H a vs else SqL K H a vs
theorem seq_okB {S : Sto} {x : V} {t : T} {ts : List T} (R : Rel K Z ι S H) (h : Is K Z H ι S.length x t) (e : S.seq t = some ts) : ∃ a vs, x = .ref a ∧ SqB K (isTup t) H a vs ∧ IsAll K Z H ι S.length vs ts := by
  cases h with
  | lst h hn hz hs => cases e; exact ⟨_, _, rfl, .of h, hs⟩
  | tup h hs => cases e; exact ⟨_, _, rfl, .of h, hs⟩
  | scr h hn hz => cases e; exact ⟨_, _, rfl, .inl h, isAll_ints _⟩
  | scrK h => cases e; exact ⟨_, _, rfl, .inr h, isAll_ints _⟩
  | ref hi =>
    rename_i i
    obtain ⟨a, vs, e1, e2, e3⟩ := items_ok (ts := ts) R (.ref hi) (by unfold Sto.items; unfold Sto.seq at e; exact e)
    exact ⟨a, vs, e1, .of e2, e3⟩
  | _ => cases e
theorem seq_noref {S S' : Sto} {t : T} (h : isRefT t = false) : S'.seq t = S.seq t := by
  cases t <;> first | rfl | cases h
theorem okSrc_eq {d : T} {items : List T} {S S' : Sto} (e : srcItems d S = some items) (h : okSrc d items S' = true) : srcItems d S' = some items := by
  unfold okSrc at h
  by_cases c : srcRef d = true
  · rw [if_pos c] at h
    cases q : srcItems d S' with
    | none => rw [q] at h; cases h
    | some ys => rw [q] at h; rw [T.sames_eq h]
  · have c : srcRef d = false := by simpa using c
    rw [← e]
    unfold srcItems
    unfold srcRef at c
    split <;> first
      | rfl
      | exact seq_noref (by simpa using c)
      | (rw [seq_noref (S := S) (S' := S') (by simpa using c)])
      | (simp only [Bool.or_eq_false_iff] at c
         rw [seq_noref (S := S) (S' := S') c.1, seq_noref (S := S) (S' := S') c.2])
/-- the iterator walks the items -/
structure ItW (K : PySem.W.Frag) (Z : Addr → Prop) (ι : Nat → Addr) (S : Sto) (H : Hp) (J : It) (d : T) (items : List T) : Prop where
  run : ∀ (Z' : Addr → Prop) (ι' : Nat → Addr) (S' : Sto) (H' : Hp), (∀ a o, H a = some o → Z' a → Z a) → Step ι S.length H ι' S'.length H' → Rel K Z' ι' S' H' → okSrc d items S' = true →
    (∀ i, i < items.length → J.go i H') ∧ J.stop items.length H' ∧ ∀ i x H'', i < items.length → J.yld i H' x H'' → ∃ t, items[i]? = some t ∧ Step ι' S'.length H' ι' S'.length H'' ∧ Rel K Z' ι' S' H'' ∧ Is K Z' H'' ι' S'.length x t
end
section
variable (K : PySem.W.Frag) (XR : XRel) (W : WX)
def PostI (Z : Addr → Prop) (ι : Nat → Addr) (n : Nat) (H : Hp) (σ : L2.St) (Q : It → Hp → Prop) : Option (Res × Sto) → Prop
  | some (.ok d, S') => ∃ items, srcItems d S' = some items ∧ ∀ ι' H' J, Step ι n H ι' S'.length H' → Rel K Z ι' S' H' → ItW K Z ι' S' H' J d items → Q J H'
  | some (.err x, S') => ∀ ι' H' cls d, Step ι n H ι' S'.length H' → Rel K Z ι' S' H' → XR Z x cls d H' ι' S'.length → W cls d σ H'
  | none => False
def liftI (f : SE) : TI := fun σ H R => ∃ (Z : Addr → Prop) (ι : Nat → Addr) (S : Sto) (l : Lo), Rel K Z ι S H ∧ Sl K Z H ι S.length σ l ∧ PostI K XR W Z ι S.length H σ R (f l S)
end
section
variable {K : PySem.W.Frag} {XR : XRel} {W : WX} {Z : Addr → Prop} {H : Hp} {ι : Nat → Addr} {S : Sto}
theorem PostI.of_step {ι ι1 : Nat → Addr} {n n1 : Nat} {H H1 : Hp} {σ : L2.St} {Q : It → Hp → Prop} (s : Step ι n H ι1 n1 H1) : ∀ {o : Option (Res × Sto)}, PostI K XR W Z ι n H σ Q o → PostI K XR W Z ι1 n1 H1 σ Q o
  | none, h => h
  | some (.ok d, S'), ⟨items, e, h⟩ => ⟨items, e, fun ι' H' v st R i => h ι' H' v (s.trans st) R i⟩
  | some (.err x, S'), h => fun ι' H' cls d st R i => h ι' H' cls d (s.trans st) R i
/-- the values first -/
theorem liftI_bind {f : SE} {g : T → SE} {σ : L2.St} {R : It → Hp → Prop} (h : liftI K XR W (bindE f g) σ H R) :
    liftE K XR W f σ H fun x H1 => ∃ (Z : Addr → Prop) (ι : Nat → Addr) (S : Sto) (l : Lo) (t : T), Rel K Z ι S H1 ∧ Sl K Z H1 ι S.length σ l ∧ Is K Z H1 ι S.length x t ∧ PostI K XR W Z ι S.length H1 σ R (g t l S) := by
  obtain ⟨Z, ι, S, l, R0, sl, p⟩ := h
  refine ⟨Z, ι, S, l, [], R0, sl, .nil, ?_⟩
  simp only [bindE] at p
  show Post K XR W Z ι S.length H σ _ (f l S)
  cases e : f l S with
  | none => rw [e] at p; exact p
  | some r =>
    obtain ⟨r, S'⟩ := r
    rw [e] at p
    cases r with
    | err x => exact p
    | ok t => exact fun ι' H' v st R' i => ⟨Z, ι', S', l, t, R', Sl.step R0 st sl, i, p.of_step st⟩
theorem liftI_argsN {f : SE} {g : List T → SE} {σ : L2.St} {R : It → Hp → Prop} {n : Nat} (hl : ∀ l S ts S', f l S = some (.ok (.lst ts), S') → ts.length = n) (h : liftI K XR W (argsE f g) σ H R) :
    liftA K XR W f σ H fun vs H1 => ∃ (Z : Addr → Prop) (ι : Nat → Addr) (S : Sto) (l : Lo) (ts : List T), Rel K Z ι S H1 ∧ Sl K Z H1 ι S.length σ l ∧ IsAll K Z H1 ι S.length vs ts ∧ vs.length = n ∧ PostI K XR W Z ι S.length H1 σ R (g ts l S) := by
  obtain ⟨Z, ι, S, l, R0, sl, p⟩ := h
  refine ⟨Z, ι, S, l, R0, sl, ?_⟩
  simp only [argsE, bindE] at p
  cases e : f l S with
  | none => rw [e] at p; exact p
  | some r =>
    obtain ⟨r, S'⟩ := r
    rw [e] at p
    cases r with
    | err x => exact p
    | ok t =>
      cases t with
      | lst us => exact fun ι' H' vs st R' i => ⟨Z, ι', S', l, us, R', Sl.step R0 st sl, i, by rw [i.length]; exact hl _ _ _ _ e, p.of_step st⟩
      | _ => obtain ⟨_, _, p⟩ := p <;> exact p.elim

theorem liftI_args {f : SE} {g : List T → SE} {σ : L2.St} {R : It → Hp → Prop} (h : liftI K XR W (argsE f g) σ H R) :
    liftA K XR W f σ H fun vs H1 => ∃ (Z : Addr → Prop) (ι : Nat → Addr) (S : Sto) (l : Lo) (ts : List T), Rel K Z ι S H1 ∧ Sl K Z H1 ι S.length σ l ∧ IsAll K Z H1 ι S.length vs ts ∧ PostI K XR W Z ι S.length H1 σ R (g ts l S) := by
  obtain ⟨Z, ι, S, l, R0, sl, p⟩ := h
  refine ⟨Z, ι, S, l, R0, sl, ?_⟩
  simp only [argsE, bindE] at p
  cases e : f l S with
  | none => rw [e] at p; exact p
  | some r =>
    obtain ⟨r, S'⟩ := r
    rw [e] at p
    cases r with
    | err x => exact p
    | ok t =>
      cases t with
      | lst us => exact fun ι' H' vs st R' i => ⟨Z, ι', S', l, us, R', Sl.step R0 st sl, i, p.of_step st⟩
      | _ => obtain ⟨_, _, p⟩ := p <;> exact p.elim
end

/-! ### lists and tuples -/
def Itb (K : PySem.W.Frag) (b : Bool) (a : Addr) : It := if b then Itt K a else Itl K a
def iSq (K : PySem.W.Frag) (te : TE) : TI := fun σ H R => te σ H fun x H1 => ∃ a b, x = .ref a ∧ (∃ xs, SqB K b H1 a xs) ∧ R (Itb K b a) H1
theorem pi_sq {X : Cx} {tg l : Expr} {tl : TE} (hl : PE X l tl) : PI X tg l (iSq X.K tl) := by
  refine ⟨fun pins s σ H R I h => ?_⟩
  refine thn (hl.run pins s σ H _ I h) fun v s1 ⟨x, H1, I1, r1, q1⟩ => ?_
  obtain ⟨a, b, e, ⟨xs, hq⟩, q⟩ := q1
  subst e
  cases r1
  cases b with
  | false =>
    obtain ⟨its, rv, p, hz⟩ := I1.list hq
    refine wpAny_pyIter_list p.isList ?_
    exact pi_one (tk := s1.toks) I1 _ (turn_list a _) ⟨_, Heap.get?_push_size _ rfl, rfl, rfl⟩ q
  | true =>
    obtain ⟨its, rv, p, hz⟩ := I1.tuple hq
    refine wpAny_pyIter_tuple (show s1.heap.IsTuple a its.toArray from p) ?_
    exact pi_one (tk := s1.toks) I1 _ (turn_tuple a _) ⟨_, Heap.get?_push_size _ rfl, rfl, rfl⟩ q
section
variable {K : PySem.W.Frag} {XR : XRel} {W : WX} {Z : Addr → Prop} {H : Hp} {ι : Nat → Addr} {S : Sto}
theorem itw_sq {a : Addr} {t : T} {items : List T} {k : Int} (R : Rel K Z ι S H) (i : Is K Z H ι S.length (.ref a) t) (e : S.seq t = some items) : ItW K Z ι S H (Itb K (isTup t) a) (.tup [.int k, t]) items := by
  refine ⟨fun Z' ι' S' H' hz st R' ok => ?_⟩
  have i' := Is.stepZ R hz st i
  have e' : S'.seq t = some items := okSrc_eq (d := .tup [.int k, t]) (S := S) e ok
  obtain ⟨a', vs, ea, sq, ia⟩ := seq_okB R' i' e'
  cases ea
  have hl := ia.length
  cases hb : isTup t with
  | true =>
    rw [hb] at sq
    refine ⟨fun i hi => ⟨vs, vs[i]'(by omega), sq, by simp [show i < vs.length by omega]⟩, ⟨vs, sq, by omega⟩, fun i x H'' hi y => ?_⟩
    obtain ⟨rfl, y⟩ := y
    obtain ⟨u, hu, iu⟩ := ia.get' (y vs sq)
    exact ⟨u, hu, .refl, R', iu⟩
  | false =>
    rw [hb] at sq
    refine ⟨fun i hi => ⟨vs, vs[i]'(by omega), sq, by simp [show i < vs.length by omega]⟩, ⟨vs, sq, by omega⟩, fun i x H'' hi y => ?_⟩
    obtain ⟨rfl, y⟩ := y
    obtain ⟨u, hu, iu⟩ := ia.get' (y vs sq)
    exact ⟨u, hu, .refl, R', iu⟩
theorem sq_lift {fa : SE} {σ : L2.St} {Q : It → Hp → Prop} (h : liftI K XR W (bindE fa fun x => retE (.tup [.int 0, x])) σ H Q) : iSq K (liftE K XR W fa) σ H Q := by
  refine lift_mono (fun x H1 h1 => ?_) (liftI_bind h)
  obtain ⟨Z, ι, S, l, t, R, sl, i, items, e, p⟩ := h1
  have e : S.seq t = some items := e
  obtain ⟨a, vs, rfl, sq, ia⟩ := seq_okB R i e
  exact ⟨a, isTup t, rfl, ⟨vs, sq⟩, p ι H1 _ .refl R (itw_sq R i e)⟩

/-! ### range -/
theorem itw_rng {lo hi : Int} (n : Nat) (hn : n = (hi - lo).toNat) : ItW K Z ι S H (Itr lo n) (.tup [.non, .lst (intRange lo hi)]) (intRange lo hi) := by
  have hl : (intRange lo hi).length = n := by simp [intRange, hn]
  refine ⟨fun Z' ι' S' H' hz st R' ok => ⟨fun i h => by rw [hl] at h; exact h, by show n ≤ _; omega, fun i x H'' h y => ?_⟩⟩
  obtain ⟨rfl, rfl⟩ := y
  have hi : i < (hi - lo).toNat := by omega
  exact ⟨.int (lo + (i : Nat)), by simp [intRange, List.getElem?_range hi], .refl, R', .int _⟩
theorem itw_rngC {i j : Int} (n : Nat) (hn : n = (i - j).toNat) : ItW K Z ι S H (Itc i (-1) n) (.tup [.non, .lst ((List.range (i - j).toNat).map fun k => .int (i - (k : Nat)))]) ((List.range (i - j).toNat).map fun k => .int (i - (k : Nat))) := by
  refine ⟨fun Z' ι' S' H' hz st R' ok => ⟨fun k h => by show k < n; simpa [hn] using h, by show n ≤ _; simp [hn], fun k x H'' h y => ?_⟩⟩
  obtain ⟨rfl, rfl⟩ := y
  have hi : k < (i - j).toNat := by simpa using h
  have e : i + (k : Int) * -1 = i - k := by omega
  exact ⟨.int (i - (k : Nat)), by simp [List.getElem?_range hi], .refl, R', by rw [e]; exact .int _⟩
def iRngA (n : Nat) (ta : TA) : TI := if n = 1 then iRng1 ta else if n = 2 then iRng2 ta else iRng3 ta
theorem rngA_lift {fr : SE} {n : Nat} (hl : ∀ l S ts S', fr l S = some (.ok (.lst ts), S') → ts.length = n) {σ : L2.St} {Q : It → Hp → Prop} (h : liftI K XR W (argsE fr fun ts => match rngF ts with
    | some xs => retE (.tup [.non, .lst xs])
    | none => noneE) σ H Q) : iRngA n (liftA K XR W fr) σ H Q := by
  have key : liftA K XR W fr σ H fun vs H1 =>
      (n = 1 ∧ ∃ j : Int, vs = [.int j] ∧ -(2 ^ 62) ≤ j ∧ j < 2 ^ 62 ∧ Q (Itr 0 j.toNat) H1) ∨
      (n = 2 ∧ ∃ i j : Int, vs = [.int i, .int j] ∧ (-(2 ^ 62) ≤ i ∧ i < 2 ^ 62 ∧ -(2 ^ 62) ≤ j ∧ j < 2 ^ 62) ∧ Q (Itr i (j - i).toNat) H1) ∨
      (n = 3 ∧ ∃ (i j c : Int) (n : Nat), vs = [.int i, .int j, .int c] ∧ RgC i j c n ∧ Q (Itc i c n) H1) := by
    refine liftA_mono (fun vs H1 h1 => ?_) (liftI_argsN hl h)
    obtain ⟨Z, ι, S, l, ts, R, sl, ia, hn, p⟩ := h1
    cases e : rngF ts with
    | none => rw [e] at p; exact p.elim
    | some xs =>
      rw [e] at p
      unfold rngF at e
      obtain ⟨items, e2, p⟩ := p
      have e2 : xs = items := by cases e2; rfl
      subst e2
      split at e
      · rename_i i j c
        split at e
        · rename_i g
          obtain ⟨rfl, g⟩ := g
          cases e
          cases ia with
          | cons a b =>
            obtain ⟨v, w, rfl, iv, iw⟩ := b.inv2
            cases is_int a; cases is_int iv; cases is_int iw
            exact .inr (.inr ⟨hn.symm, i, j, -1, _, rfl, RgC.neg g.1 g.2.1 g.2.2.1 g.2.2.2, p ι H1 _ .refl R (itw_rngC _ rfl)⟩)
        · cases e
      · cases q : rngBounds ts with
        | none => rw [q] at e; cases e
        | some b =>
          obtain ⟨lo, hi⟩ := b
          rw [q] at e
          dsimp only at e
          split at e
          · rename_i g
            cases e
            rcases rng_vs ia q with ⟨rfl, rfl⟩ | rfl
            · exact .inl ⟨hn.symm, hi, rfl, g.2.2.1, g.2.2.2, p ι H1 _ .refl R (itw_rng _ (by simp))⟩
            · exact .inr (.inl ⟨hn.symm, lo, hi, rfl, g, p ι H1 _ .refl R (itw_rng _ rfl)⟩)
          · cases e
  unfold iRngA
  by_cases h1 : n = 1
  · rw [if_pos h1]
    refine liftA_mono (fun vs H1 q => ?_) key
    rcases q with ⟨_, q⟩ | ⟨h2, _⟩ | ⟨h2, _⟩
    · exact q
    · omega
    · omega
  · rw [if_neg h1]
    by_cases h2 : n = 2
    · rw [if_pos h2]
      refine liftA_mono (fun vs H1 q => ?_) key
      rcases q with ⟨h3, _⟩ | ⟨_, q⟩ | ⟨h3, _⟩
      · omega
      · exact q
      · omega
    · rw [if_neg h2]
      refine liftA_mono (fun vs H1 q => ?_) key
      rcases q with ⟨h3, _⟩ | ⟨h3, _⟩ | ⟨_, q⟩
      · omega
      · omega
      · exact q
end
end TL

/-! TL: enumerate and zip of lists and tuples in any mixture. -/
namespace TL
open PySem PySem.Spec PyProof.Rows L2
def itAt (b : Bool) (h : Heap) (it a : Addr) (i : Nat) : Prop := if b then h.IsTupleIter it a i else h.IsListIter it a i
def seqAt (b : Bool) (h : Heap) (a : Addr) (items : Array Value) : Prop := if b then h.IsTuple a items else h.IsList a items
theorem itAt.has {b : Bool} {h : Heap} {it a : Addr} {i : Nat} (x : itAt b h it a i) : ∃ o, h.get? it = some o ∧ ∀ v, o.data ≠ .cell v := by
  cases b with
  | false => obtain ⟨o, e, c, d⟩ := x; exact ⟨o, e, fun v z => by rw [d] at z; cases z⟩
  | true => obtain ⟨o, e, c, d⟩ := x; exact ⟨o, e, fun v z => by rw [d] at z; cases z⟩
theorem itAt.at {b : Bool} {h h' : Heap} {it a : Addr} {i : Nat} (x : itAt b h it a i) (k : ∀ o, h.get? it = some o → h'.get? it = some o) : itAt b h' it a i := by
  cases b with
  | false => exact Heap.IsListIter.at x k
  | true => exact Heap.IsTupleIter.at x k
theorem draws_b (b : Bool) {prog : Program} {w : World} {A : Around} (hh : A.handled = none) (it a : Addr) (hne : a ≠ it) (items : Array Value) :
    Draws prog w A it [it, a] items.size (fun i v => items[i]? = some v) (fun i h => itAt b h it a i ∧ seqAt b h a items) := by
  cases b with
  | false => exact Draws.list hh it a hne items
  | true => exact Draws.tuple hh it a hne items
def itOf (b : Bool) (a : Addr) : Obj := if b then { cls := .type "tuple_iterator", data := .fields #[.ref a, .int 0 0] } else { cls := .type "list_iterator", data := .fields #[.ref a, .int 0 0] }
theorem begins_b (b : Bool) (a : Addr) (items : Array Value) : Begins (.ref a) (itOf b a) fun h => seqAt b h a items := by
  cases b with
  | false => exact begins_list a items
  | true => exact begins_tuple a items
theorem itOf_at {b : Bool} {h : Heap} {it a : Addr} (e : h.get? it = some (itOf b a)) : itAt b h it a 0 := by
  cases b with
  | false => exact ⟨_, e, rfl, rfl⟩
  | true => exact ⟨_, e, rfl, rfl⟩
theorem inv_sq {X : Cx} {pins : List (Addr × Obj)} {σ : L2.St} {H : Hp} {s : Shared} {b : Bool} {a : Addr} {xs : List V} (I : Inv X pins σ H s) (h : SqB X.K b H a xs) : ∃ its, Vals xs its ∧ seqAt b s.heap a its.toArray ∧ a < s.heap.objs.size := by
  cases b with
  | false =>
    obtain ⟨its, rv, p, _⟩ := I.list h
    exact ⟨its, rv, p.isList, p.lt⟩
  | true =>
    obtain ⟨its, rv, p, _⟩ := I.tuple h
    obtain ⟨o, ho, _⟩ := id p
    exact ⟨its, rv, p, Heap.lt_size ho⟩
theorem sq_inj {X : Cx} {pins : List (Addr × Obj)} {σ : L2.St} {H : Hp} {s : Shared} {b : Bool} {a : Addr} {xs ys : List V} (I : Inv X pins σ H s) (h : SqB X.K b H a xs) (k : SqB X.K b H a ys) : xs = ys := by
  cases b with
  | false => exact I.list_inj h k
  | true => exact I.tuple_inj h k

/-! ### zip -/
def ItzB (K : PySem.W.Frag) (b c : Bool) (a a' : Addr) : It :=
  ⟨fun i H => ∃ (xs ys : List V) (x y : V), SqB K b H a xs ∧ SqB K c H a' ys ∧ xs[i]? = some x ∧ ys[i]? = some y,
    fun i H v H' => ∃ T x y, v = .ref T ∧ H T = none ∧ H' = L2.upd H T (.tup [x, y]) ∧ (∀ xs, SqB K b H a xs → xs[i]? = some x) ∧ ∀ ys, SqB K c H a' ys → ys[i]? = some y,
    fun i H => ∃ xs ys : List V, SqB K b H a xs ∧ SqB K c H a' ys ∧ i ≤ xs.length ∧ i ≤ ys.length ∧ (i = xs.length ∨ i = ys.length)⟩
theorem turn_zipB {P : Program} {w : World} {K : PySem.W.Frag} {elts : List Expr} {kk : Nat} {tpos : Pos} (b c : Bool) {a a' z TI TO i1 i2 : Addr} (D : ZipSep2 z TI TO i1 i2 [i1, a] [i2, a']) (h1a : a ≠ i1) (h2a : a' ≠ i2) :
    Turn P w K (.Tuple elts kk tpos) (ItzB K b c a a') [z, TI, TO, i1, i2] z (fun i h => IsZip h z TI TO .none ∧ IsTupOf2 h TI (.ref i1) (.ref i2) ∧ (∃ x y, IsTupOf2 h TO x y) ∧ itAt b h i1 a i ∧ itAt c h i2 a' i) where
  mem := by simp
  obj := fun i h st q hq => by
    obtain ⟨hz, hTI, ⟨x, y, hTO⟩, h1, h2⟩ := st
    have e' : q = z ∨ q = TI ∨ q = TO ∨ q = i1 ∨ q = i2 := by simpa using hq
    rcases e' with q | q | q | q | q
    · rw [q]; exact ⟨_, hz, fun v q => nomatch q⟩
    · rw [q]; exact ⟨_, hTI, fun v q => nomatch q⟩
    · rw [q]; exact ⟨_, hTO, fun v q => nomatch q⟩
    · rw [q]; exact h1.has
    · rw [q]; exact h2.has
  keep := fun i h h' st k => by
    obtain ⟨hz, hTI, ⟨x, y, hTO⟩, h1, h2⟩ := st
    exact ⟨k z (by simp) _ hz, k TI (by simp) _ hTI, ⟨x, y, k TO (by simp) _ hTO⟩, h1.at fun o q => k i1 (by simp) o q, h2.at fun o q => k i2 (by simp) o q⟩
  item := by
    intro X hP hw hK hc i pins s σ H E I hf st hg
    subst hP hw hK
    obtain ⟨hz, hTI, ⟨x0, y0, hTO⟩, h1, h2⟩ := st
    obtain ⟨xs, ys, x, y, hqx, hqy, hx, hy⟩ := hg
    obtain ⟨its, rv, p, _⟩ := inv_sq I hqx
    obtain ⟨its2, rv2, p2, _⟩ := inv_sq I hqy
    obtain ⟨u, hu, ru⟩ := rv.get hx
    obtain ⟨u2, hu2, ru2⟩ := rv2.get hy
    have hzl : z < s.heap.objs.size := Heap.lt_size hz
    have hh : X.A.in1.handled = none := I.ok.hd hc
    have l1 : i < its.toArray.size := by
      have := (List.getElem?_eq_some_iff.mp hu).1
      simpa using this
    have l2 : i < its2.toArray.size := by
      have := (List.getElem?_eq_some_iff.mp hu2).1
      simpa using this
    refine wpAny_pyNext_zipD2_item D (draws_b b hh i1 a h1a its.toArray) (draws_b c hh i2 a' h2a its2.toArray) hz hTI hTO ⟨h1, p⟩ ⟨h2, p2⟩ l1 l2 fun v1 v2 h' tk q1 q2 z' TO' h1' h2' hT hsz hk => ?_
    have q1 : v1 = u := by have q1 : its.toArray[i]? = some v1 := q1; rw [List.getElem?_toArray, hu] at q1; cases q1; rfl
    have q2 : v2 = u2 := by have q2 : its2.toArray[i]? = some v2 := q2; rw [List.getElem?_toArray, hu2] at q2; cases q2; rfl
    subst q1 q2
    refine ⟨_, rfl, wpAny_letOwnedTupleGo_zip (s := { s with heap := h', toks := tk }) z' fun h'' z'' sb => ?_⟩
    have hT2 : h''.get? s.heap.objs.size = some { cls := .type "tuple", data := .seq #[v1, v2] } := (sb.2 _ (Nat.ne_of_gt hzl)).trans hT
    have new : ObjOk X.prog X.w (L2.upd H s.heap.objs.size (.tup [x, y])) h'' s.heap.objs.size (.tup [x, y]) :=
      ⟨by show 2 ≤ sizeLine; decide, [v1, v2], .cons ru (.cons ru2 .nil), ⟨_, hT2, rfl, _, rfl⟩⟩
    have I1 : Inv X pins σ (L2.upd H s.heap.objs.size (.tup [x, y])) { s with heap := h'', toks := tk } :=
      I.turnedNew (t' := tk) (ch := [z, TI, TO, i1, i2]) (fun c o hb q => (sb.2 c (fun q' => hb (by simp [q']))).trans (hk c o (fun q' => hb (by simp [q'])) (fun q' => hb (by simp [q'])) (fun q' => hb (by simp [q'])) (fun q' => hb (by simp [q'])) q)) hf (Nat.le_refl _) new
    refine ⟨.ref s.heap.objs.size, _, I1, rfl, ⟨_, x, y, rfl, I.hok.fresh (Nat.le_refl _), rfl, fun l hl => by rw [sq_inj I hl hqx]; exact hx, fun l hl => by rw [sq_inj I hl hqy]; exact hy⟩, ⟨z'', ?_, ⟨v1, v2, ?_⟩, ?_, ?_⟩, fun q hq => ?_⟩
    · exact (sb.2 _ D.TIz).trans (hk _ _ D.TIz D.TITO D.TIi1 D.TIi2 hTI)
    · exact (sb.2 _ D.TOz).trans TO'
    · exact h1'.1.at fun o q => (sb.2 _ (Ne.symm D.zi1)).trans q
    · exact h2'.1.at fun o q => (sb.2 _ (Ne.symm D.zi2)).trans q
    · have hlt : q < s.heap.objs.size := by
        have e' : q = z ∨ q = TI ∨ q = TO ∨ q = i1 ∨ q = i2 := by simpa using hq
        rcases e' with q | q | q | q | q
        · rw [q]; exact hzl
        · rw [q]; exact Heap.lt_size hTI
        · rw [q]; exact Heap.lt_size hTO
        · rw [q]; obtain ⟨_, e1, _⟩ := h1.has; exact Heap.lt_size e1
        · rw [q]; obtain ⟨_, e2, _⟩ := h2.has; exact Heap.lt_size e2
      rw [upd_ne (Nat.ne_of_lt hlt)]
      exact (hf q hq).1
  done := by
    intro X hP hw hK hc i pins s σ H E I hf st hg
    subst hP hw hK
    obtain ⟨hz, hTI, ⟨x0, y0, hTO⟩, h1, h2⟩ := st
    obtain ⟨xs, ys, hqx, hqy, g1, g2, g3⟩ := hg
    obtain ⟨its, rv, p, _⟩ := inv_sq I hqx
    obtain ⟨its2, rv2, p2, _⟩ := inv_sq I hqy
    have l1 := rv.length
    have l2 := rv2.length
    have hh : X.A.in1.handled = none := I.ok.hd hc
    refine wpAny_pyNext_zipD2_end D (draws_b b hh i1 a h1a its.toArray) (draws_b c hh i2 a' h2a its2.toArray) hz hTI hTO ⟨h1, p⟩ ⟨h2, p2⟩ (by simp; omega) (by simp; omega) (by simp; omega) fun h' tk hk => ⟨rfl, I.turnedL (t' := tk) (ch := [z, TI, TO, i1, i2]) (fun c o hb q =>
      hk c o (fun q' => hb (by simp [q'])) (fun q' => hb (by simp [q'])) (fun q' => hb (by simp [q'])) (fun q' => hb (by simp [q'])) q) hf⟩
  self := fun A i s Q E st h => wpAny_pyIter_zip st.1 h
def iZipB (K : PySem.W.Frag) (ta : TA) : TI := fun σ H R => ta σ H fun vs H1 => ∃ b c a a', vs = [.ref a, .ref a'] ∧ (∃ xs, SqB K b H1 a xs) ∧ (∃ ys, SqB K c H1 a' ys) ∧ R (ItzB K b c a a') H1
theorem pi_zipB {X : Cx} {e e2 : Expr} {ta : TA} {p pos tpos : Pos} {elts : List Expr} {kk : Nat} (hg : Gl X "zip") (hm : X.mg "zip" = none) (ha : PA X [e, e2] ta)
    (hs : starEach [e, e2] X.env = (false, eval e X.env) :: starEach [e2] X.env := by rfl) (hpl : (backTo pos (starEach [e2] X.env)).any (·.1) = false := by rfl) :
    PI X (.Tuple elts kk tpos) (.Call (.Name "zip" p) [e, e2] [] pos) (iZipB X.K ta) := by
  refine ⟨fun pins s σ H R I h => ?_⟩
  refine Call_ (ld_blt I hg hm PyProof.Rows.boot_zip (PyProof.Rows.callWith_type1 (thn (ha.run pos pins s σ H _ I h) fun us s1 ⟨vs, H1, I1, r1, q1⟩ => ?_) hs hpl))
  obtain ⟨b, c, a, a', ex, ⟨xs, hqx⟩, ⟨ys, hqy⟩, q⟩ := q1
  subst ex
  cases r1 with
  | cons r rr =>
    cases rr with
    | cons r' rr =>
      cases rr
      cases r
      cases r'
      have fresh5 : ∀ c, c ∈ [s1.heap.objs.size + 4, s1.heap.objs.size + 2, s1.heap.objs.size + 3, s1.heap.objs.size, s1.heap.objs.size + 1] → FpOk X pins H1 c := fun c hcm => by
        have e' : c = s1.heap.objs.size + 4 ∨ c = s1.heap.objs.size + 2 ∨ c = s1.heap.objs.size + 3 ∨ c = s1.heap.objs.size ∨ c = s1.heap.objs.size + 1 := by simpa using hcm
        have hle : s1.heap.objs.size ≤ c := by
          rcases e' with z | z | z | z | z
          · rw [z]; exact Nat.le_add_right _ _
          · rw [z]; exact Nat.le_add_right _ _
          · rw [z]; exact Nat.le_add_right _ _
          · rw [z]; exact Nat.le_refl _
          · rw [z]; exact Nat.le_add_right _ _
        exact I1.fpOk hle (I1.hok.fresh hle)
      obtain ⟨its, rv, p1, la⟩ := inv_sq I1 hqx
      obtain ⟨its2, rv2, p2, lb⟩ := inv_sq I1 hqy
      refine zip_begins2 (begins_b b a its.toArray) (begins_b c a' its2.toArray) p1 p2 fun h' hz hTI hTO h1 h2 hsz hk => wpAny_pyIter_zip hz ?_
      have I2 : Inv X pins σ H1 { s1 with heap := h' } := I1.kept (t' := s1.toks) hk
      have S := PySem.zip_sep2 (N := s1.heap.objs.size) (fp1 := [a]) (fp2 := [a']) (fun b hb => by cases List.mem_singleton.mp hb; exact la) (fun b hb => by cases List.mem_singleton.mp hb; exact lb)
      exact ⟨s1.heap.objs.size + 4, [s1.heap.objs.size + 4, s1.heap.objs.size + 2, s1.heap.objs.size + 3, s1.heap.objs.size, s1.heap.objs.size + 1], _, _, H1, rfl, I2, turn_zipB b c S (Nat.ne_of_lt la) (Nat.ne_of_lt (Nat.lt_succ_of_lt lb)), ⟨hz, hTI, ⟨_, _, hTO⟩, itOf_at h1, itOf_at h2⟩, fresh5, q⟩

/-! ### enumerate -/
def IteB (K : PySem.W.Frag) (b : Bool) (a : Addr) : It :=
  ⟨fun i H => ∃ (xs : List V) (x : V), SqB K b H a xs ∧ xs[i]? = some x, fun i H v H' => ∃ T x, v = .ref T ∧ H T = none ∧ H' = L2.upd H T (.tup [.int (i : Nat), x]) ∧ ∀ xs, SqB K b H a xs → xs[i]? = some x, fun i H => ∃ xs : List V, SqB K b H a xs ∧ xs.length = i⟩
theorem turn_enumB {P : Program} {w : World} {K : PySem.W.Frag} {elts : List Expr} {kk : Nat} {tpos : Pos} (b : Bool) (a e it : Addr) (hai : a ≠ it) (hea : e ≠ a) :
    Turn P w K (.Tuple elts kk tpos) (IteB K b a) [e, it] e (fun i h => (∃ old, IsEnum h e it ((i : Nat) : Int) old) ∧ itAt b h it a i ∧ e ≠ it) where
  mem := by simp
  obj := fun i h st b hb => by
    obtain ⟨⟨old, he⟩, h1, _⟩ := st
    have e' : b = e ∨ b = it := by simpa using hb
    rcases e' with z | z
    · rw [z]; exact ⟨_, he, fun v q => nomatch q⟩
    · rw [z]; exact h1.has
  keep := fun i h h' st k => let ⟨⟨old, he⟩, hi, hne⟩ := st; ⟨⟨old, k e (by simp) _ he⟩, hi.at fun o q => k it (by simp) o q, hne⟩
  item := by
    intro X hP hw hK hc i pins s σ H E I hf st hg
    subst hP hw hK
    obtain ⟨⟨old, he⟩, hit, hne⟩ := st
    obtain ⟨xs, x, hq, hx⟩ := hg
    obtain ⟨its, rv, p, _⟩ := inv_sq I hq
    obtain ⟨u, hu, ru⟩ := rv.get hx
    have hel : e < s.heap.objs.size := Heap.lt_size he
    have hil : it < s.heap.objs.size := by obtain ⟨_, q, _⟩ := hit.has; exact Heap.lt_size q
    have hh : X.A.in1.handled = none := I.ok.hd hc
    have l1 : i < its.toArray.size := by
      have := (List.getElem?_eq_some_iff.mp hu).1
      simpa using this
    refine wpAny_pyNext_enum_itemD (draws_b b hh it a hai its.toArray) he ⟨hit, p⟩ l1 hne (by simp [hne, hea]) fun v h' tk q1 ho hit' hT hsz hk => ?_
    have q1 : v = u := by have q1 : its.toArray[i]? = some v := q1; rw [List.getElem?_toArray, hu] at q1; cases q1; rfl
    subst q1
    refine ⟨_, rfl, wpAny_letOwnedTupleGo_enum (s := { s with heap := h', toks := tk + 1 }) ho fun h'' he' sb => ?_⟩
    have hT2 : h''.get? s.heap.objs.size = some { cls := .type "tuple", data := .seq #[.int i tk, v] } := (sb.2 _ (Nat.ne_of_gt hel)).trans hT
    have new : ObjOk X.prog X.w (L2.upd H s.heap.objs.size (.tup [.int (i : Nat), x])) h'' s.heap.objs.size (.tup [.int (i : Nat), x]) :=
      ⟨by show 2 ≤ sizeLine; decide, [.int i tk, v], .cons ⟨_, rfl⟩ (.cons ru .nil), ⟨_, hT2, rfl, _, rfl⟩⟩
    have I1 : Inv X pins σ (L2.upd H s.heap.objs.size (.tup [.int (i : Nat), x])) { s with heap := h'', toks := tk + 1 } :=
      I.turnedNew (ch := [e, it]) (fun b ob hb q => (sb.2 b (fun z => hb (by simp [z]))).trans (hk b ob (fun z => hb (by simp [z])) (fun z => hb (by simp [z])) q)) hf (Nat.le_refl _) new
    refine ⟨.ref s.heap.objs.size, _, I1, rfl, ⟨_, x, rfl, I.hok.fresh (Nat.le_refl _), rfl, fun ys hy => by rw [sq_inj I hy hq]; exact hx⟩, ⟨⟨v, ?_⟩, hit'.1.at fun o q => (sb.2 it (Ne.symm hne)).trans q, hne⟩, fun b hb => ?_⟩
    · have e1 : ((i + 1 : Nat) : Int) = (i : Int) + 1 := by omega
      rw [e1]; exact he'
    · have hb' : b < s.heap.objs.size := by
        have e' : b = e ∨ b = it := by simpa using hb
        rcases e' with z | z
        · rw [z]; exact hel
        · rw [z]; exact hil
      rw [upd_ne (Nat.ne_of_lt hb')]
      exact (hf b hb).1
  done := by
    intro X hP hw hK hc i pins s σ H E I hf st hg
    subst hP hw hK
    obtain ⟨⟨old, he⟩, hit, hne⟩ := st
    obtain ⟨xs, hq, hx⟩ := hg
    obtain ⟨its, rv, p, _⟩ := inv_sq I hq
    obtain ⟨f0, f1, f2, f3, f4, f5⟩ := hf it (by simp)
    have hl := rv.length
    have hh : X.A.in1.handled = none := I.ok.hd hc
    have e2 : its.toArray.size = i := by simp; omega
    refine wpAny_pyNext_enum_endD (draws_b b hh it a hai its.toArray) he ⟨by rw [e2]; exact hit, p⟩ fun h' eb => ⟨rfl, I.turned (t' := s.toks) (fun b o hb q => eb b o hb q) f0 f1 f3 f4 f5⟩
  self := fun A i s Q E st h => let ⟨⟨_, he⟩, _⟩ := st; wpAny_pyIter_enum he h
end TL

/-! TL: enumerate of one argument; the lifts. -/
namespace PySem
open Sem (wp)
set_option maxHeartbeats 1000000 in
theorem tl_meets_enumerate_new1 {v : Value} {o : Obj} {H : Heap → Prop} (B : Begins v o H) :
    Meets (Builtin.«enumerate.__new__» ⟨[.type "enumerate", v], []⟩) (fun _ R s => H s.heap ∧
      R (.ok (.ret (.ref (s.heap.push o).objs.size)))
        { s with heap := (s.heap.push o).push { cls := .type "enumerate", data := .fields #[.none, .bool false, .ref s.heap.objs.size, rawInt 0, .none, .none] } }) :=
  .of_wp fun prog w A R s h => by
    obtain ⟨hp, g, d, tk, os⟩ := s
    obtain ⟨h1, h⟩ := h
    have hsub := sub_enumerate
    have q1 : ∀ {A' : Around} {E : Value → Shared → Prop} {Q : Value → Shared → Prop}, Q (.ref hp.objs.size) ⟨hp.push o, g, d, tk, os⟩ → wpAny (model prog w) A' (pyIter v) Q E ⟨hp, g, d, tk, os⟩ :=
      fun q => B.iter prog w _ _ ⟨hp, g, d, tk, os⟩ _ h1 q
    wp_walk using q1
    refine wpAny_stack_any fun st => wpAny_pure ?_
    split
    · rename_i c _ _ _ _ _
      cases (c == Value.type "enumerate")
      · wp_walk using q1
        exact ⟨_, rfl, h⟩
      · wp_walk using q1
        exact ⟨_, rfl, h⟩
    · wp_walk using q1
      exact ⟨_, rfl, h⟩
theorem tl_enum_begins {prog : Program} {w : World} {A : Around} {E : Value → Shared → Prop} {s : Shared} {v : Value} {o : Obj} {H : Heap → Prop} {Q : Value → Shared → Prop} (B : Begins v o H) (h1 : H s.heap)
    (h : ∀ h', IsEnum h' (s.heap.objs.size + 1) s.heap.objs.size 0 .none → h'.get? s.heap.objs.size = some o → h'.objs.size = s.heap.objs.size + 2 →
      (∀ b o, s.heap.get? b = some o → h'.get? b = some o) → Q (.ref (s.heap.objs.size + 1)) { s with heap := h' }) :
    wpAny (model prog w) A (call (.type "enumerate") [v]) Q E s := by
  refine callType_new F.called_enumerate (by decide) (F.typeCall_enumerate_1 _) (F.newCall_enumerate_1 _) (fun obj => F.args_object_init_2 obj _) F.entry_enumerate_new
    (tl_meets_enumerate_new1 B) ⟨h1, ?_⟩
  have hz : (s.heap.push o).objs.size = s.heap.objs.size + 1 := Heap.size_push ..
  show _ ∧ _
  rw [hz]
  have he : IsEnum ((s.heap.push o).push { cls := .type "enumerate", data := .fields #[.none, .bool false, .ref s.heap.objs.size, rawInt 0, .none, .none] }) (s.heap.objs.size + 1) s.heap.objs.size 0 .none := by
    have := Heap.get?_push_size (s.heap.push o) (o := { cls := .type "enumerate", data := .fields #[.none, .bool false, .ref s.heap.objs.size, rawInt 0, .none, .none] }) rfl
    rw [hz] at this; exact this
  refine ⟨⟨_, he, rfl⟩, h _ he (Heap.get?_push_of_some _ (Heap.get?_push_size _ B.free)) (by rw [Heap.size_push, hz]) fun b o x => Heap.get?_push_of_some _ (Heap.get?_push_of_some _ x)⟩
end PySem
namespace TL
open PySem PySem.Spec PyProof.Rows L2
def iEnumB (K : PySem.W.Frag) (ta : TA) : TI := fun σ H R => ta σ H fun vs H1 => ∃ b a, vs = [.ref a] ∧ (∃ xs, SqB K b H1 a xs) ∧ R (IteB K b a) H1
theorem pi_enumB {X : Cx} {e : Expr} {ta : TA} {p pos tpos : Pos} {elts : List Expr} {kk : Nat} (hg : Gl X "enumerate") (hm : X.mg "enumerate" = none) (ha : PA X [e] ta) (hs : starEach [e] X.env = [(false, eval e X.env)] := by rfl) :
    PI X (.Tuple elts kk tpos) (.Call (.Name "enumerate" p) [e] [] pos) (iEnumB X.K ta) := by
  refine ⟨fun pins s σ H R I h => ?_⟩
  refine Call_ (ld_blt I hg hm boot_enumerate (PyProof.Rows.callWith_type1 (thn (ha.run pos pins s σ H _ I h) fun us s1 ⟨vs, H1, I1, r1, q1⟩ => ?_) hs rfl))
  obtain ⟨b, a, ex, ⟨xs, hq⟩, q⟩ := q1
  subst ex
  cases r1 with
  | cons r rr =>
    cases rr
    cases r
    obtain ⟨its, rv, p', la⟩ := inv_sq I1 hq
    refine PySem.tl_enum_begins (begins_b b a its.toArray) p' fun h' he hit hsz hk => wpAny_pyIter_enum he ?_
    have I2 : Inv X pins σ H1 { s1 with heap := h' } := I1.kept (t' := s1.toks) hk
    refine ⟨s1.heap.objs.size + 1, [s1.heap.objs.size + 1, s1.heap.objs.size], _, _, H1, rfl, I2, turn_enumB b a (s1.heap.objs.size + 1) s1.heap.objs.size (Nat.ne_of_lt la) (Ne.symm (Nat.ne_of_lt (Nat.lt_succ_of_lt la))), ⟨⟨.none, he⟩, itOf_at hit, Nat.succ_ne_self _⟩, fun b hb => ?_, q⟩
    have e' : b = s1.heap.objs.size + 1 ∨ b = s1.heap.objs.size := by simpa using hb
    have hle : s1.heap.objs.size ≤ b := by
      rcases e' with z | z
      · rw [z]; exact Nat.le_add_right _ _
      · rw [z]; exact Nat.le_refl _
    exact I1.fpOk hle (I1.hok.fresh hle)
section
variable {K : PySem.W.Frag} {XR : XRel} {W : WX} {Z : Addr → Prop} {H : Hp} {ι : Nat → Addr} {S : Sto}
theorem enumT_get : ∀ {xs : List T} {k i : Nat} {t : T}, xs[i]? = some t → (enumT k xs)[i]? = some (.tup [.int ((k + i : Nat) : Int), t])
  | [], _, _, _, e => by simp at e
  | x :: r, k, 0, t, e => by simp at e; subst e; simp [enumT]
  | x :: r, k, i + 1, t, e => by
    have := enumT_get (k := k + 1) (xs := r) (i := i) (t := t) (by simpa using e)
    have e2 : k + 1 + i = k + (i + 1) := by omega
    rw [e2] at this
    simp only [enumT, List.getElem?_cons_succ]
    exact this
theorem enumT_len : ∀ {xs : List T} {k : Nat}, (enumT k xs).length = xs.length
  | [], _ => rfl
  | x :: r, k => by simp [enumT, enumT_len (xs := r)]
theorem zipT_get : ∀ {xs ys : List T} {i : Nat} {t u : T}, xs[i]? = some t → ys[i]? = some u → (zipT xs ys)[i]? = some (.tup [t, u])
  | [], _, _, _, _, e, _ => by simp at e
  | _ :: _, [], _, _, _, _, e => by simp at e
  | x :: r, y :: q, 0, t, u, e, e2 => by simp at e e2; subst e e2; simp [zipT]
  | x :: r, y :: q, i + 1, t, u, e, e2 => by
    simp only [zipT, List.getElem?_cons_succ]
    exact zipT_get (by simpa using e) (by simpa using e2)
theorem zipT_len : ∀ {xs ys : List T}, (zipT xs ys).length = min xs.length ys.length
  | [], _ => by simp [zipT]
  | _ :: _, [] => by simp [zipT]
  | x :: r, y :: q => by simp [zipT, zipT_len (xs := r) (ys := q)]
theorem itw_enum {a : Addr} {t : T} {items : List T} {k : Bool} (R : Rel K Z ι S H) (i : Is K Z H ι S.length (.ref a) t) (e : S.seq t = some items) : ItW K Z ι S H (IteB K (isTup t) a) (.tup [.bl k, t]) (enumT 0 items) := by
  refine ⟨fun Z' ι' S' H' hz st R' ok => ?_⟩
  have i' := Is.stepZ R hz st i
  have e' : srcItems (.tup [.bl k, t]) S' = some (enumT 0 items) := okSrc_eq (d := .tup [.bl k, t]) (S := S) (by show (S.seq t).map _ = _; rw [e]; rfl) ok
  have e' : (S'.seq t).map (enumT 0) = some (enumT 0 items) := e'
  cases q : S'.seq t with
  | none => rw [q] at e'; cases e'
  | some its =>
    rw [q] at e'
    have e' : enumT 0 its = enumT 0 items := by simpa using e'
    obtain ⟨a', vs, ea, sq, ia⟩ := seq_okB R' i' q
    cases ea
    have hl := ia.length
    have hl2 : (enumT 0 items).length = vs.length := by rw [← e', enumT_len, hl]
    rw [hl2]
    refine ⟨fun i hi => ⟨vs, vs[i]'(by omega), sq, by simp [hi]⟩, ⟨vs, sq, rfl⟩, fun i x H'' hi y => ?_⟩
    obtain ⟨p, z, rfl, hp, rfl, y⟩ := y
    obtain ⟨u, hu, iu⟩ := ia.get' (y vs sq)
    refine ⟨.tup [.int ((0 + i : Nat) : Int), u], by rw [← e']; exact enumT_get hu, .fresh hp, R'.fresh hp, .tup upd_same ?_⟩
    rw [Nat.zero_add]
    exact .cons (.int _) (.cons (Is.step R' (.fresh hp) iu) .nil)
theorem enum_lift {fa : SE} {σ : L2.St} {Q : It → Hp → Prop} (h : liftI K XR W (bindE fa fun x => retE (.tup [.bl false, x])) σ H Q) : iEnumB K (tCons (liftE K XR W fa) tNil) σ H Q := by
  refine lift_mono (fun x H1 h1 => ?_) (liftI_bind h)
  obtain ⟨Z, ι, S, l, t, R, sl, i, items, e, p⟩ := h1
  have e : (S.seq t).map (enumT 0) = some items := e
  cases q : S.seq t with
  | none => rw [q] at e; cases e
  | some its =>
    rw [q] at e
    have e : enumT 0 its = items := by simpa using e
    subst e
    obtain ⟨a, vs, rfl, sq, ia⟩ := seq_okB R i q
    exact ⟨isTup t, a, rfl, ⟨vs, sq⟩, p ι H1 _ .refl R (itw_enum R i q)⟩
theorem itw_zip {a a' : Addr} {t t' : T} {xs ys : List T} {k : Bool} (R : Rel K Z ι S H) (i1 : Is K Z H ι S.length (.ref a) t) (i2 : Is K Z H ι S.length (.ref a') t') (e1 : S.seq t = some xs) (e2 : S.seq t' = some ys) :
    ItW K Z ι S H (ItzB K (isTup t) (isTup t') a a') (.tup [.bl k, t, t']) (zipT xs ys) := by
  refine ⟨fun Z' ι' S' H' hz st R' ok => ?_⟩
  have i1' := Is.stepZ R hz st i1
  have i2' := Is.stepZ R hz st i2
  have e' : srcItems (.tup [.bl k, t, t']) S' = some (zipT xs ys) := okSrc_eq (d := .tup [.bl k, t, t']) (S := S) (by unfold srcItems; simp only [e1, e2]) ok
  unfold srcItems at e'
  cases q1 : S'.seq t with
  | none => simp only [q1] at e'; cases e'
  | some us =>
    cases q2 : S'.seq t' with
    | none => simp only [q1, q2] at e'; cases e'
    | some ws =>
      simp only [q1, q2] at e'
      have e' : zipT us ws = zipT xs ys := by simpa using e'
      obtain ⟨a1, vs, ea, sq, ia⟩ := seq_okB R' i1' q1
      obtain ⟨a2, vs2, ea2, sq2, ia2⟩ := seq_okB R' i2' q2
      cases ea; cases ea2
      have hl := ia.length
      have hl2 := ia2.length
      have hl3 : (zipT xs ys).length = min vs.length vs2.length := by rw [← e', zipT_len, hl, hl2]
      rw [hl3]
      refine ⟨fun i hi => ⟨vs, vs2, vs[i]'(by omega), vs2[i]'(by omega), sq, sq2, by simp [show i < vs.length by omega], by simp [show i < vs2.length by omega]⟩, ⟨vs, vs2, sq, sq2, by omega, by omega, by omega⟩, fun i x H'' hi y => ?_⟩
      obtain ⟨p, z, z2, rfl, hp, rfl, y, y2⟩ := y
      obtain ⟨u, hu, iu⟩ := ia.get' (y vs sq)
      obtain ⟨u2, hu2, iu2⟩ := ia2.get' (y2 vs2 sq2)
      refine ⟨.tup [u, u2], by rw [← e']; exact zipT_get hu hu2, .fresh hp, R'.fresh hp, .tup upd_same ?_⟩
      exact .cons (Is.step R' (.fresh hp) iu) (.cons (Is.step R' (.fresh hp) iu2) .nil)
theorem liftI_bindK {fa fb : SE} {g : T → T → SE} {σ : L2.St} {R : It → Hp → Prop} (h : liftI K XR W (bindE fa fun x => bindE fb fun y => g x y) σ H R) :
    liftE K XR W fa σ H fun x H1 => liftE K XR W fb σ H1 fun y H2 => ∃ (Z : Addr → Prop) (ι : Nat → Addr) (S : Sto) (l : Lo) (t u : T), Rel K Z ι S H2 ∧ Sl K Z H2 ι S.length σ l ∧ Is K Z H2 ι S.length x t ∧ Is K Z H2 ι S.length y u ∧ PostI K XR W Z ι S.length H2 σ R (g t u l S) := by
  refine lift_mono (fun x H1 h1 => ?_) (liftI_bind h)
  obtain ⟨Z, ι, S, l, t, R0, sl, ix, p⟩ := h1
  refine ⟨Z, ι, S, l, [], R0, sl, .nil, ?_⟩
  simp only [bindE] at p
  show Post K XR W Z ι S.length H1 σ _ (fb l S)
  cases e : fb l S with
  | none => rw [e] at p; exact p
  | some r =>
    obtain ⟨r, S'⟩ := r
    rw [e] at p
    cases r with
    | err x => exact p
    | ok t2 => exact fun ι' H' v st R' i => ⟨Z, ι', S', l, t, t2, R', Sl.step R0 st sl, Is.step R0 st ix, i, p.of_step st⟩
theorem zip_lift {fa fb : SE} {σ : L2.St} {Q : It → Hp → Prop} (h : liftI K XR W (bindE fa fun x => bindE fb fun y => retE (.tup [.bl true, x, y])) σ H Q) : iZipB K (tCons (liftE K XR W fa) (tCons (liftE K XR W fb) tNil)) σ H Q := by
  refine lift_mono (fun x H1 h1 => lift_mono (fun y H2 h2 => ?_) h1) (liftI_bindK h)
  obtain ⟨Z, ι, S, l, t, u, R, sl, i1, i2, items, e, p⟩ := h2
  unfold srcItems at e
  cases q1 : S.seq t with
  | none => simp only [q1] at e; cases e
  | some us =>
    cases q2 : S.seq u with
    | none => simp only [q1, q2] at e; cases e
    | some ws =>
      simp only [q1, q2] at e
      cases e
      obtain ⟨a, vs, rfl, sq, ia⟩ := seq_okB R i1 q1
      obtain ⟨a2, vs2, rfl, sq2, ia2⟩ := seq_okB R i2 q2
      exact ⟨isTup t, isTup u, a, a2, rfl, ⟨vs, sq⟩, ⟨vs2, sq2⟩, p ι H2 _ .refl R (itw_zip R i1 i2 q1 q2)⟩
end
end TL

/-! TL: comprehensions. -/
namespace TL
open PySem PySem.Spec PyProof.Rows L2
section
variable {K : PySem.W.Frag} {XR : XRel} {W : WX} {Z Z' : Addr → Prop} {H H' H0 : Hp} {ι ι' : Nat → Addr} {S : Sto}
theorem wipe_none {σ : L2.St} {i : Nat} : ∀ {vs : List Nat}, i ∈ vs → ∀ x, (L2.wipe σ vs)[i]? ≠ some (some x)
  | vs, hi, x, e => (L2.wipe_some e).2 hi
theorem wipe_in {σ : L2.St} {i : Nat} : ∀ {vs : List Nat}, i ∈ vs → i < σ.length → (L2.wipe σ vs)[i]? = some none := by
  intro vs hi hl
  have hl' : i < (L2.wipe σ vs).length := by rw [L2.wipe_length]; exact hl
  cases e : (L2.wipe σ vs)[i] with
  | none => rw [List.getElem?_eq_getElem hl', e]
  | some x => exact absurd (by rw [List.getElem?_eq_getElem hl', e]) (wipe_none (σ := σ) hi x)
theorem wipe_set {σ : L2.St} {vs : List Nat} {i : Nat} (hi : i ∈ vs) (x : Option V) : L2.wipe (σ.set i x) vs = L2.wipe σ vs := by
  apply List.ext_getElem?
  intro k
  by_cases hk : k ∈ vs
  · by_cases hl : k < σ.length
    · rw [wipe_in hk hl, wipe_in hk (by simpa using hl)]
    · rw [List.getElem?_eq_none (by rw [L2.wipe_length]; simpa using hl), List.getElem?_eq_none (by rw [L2.wipe_length]; omega)]
  · rw [L2.wipe_out hk, L2.wipe_out hk, List.getElem?_set_ne (fun e => hk (by rw [← e]; exact hi))]
theorem wipe_wipe {σ : L2.St} {vs : List Nat} : L2.wipe (L2.wipe σ vs) vs = L2.wipe σ vs := by
  apply List.ext_getElem?
  intro k
  by_cases hk : k ∈ vs
  · by_cases hl : k < σ.length
    · rw [wipe_in hk hl, wipe_in hk (by rw [L2.wipe_length]; exact hl)]
    · rw [List.getElem?_eq_none (by rw [L2.wipe_length, L2.wipe_length]; omega), List.getElem?_eq_none (by rw [L2.wipe_length]; omega)]
  · rw [L2.wipe_out hk]
def Tg.ins : Tg → List Nat
  | .name i => [i]
  | .tup is => is
/-- a target's rule -/
def GOk (K : PySem.W.Frag) (tg : Tg) (g : TG) : Prop := ∀ {Z : Addr → Prop} {H : Hp} {ι : Nat → Addr} {S : Sto} {x : V} {t : T} {σ : L2.St} {l l1 : Lo} {Q : L2.St → Hp → Prop}, Rel K Z ι S H → Is K Z H ι S.length x t → Sl K Z H ι S.length σ l → asgTg tg t l = some l1 →
  (∀ σ2, Sl K Z H ι S.length σ2 l1 → (∀ vs, (∀ i ∈ tg.ins, i ∈ vs) → L2.wipe σ2 vs = L2.wipe σ vs) → Q σ2 H) → g x σ H Q
theorem gok_name (i : Nat) : GOk K (.name i) (gName i) := by
  intro Z H ι S x t σ l l1 Q R ix sl e h
  cases e
  exact h _ (sl.set i ix) fun vs hv => wipe_set (hv i (List.mem_singleton.mpr rfl)) _
def gNames : List Nat → TGs
  | [] => gNil
  | i :: is => gCons (gName i) (gNames is)
theorem gok_names {Z : Addr → Prop} {H : Hp} {ι : Nat → Addr} {n : Nat} : ∀ {is : List Nat} {vs : List V} {ts : List T} {σ : L2.St} {l l1 : Lo} {Q : L2.St → Hp → Prop}, IsAll K Z H ι n vs ts → Sl K Z H ι n σ l → asgTup is ts l = some l1 →
    (∀ σ2, Sl K Z H ι n σ2 l1 → (∀ vs, (∀ i ∈ is, i ∈ vs) → L2.wipe σ2 vs = L2.wipe σ vs) → Q σ2 H) → gNames is vs σ H Q ∧ vs.length = is.length
  | [], _, _, σ, l, l1, Q, ia, sl, e, h => by
    cases ia with
    | nil => cases e; exact ⟨⟨rfl, h _ sl fun _ _ => rfl⟩, rfl⟩
    | cons _ _ => cases e
  | i :: is, _, _, σ, l, l1, Q, ia, sl, e, h => by
    cases ia with
    | nil => cases e
    | cons ix ia =>
      have := gok_names ia (sl.set i ix) e (Q := Q) fun σ2 s2 w2 => h σ2 s2 fun vs hv => by
        rw [w2 vs fun j hj => hv j (List.mem_cons_of_mem _ hj), wipe_set (hv i List.mem_cons_self)]
      exact ⟨⟨_, _, rfl, this.1⟩, by simp [this.2]⟩
theorem gok_tup (is : List Nat) : GOk K (.tup is) (gTup K is.length (gNames is)) := by
  intro Z H ι S x t σ l l1 Q R ix sl e h
  cases t with
  | tup ts =>
    cases ix with
    | tup ha ia =>
      have := gok_names ia sl e h
      exact ⟨_, _, rfl, .of ha, this.2, this.1⟩
  | _ => cases e
theorem Step.updFree {n n' : Nat} {D : Addr} {o : HO} (s : Step ι n H ι' n' H') (hD : H D = none) : Step ι n H ι' n' (L2.upd H' D o) :=
  ⟨s.le, s.ext, s.new, fun a u e hn => by rw [upd_ne (ne_of_none e hD)]; exact s.keep a u e hn, fun a u e => by rw [upd_ne (ne_of_none e hD)]; exact s.there a u e⟩
mutual
theorem Is.adopt {n : Nat} {D : Addr} : ∀ {v : V} {t : T}, Is K (fun a => Z a ∨ a = D) H ι n v t → Is K Z H (fun i => if i = n then D else ι i) (n + 1) v t
  | _, _, .non => .non
  | _, _, .bl b => .bl b
  | _, _, .int i => .int i
  | _, _, .str x => .str x
  | _, _, .tup h hs => .tup h (IsAll.adopt hs)
  | _, _, .lst h hn hz hs => by
    refine .lst h (fun i hi => ?_) (fun q => hz (.inl q)) (IsAll.adopt hs)
    by_cases e : i = n
    · simp only [e, if_true]; exact fun q => hz (.inr q.symm)
    · simp only [e, if_false]; exact hn i (by omega)
  | _, _, .scrK h => .scrK h
  | _, _, .scr h hn hz => by
    refine .scr h (fun i hi => ?_) (fun q => hz (.inl q))
    by_cases e : i = n
    · simp only [e, if_true]; exact fun q => hz (.inr q.symm)
    · simp only [e, if_false]; exact hn i (by omega)
  | _, _, .dK h hn hz hl hs => by
    refine .dK h (fun i hi => ?_) (fun q => hz (.inl q)) hl (IsAll.adopt hs)
    by_cases e : i = n
    · simp only [e, if_true]; exact fun q => hz (.inr q.symm)
    · simp only [e, if_false]; exact hn i (by omega)
  | _, _, .dT h hn hz hl hs => by
    refine .dT h (fun i hi => ?_) (fun q => hz (.inl q)) hl (IsAll.adopt hs)
    by_cases e : i = n
    · simp only [e, if_true]; exact fun q => hz (.inr q.symm)
    · simp only [e, if_false]; exact hn i (by omega)
  | _, _, .ref (i := i) hi => by
    have e : ι i = (fun j => if j = n then D else ι j) i := by simp [Nat.ne_of_lt hi]
    rw [e]
    exact .ref (Nat.lt_succ_of_lt hi)
theorem IsAll.adopt {n : Nat} {D : Addr} : ∀ {vs : List V} {ts : List T}, IsAll K (fun a => Z a ∨ a = D) H ι n vs ts → IsAll K Z H (fun i => if i = n then D else ι i) (n + 1) vs ts
  | _, _, .nil => .nil
  | _, _, .cons h hs => .cons (Is.adopt h) (IsAll.adopt hs)
end
theorem Rel.adopt {D : Addr} {vs : List V} {ts : List T} (R : Rel K (fun a => Z a ∨ a = D) ι S H) (hD : H D = some (.lst vs)) (hz : ¬ Z D) (ia : IsAll K (fun a => Z a ∨ a = D) H ι S.length vs ts) :
    Rel K Z (fun i => if i = S.length then D else ι i) (S ++ [.lst ts]) H where
  inj := fun i j hi hj e => by
    simp only [List.length_append, List.length_singleton] at hi hj
    by_cases h1 : i = S.length <;> by_cases h2 : j = S.length
    · omega
    · simp only [h1, h2, if_true, if_false] at e
      exact absurd (.inr e.symm) (R.nz j (by omega))
    · simp only [h1, h2, if_true, if_false] at e
      exact absurd (.inr e) (R.nz i (by omega))
    · simp only [h1, h2, if_false] at e
      exact R.inj i j (by omega) (by omega) e
  obj := fun i o e => by
    have el : (S ++ [Ob.lst ts]).length = S.length + 1 := by simp
    rw [el]
    by_cases h1 : i = S.length
    · subst h1
      rw [List.getElem?_append_right (Nat.le_refl _)] at e
      simp at e
      subst e
      simp only [if_true]
      exact .lst hD (IsAll.adopt ia)
    · have hi : i < S.length := by
        have := (List.getElem?_eq_some_iff.mp e).1
        simp at this; omega
      rw [List.getElem?_append_left hi] at e
      simp only [h1, if_false]
      cases R.obj i o e with
      | lst e1 hs => exact .lst e1 (IsAll.adopt hs)
      | dK e1 hl hs => exact .dK e1 hl (IsAll.adopt hs)
      | dT e1 hl hs => exact .dT e1 hl (IsAll.adopt hs)
  zt := fun a z => R.zt a (.inl z)
  nz := fun i hi z => by
    by_cases h1 : i = S.length
    · simp only [h1, if_true] at z; exact hz z
    · simp only [h1, if_false] at z
      exact R.nz i (by simp at hi; omega) (.inl z)
theorem Step.adopt {n0 n' : Nat} {ι0 : Nat → Addr} {D : Addr} (s : Step ι0 n0 H0 ι' n' H') (hD : H0 D = none) : Step ι0 n0 H0 (fun i => if i = n' then D else ι' i) (n' + 1) H' :=
  ⟨Nat.le_succ_of_le s.le, fun i hi => by rw [if_neg (Nat.ne_of_lt (Nat.lt_of_lt_of_le hi s.le))]; exact s.ext i hi, fun i h1 h2 => by
    by_cases e : i = n'
    · simp only [e, if_true]; exact hD
    · simp only [e, if_false]; exact s.new i h1 (by omega), s.keep, s.there⟩
theorem none_back {n n' : Nat} {D : Addr} (s : Step ι n H ι' n' H') (h : H' D = none) : H D = none := by
  cases e : H D with
  | none => rfl
  | some o =>
    obtain ⟨o', q⟩ := s.there D o e
    rw [h] at q; cases q
def WF : WX := fun _ _ _ _ => False
/-- what each turn's test is to be -/
def TOk (K : PySem.W.Frag) (XR : XRel) (fc : SE) (tt : TT) : Prop := ∀ {σ : L2.St} {H : Hp} {Q : Bool → Hp → Prop}, tB (liftE K XR WF fc) σ H Q → tt σ H Q
theorem comp_lift {nw : Bool} {own : List Nat} {tg : Tg} {fi fc fe : SE} {g : TG} {tt : TT} {σ : L2.St} {Q : VK} (hg : GOk K tg g) (ht : TOk K XR fc tt) (hin : ∀ i ∈ tg.ins, i ∈ own)
    (h : liftE K XR W (compE nw own tg fi fc fe) σ H Q) : tLc (liftI K XR W fi) g tt (liftE K XR WF fe) own σ H Q := by
  obtain ⟨Z, ι, S, l, ts, R, sl, ia, p⟩ := h
  cases ia
  refine ⟨Z, ι, S, l, R, sl, ?_⟩
  simp only [compE] at p
  cases e : fi l S with
  | none => rw [e] at p; exact p.elim
  | some r =>
    obtain ⟨r, S1⟩ := r
    rw [e] at p
    cases r with
    | err x => exact p
    | ok d =>
      dsimp only at p
      cases e2 : srcItems d S1 with
      | none => rw [e2] at p; exact p.elim
      | some items =>
        rw [e2] at p
        dsimp only at p
        by_cases hl : items.length ≤ LIM
        · rw [if_pos hl] at p
          cases e3 : compL tg fc fe d items (wipeL l own) items S1 with
          | none => rw [e3] at p; exact p.elim
          | some rr =>
            obtain ⟨vs, S2⟩ := rr
            rw [e3] at p
            refine ⟨items, e2, fun ι1 H1 J st1 R1 w => ?_⟩
            intro D hD
            have hz : ∀ a o, H1 a = some o → (Z a ∨ a = D) → Z a := fun a o h q => q.elim id fun q => by rw [q, hD] at h; cases h
            have slw : Sl K Z H1 ι1 S1.length (L2.wipe σ own) (wipeL l own) := (Sl.step R st1 sl).wipe own
            let Pv : Nat → Hp → Prop := fun i H' => ∃ (ι' : Nat → Addr) (S' : Sto) (acc : List V) (accT rest : List T), Step ι1 S1.length H1 ι' S'.length H' ∧ Rel K (fun a => Z a ∨ a = D) ι' S' H' ∧ H' D = some (.lst acc) ∧
              IsAll K (fun a => Z a ∨ a = D) H' ι' S'.length acc accT ∧ compL tg fc fe d items (wipeL l own) (items.drop i) S' = some (rest, S2) ∧ accT ++ rest = vs ∧ accT.length ≤ i
            have fin : ∀ H', Pv items.length H' → J.stop items.length H' ∧ Q (.ref D) H' := by
              rintro H' ⟨ι', S', acc, accT, rest, st, R', hD', ia, ce, ea, hle⟩
              rw [List.drop_length] at ce
              simp only [compL] at ce
              by_cases ok : okSrc d items S' = true
              · rw [if_pos ok] at ce
                cases ce
                rw [List.append_nil] at ea
                subst ea
                refine ⟨(w.run _ ι' S2 H' hz st R' ok).2.1, ?_⟩
                have nzD : ¬ Z D := Rel.notZ R1 hD
                cases nw with
                | false =>
                  have hn : ∀ i, i < S2.length → ι' i ≠ D := fun i hi q => R'.nz i hi (.inr q)
                  exact p ι' H' (.ref D) (st1.trans st) (Rel.less (fun a z => .inl z) R') (.lst hD' hn nzD (IsAll.less (fun a z => .inl z) ia))
                | true =>
                  have hD0 : H D = none := none_back st1 hD
                  have R2 := Rel.adopt R' hD' nzD ia
                  have s2 := Step.adopt (st1.trans st) hD0
                  have el : (S2 ++ [Ob.lst accT]).length = S2.length + 1 := by simp
                  have q := p (fun i => if i = S2.length then D else ι' i) H' (.ref D) (by rw [el]; exact s2) R2
                  have ed : V.ref D = V.ref ((fun i => if i = S2.length then D else ι' i) S2.length) := by simp
                  refine q ?_
                  rw [ed, el]
                  exact .ref (Nat.lt_succ_self _)
              · rw [if_neg ok] at ce; cases ce
            have turn : ∀ i H', i < items.length → Pv i H' → J.go i H' ∧ ∀ x H'', J.yld i H' x H'' → g x (L2.wipe σ own) H'' fun σ2 H2 => L2.wipe σ2 own = L2.wipe σ own ∧ tt σ2 H2 fun b H3 =>
                if b = true then liftE K XR WF fe σ2 H3 fun y H4 => ∃ acc, H4 D = some (.lst acc) ∧ acc.length < sizeLine ∧ Pv (i + 1) (L2.upd H4 D (.lst (acc ++ [y]))) else Pv (i + 1) H3 := by
              rintro i H' hi ⟨ι', S', acc, accT, rest, st, R', hD', ia, ce, ea, hle⟩
              have ed : items.drop i = items[i] :: items.drop (i + 1) := by rw [List.drop_eq_getElem_cons hi]
              rw [ed] at ce
              simp only [compL] at ce
              by_cases ok : okSrc d items S' = true
              · rw [if_pos ok] at ce
                obtain ⟨w1, w2, w3⟩ := w.run _ ι' S' H' hz st R' ok
                refine ⟨w1 i hi, fun x H'' y => ?_⟩
                obtain ⟨t, ht', s3, R3, ix⟩ := w3 i x H'' hi y
                rw [List.getElem?_eq_getElem hi] at ht'
                cases ht'
                cases q1 : asgTg tg items[i] (wipeL l own) with
                | none => rw [q1] at ce; cases ce
                | some l1 =>
                  rw [q1] at ce
                  dsimp only at ce
                  have st3 := st.trans s3
                  have ia3 := IsAll.step R' s3 ia
                  have hD3 : H'' D = some (.lst acc) := s3.keep D _ hD' fun j hj q => R'.nz j hj (.inr q)
                  refine hg R3 ix (Sl.stepZ R1 hz st3 slw) q1 fun σ2 sl2 w2' => ⟨by rw [w2' own hin, wipe_wipe], ?_⟩
                  refine ht ?_
                  refine ⟨_, ι', S', l1, [], R3, sl2, .nil, ?_⟩
                  show Post K XR WF _ ι' S'.length H'' σ2 _ (fc l1 S')
                  cases q2 : fc l1 S' with
                  | none => rw [q2] at ce; cases ce
                  | some r2 =>
                    obtain ⟨r2, S4⟩ := r2
                    rw [q2] at ce
                    cases r2 with
                    | err x => cases ce
                    | ok b =>
                      cases b with
                      | bl b =>
                        intro ι4 H4 v4 st4 R4 i4
                        have hD4 : H4 D = some (.lst acc) := st4.keep D _ hD3 fun j hj q => R3.nz j hj (.inr q)
                        refine ⟨b, is_bl i4, ?_⟩
                        cases b with
                        | false =>
                          simp only [Bool.false_eq_true, if_false]
                          exact ⟨ι4, S4, acc, accT, rest, st3.trans st4, R4, hD4, IsAll.step R3 st4 ia3, ce, ea, by omega⟩
                        | true =>
                          simp only [if_true]
                          dsimp only at ce
                          refine ⟨_, ι4, S4, l1, [], R4, Sl.step R3 st4 sl2, .nil, ?_⟩
                          show Post K XR WF _ ι4 S4.length H4 σ2 _ (fe l1 S4)
                          cases q5 : fe l1 S4 with
                          | none => rw [q5] at ce; cases ce
                          | some r5 =>
                            obtain ⟨r5, S5⟩ := r5
                            rw [q5] at ce
                            cases r5 with
                            | err x => cases ce
                            | ok vT =>
                              dsimp only at ce
                              cases q6 : compL tg fc fe d items (wipeL l own) (items.drop (i + 1)) S5 with
                              | none => rw [q6] at ce; cases ce
                              | some r6 =>
                                obtain ⟨vs6, S6⟩ := r6
                                rw [q6] at ce
                                cases ce
                                intro ι5 H5 y st5 R5 i5
                                have hD5 : H5 D = some (.lst acc) := st5.keep D _ hD4 fun j hj q => R4.nz j hj (.inr q)
                                have ia5 := IsAll.step R4 st5 (IsAll.step R3 st4 ia3)
                                have hn5 : ∀ j, j < S5.length → ι5 j ≠ D := fun j hj q => R5.nz j hj (.inr q)
                                have notup : ∀ us, HO.lst acc ≠ .tup us := fun us q => by cases q
                                have hzD : (fun a => Z a ∨ a = D) D := .inr rfl
                                refine ⟨acc, hD5, ?_, ι5, S5, acc ++ [y], accT ++ [vT], vs6, ?_, ?_, upd_same, ?_, q6, by simpa using ea, by simp; omega⟩
                                · rw [ia5.length]
                                  exact Nat.lt_of_le_of_lt (by omega) LIM_lt
                                · exact ((st3.trans st4).trans st5).updFree hD
                                · exact R5.updZ hD5 notup hzD hn5
                                · exact (IsAll.updZ hD5 notup hzD ia5).append (.one (Is.updZ hD5 notup hzD i5))
                      | _ => cases ce
              · rw [if_neg ok] at ce; cases ce
            refine ⟨fun i m H' => m = items.length - i ∧ i ≤ items.length ∧ Pv i H', ⟨items.length, by simp, Nat.zero_le _, ?_⟩, ?_⟩
            · exact ⟨ι1, S1, [], [], vs, Step.fresh hD, R1.more hD, upd_same, .nil, by simpa using e3, rfl, Nat.zero_le _⟩
            · rintro i m H' ⟨rfl, hi, pv⟩
              by_cases hlt : i < items.length
              · obtain ⟨go, t⟩ := turn i H' hlt pv
                exact .inr ⟨go, Pv (i + 1), fun H'' p' => ⟨items.length - (i + 1), by omega, rfl, hlt, p'⟩, t⟩
              · have e : i = items.length := by omega
                subst e
                exact .inl (fin H' pv)
        · rw [if_neg hl] at p; exact p.elim
end
end TL

/-! TL: the lifts that are left. -/
namespace TL
open PySem PySem.Spec PyProof.Rows L2
section
variable {K : PySem.W.Frag} {XR : XRel} {W : WX} {Z : Addr → Prop} {H : Hp} {ι : Nat → Addr} {S : Sto} {σ : L2.St} {Q : VK}
theorem lift_free {xs : List V} {f : SE} (h : liftK K XR W xs (fun _ => f) σ H Q) : liftE K XR W f σ H Q := by
  obtain ⟨Z, ι, S, l, ts, R, sl, ia, p⟩ := h
  exact ⟨Z, ι, S, l, [], R, sl, .nil, p⟩
/-- a bound value at hand -/
theorem lift1 {x : V} {g : T → SE} (h : liftK K XR W [x] (fun ts => match ts with | [t] => g t | _ => fun _ _ => none) σ H Q) :
    ∃ (Z : Addr → Prop) (ι : Nat → Addr) (S : Sto) (l : Lo) (t : T), Rel K Z ι S H ∧ Sl K Z H ι S.length σ l ∧ Is K Z H ι S.length x t ∧ Post K XR W Z ι S.length H σ Q (g t l S) := by
  obtain ⟨Z, ι, S, l, ts, R, sl, ia, p⟩ := h
  cases ia with
  | cons i j => cases j; exact ⟨Z, ι, S, l, _, R, sl, i, p⟩
theorem ret_post {t : T} {l : Lo} {n : Nat} (hn : n = S.length) (R : Rel K Z ι S H) (p : Post K XR W Z ι n H σ Q (retE t l S)) {v : V} (i : Is K Z H ι S.length v t) : Q v H := by
  subst hn
  exact p ι H v .refl R i
theorem neg_lift {fa : SE} (h : liftE K XR W (bindE fa fun t => match t with
    | .int i => retE (.int (-i))
    | _ => noneE) σ H Q) : tUn (rU fun i => .int (-i)) (liftE K XR W fa) σ H Q := by
  refine lift_mono (fun x H1 h1 => ?_) (lift_bind0 h)
  obtain ⟨Z, ι, S, l, t, R, sl, i, p⟩ := lift1 h1
  cases t <;> first | exact p.elim | skip
  cases is_int i
  exact ⟨_, rfl, ret_post rfl R p (.int _)⟩
theorem not_lift {fa : SE} (h : liftE K XR W (bindE fa fun t => match t with
    | .bl b => retE (.bl (!b))
    | _ => noneE) σ H Q) : tNotV (liftE K XR W fa) σ H Q := by
  refine lift_mono (fun x H1 h1 => ?_) (lift_bind0 h)
  obtain ⟨Z, ι, S, l, t, R, sl, i, p⟩ := lift1 h1
  cases t <;> first | exact p.elim | skip
  exact ⟨_, is_bl i, ret_post rfl R p (.bl _)⟩
theorem and_lift {fa fb : SE} (h : liftE K XR W (bindE fa fun t => match t with
    | .bl true => fb
    | .bl false => retE (.bl false)
    | _ => noneE) σ H Q) : tAndV (liftE K XR W fa) (liftE K XR W fb) σ H Q := by
  refine lift_mono (fun x H1 h1 => ?_) (lift_bind0 h)
  obtain ⟨Z, ι, S, l, t, R, sl, i, p⟩ := lift1 h1
  cases t <;> first | exact p.elim | skip
  rename_i b
  refine ⟨b, is_bl i, ?_⟩
  cases b with
  | true =>
    simp only [if_true]
    exact ⟨Z, ι, S, l, [], R, sl, .nil, p⟩
  | false =>
    simp only [Bool.false_eq_true, if_false]
    exact ret_post rfl R p (.bl _)
theorem or_lift {fa fb : SE} (h : liftE K XR W (bindE fa fun t => match t with
    | .bl true => retE (.bl true)
    | .bl false => fb
    | _ => noneE) σ H Q) : tOrV (liftE K XR W fa) (liftE K XR W fb) σ H Q := by
  refine lift_mono (fun x H1 h1 => ?_) (lift_bind0 h)
  obtain ⟨Z, ι, S, l, t, R, sl, i, p⟩ := lift1 h1
  cases t <;> first | exact p.elim | skip
  rename_i b
  refine ⟨b, is_bl i, ?_⟩
  cases b with
  | false =>
    simp only [Bool.false_eq_true, if_false]
    exact ⟨Z, ι, S, l, [], R, sl, .nil, p⟩
  | true =>
    simp only [if_true]
    exact ret_post rfl R p (.bl _)
theorem ite_lift {fc fa fb : SE} (h : liftE K XR W (bindE fc fun t => match t with
    | .bl true => fa
    | .bl false => fb
    | _ => noneE) σ H Q) : tIf (tB (liftE K XR W fc)) (liftE K XR W fa) (liftE K XR W fb) σ H Q := by
  refine lift_mono (fun x H1 h1 => ?_) (lift_bind0 h)
  obtain ⟨Z, ι, S, l, t, R, sl, i, p⟩ := lift1 h1
  cases t <;> first | exact p.elim | skip
  rename_i b
  refine ⟨b, is_bl i, ?_⟩
  cases b with
  | false =>
    simp only [Bool.false_eq_true, if_false]
    exact ⟨Z, ι, S, l, [], R, sl, .nil, p⟩
  | true =>
    simp only [if_true]
    exact ⟨Z, ι, S, l, [], R, sl, .nil, p⟩
/-- .. as tests -/
theorem notT_lift {fa : SE} {Q : Bool → Hp → Prop} (h : tB (liftE K XR W (bindE fa fun t => match t with
    | .bl b => retE (.bl (!b))
    | _ => noneE)) σ H Q) : tNot (tB (liftE K XR W fa)) σ H Q := by
  refine lift_mono (fun x H1 h1 => ?_) (not_lift h)
  obtain ⟨c, rfl, d, e, q⟩ := h1
  cases e
  exact ⟨c, rfl, q⟩
theorem andT_lift {fa fb : SE} {Q : Bool → Hp → Prop} (h : tB (liftE K XR W (bindE fa fun t => match t with
    | .bl true => fb
    | .bl false => retE (.bl false)
    | _ => noneE)) σ H Q) : tAnd (tB (liftE K XR W fa)) (tB (liftE K XR W fb)) σ H Q := by
  refine lift_mono (fun x H1 h1 => ?_) (and_lift h)
  obtain ⟨c, rfl, q⟩ := h1
  refine ⟨c, rfl, ?_⟩
  cases c with
  | true => simp only [if_true] at q ⊢; exact q
  | false =>
    simp only [Bool.false_eq_true, if_false] at q ⊢
    obtain ⟨d, e, q⟩ := q
    cases e; exact q
theorem orT_lift {fa fb : SE} {Q : Bool → Hp → Prop} (h : tB (liftE K XR W (bindE fa fun t => match t with
    | .bl true => retE (.bl true)
    | .bl false => fb
    | _ => noneE)) σ H Q) : tOr (tB (liftE K XR W fa)) (tB (liftE K XR W fb)) σ H Q := by
  refine lift_mono (fun x H1 h1 => ?_) (or_lift h)
  obtain ⟨c, rfl, q⟩ := h1
  refine ⟨c, rfl, ?_⟩
  cases c with
  | false => simp only [Bool.false_eq_true, if_false] at q ⊢; exact q
  | true =>
    simp only [if_true] at q ⊢
    obtain ⟨d, e, q⟩ := q
    cases e; exact q
theorem lift2 {x y : V} {g : T → T → SE} (h : liftK K XR W [y, x] (fun ts => match ts with | [b, a] => g a b | _ => fun _ _ => none) σ H Q) :
    ∃ (Z : Addr → Prop) (ι : Nat → Addr) (S : Sto) (l : Lo) (a b : T), Rel K Z ι S H ∧ Sl K Z H ι S.length σ l ∧ Is K Z H ι S.length x a ∧ Is K Z H ι S.length y b ∧ Post K XR W Z ι S.length H σ Q (g a b l S) := by
  obtain ⟨Z, ι, S, l, ts, R, sl, ia, p⟩ := h
  cases ia with
  | cons i j => cases j with | cons i2 k => cases k; exact ⟨Z, ι, S, l, _, _, R, sl, i2, i, p⟩
theorem lift_bind2 {fa fb : SE} {g : T → T → SE} (h : liftE K XR W (bindE fa fun x => bindE fb fun y => g x y) σ H Q) :
    liftE K XR W fa σ H fun x H1 => liftE K XR W fb σ H1 fun y H2 => ∃ (Z : Addr → Prop) (ι : Nat → Addr) (S : Sto) (l : Lo) (a b : T), Rel K Z ι S H2 ∧ Sl K Z H2 ι S.length σ l ∧ Is K Z H2 ι S.length x a ∧ Is K Z H2 ι S.length y b ∧ Post K XR W Z ι S.length H2 σ Q (g a b l S) := by
  refine lift_mono (fun x H1 h1 => ?_) (lift_bind0 h)
  have h1' : liftK K XR W [x] (fun ts => bindE fb fun b => match ts with | [a] => g a b | _ => fun _ _ => none) σ H1 Q := by
    obtain ⟨Z, ι, S, l, ts, R, sl, ia, p⟩ := h1
    refine ⟨Z, ι, S, l, ts, R, sl, ia, ?_⟩
    cases ia with
    | cons i j => cases j; exact p
  refine lift_mono (fun y H2 h2 => ?_) (lift_bind h1')
  obtain ⟨Z, ι, S, l, ts, R, sl, ia, p⟩ := h2
  cases ia with
  | cons iy j =>
    cases j with
    | cons ix k =>
      cases k
      exact ⟨Z, ι, S, l, _, _, R, sl, ix, iy, p⟩
theorem chain_lift {p q : CmpOp} {fa fb fc : SE} (h : liftE K XR W (bindE fa fun x => bindE fb fun y => fun l S => match cmpB p x y S with
    | some true => bindE fc (fun z => fun l S => outR false (cmpF q y z S) l S) l S
    | some false => some (.ok (.bl false), S)
    | none => none) σ H Q) : tChain (rRaw K (cmpF p)) (rRaw K (cmpF q)) (liftE K XR W fa) (liftE K XR W fb) (liftE K XR W fc) σ H Q := by
  refine lift_mono (fun x H1 h1 => lift_mono (fun y H2 h2 => ?_) h1) (lift_bind2 h)
  obtain ⟨Z, ι, S, l, a, b, R, sl, ix, iy, p'⟩ := h2
  cases e : cmpB p a b S with
  | none => simp only [e] at p'; exact p'.elim
  | some k =>
    simp only [e] at p'
    refine ⟨Z, ι, S, a, b, .val (.bl k), R, ix, iy, by simp [cmpF, e], fun H3 z sm iz => ⟨k, is_bl iz, ?_⟩⟩
    have R3 := R.same sm
    have st : Step ι S.length H2 ι S.length H3 := .same sm
    have sl3 := Sl.step R st sl
    have iy3 := Is.step R st iy
    cases k with
    | false =>
      simp only [Bool.false_eq_true, if_false]
      dsimp only at p'
      exact p' ι H3 (.bl false) st R3 (.bl _)
    | true =>
      simp only [if_true]
      dsimp only at p'
      have h3 : liftK K XR W [y] (fun ts => bindE fc fun z => match ts with | [b] => (fun l S => outR false (cmpF q b z S) l S) | _ => fun _ _ => none) σ H3 Q := ⟨Z, ι, S, l, [b], R3, sl3, .one iy3, by
        have := p'.of_step st
        exact this⟩
      refine lift_mono (fun w H4 h4 => ?_) (lift_bind h3)
      obtain ⟨Z, ι, S, l, ts, R, sl, ia, p⟩ := h4
      cases ia with
      | cons iw j =>
        cases j with
        | cons iy k =>
          cases k
          obtain ⟨r, e, ok⟩ := out_ok R p
          exact ⟨Z, ι, S, _, _, r, R, iy, iw, e, ok⟩
/-! ### slices -/
def tPt (nop : Bool) (te : TE) : TO := if nop then tNoPart else tPart te
theorem lift_bind3 {fa fb fc : SE} {g : T → T → T → SE} (h : liftE K XR W (bindE fa fun x => bindE fb fun y => bindE fc fun z => g x y z) σ H Q) :
    liftE K XR W fa σ H fun x H1 => liftE K XR W fb σ H1 fun y H2 => liftE K XR W fc σ H2 fun z H3 => ∃ (Z : Addr → Prop) (ι : Nat → Addr) (S : Sto) (l : Lo) (a b c : T), Rel K Z ι S H3 ∧ Sl K Z H3 ι S.length σ l ∧ Is K Z H3 ι S.length x a ∧ Is K Z H3 ι S.length y b ∧ Is K Z H3 ι S.length z c ∧ Post K XR W Z ι S.length H3 σ Q (g a b c l S) := by
  refine lift_mono (fun x H1 h1 => lift_mono (fun y H2 h2 => ?_) h1) (lift_bind2 h)
  obtain ⟨Z, ι, S, l, a, b, R, sl, ix, iy, p⟩ := h2
  refine ⟨Z, ι, S, l, [], R, sl, .nil, ?_⟩
  simp only [bindE] at p
  show Post K XR W Z ι S.length H2 σ _ (fc l S)
  cases e : fc l S with
  | none => rw [e] at p; exact p
  | some r =>
    obtain ⟨r, S'⟩ := r
    rw [e] at p
    cases r with
    | err x => exact p
    | ok t => exact fun ι' H' v st R' i => ⟨Z, ι', S', l, a, b, t, R', Sl.step R st sl, Is.step R st ix, Is.step R st iy, i, p.of_step st⟩
theorem part_lift {nop : Bool} {f : SE} {P : V → Hp → Prop} (h : liftE K XR W (partE nop f) σ H P) {Q : Option Int → Hp → Prop} (hq : ∀ v H1, P v H1 → ∀ o, (v = .non ∧ o = none) ∨ (∃ i, v = .int i ∧ o = some i) → Q o H1) : tPt nop (liftE K XR W f) σ H Q := by
  unfold tPt
  cases nop with
  | true =>
    simp only [if_true]
    obtain ⟨Z, ι, S, l, ts, R, sl, ia, p⟩ := h
    exact hq .non H (p ι H .non .refl R .non) none (.inl ⟨rfl, rfl⟩)
  | false =>
    simp only [Bool.false_eq_true, if_false]
    have h : liftE K XR W (bindE f fun t => match t with | .int i => fun _ S => some (.ok (.int i), S) | _ => fun _ _ => none) σ H P := h
    refine lift_mono (fun x H1 h1 => ?_) (lift_bind0 h)
    obtain ⟨Z, ι, S, l, t, R, sl, i, p⟩ := lift1 h1
    cases t <;> first | exact p.elim | skip
    cases is_int i
    exact ⟨_, rfl, hq _ H1 (p ι H1 _ .refl R (.int _)) _ (.inr ⟨_, rfl, rfl⟩)⟩
theorem sl_lift {nw b1 b2 : Bool} {fa fb fc : SE} (h : liftE K XR W (bindE fa fun x => bindE (partE b1 fb) fun i => bindE (partE b2 fc) fun j => fun l S => match partF i, partF j with
    | some i, some j => outR nw (slF x i j S) l S
    | _, _ => none) σ H Q) : tSl (rSlT K) (liftE K XR W fa) (tPt b1 (liftE K XR W fb)) (tPt b2 (liftE K XR W fc)) σ H Q := by
  refine lift_mono (fun x H1 h1 => part_lift h1 fun y H2 h2 o ho => part_lift h2 fun z H3 h3 o2 ho2 => ?_) (lift_bind3 h)
  obtain ⟨Z, ι, S, l, a, b, c, R, sl, ix, iy, iz, p⟩ := h3
  have pf : ∀ {v : V} {t : T} {o : Option Int}, Is K Z H3 ι S.length v t → ((v = .non ∧ o = none) ∨ ∃ i, v = .int i ∧ o = some i) → partF t = some o := by
    intro v t o i h
    rcases h with ⟨rfl, rfl⟩ | ⟨i, rfl, rfl⟩
    · cases i; rfl
    · cases i; rfl
  simp only [pf iy ho, pf iz ho2] at p
  obtain ⟨r, e, ok⟩ := out_ok R p
  exact ⟨Z, ι, S, a, r, R, ix, e, ok⟩
theorem rev_lift {nw : Bool} {fa : SE} (h : liftE K XR W (bindE fa fun x => fun l S => outR nw (revF x S) l S) σ H Q) : tRevA K (liftE K XR W fa) σ H Q := by
  refine lift_mono (fun x H1 h1 => ?_) (lift_bind0 h)
  obtain ⟨Z, ι, S, l, t, R, sl, i, p⟩ := lift1 h1
  obtain ⟨r, e, ok⟩ := out_ok R p
  unfold revF at e
  split at e
  · cases e
    obtain ⟨q, vs, rfl, hp, iv⟩ := is_tup i
    exact ⟨q, vs, rfl, .inr ⟨.of hp, fun z hz => raw_tup R ok iv.rev z hz⟩⟩
  · split at e
    · rename_i nt _ xs q
      cases e
      have ql : S.lseq t = some xs := by
        cases t <;> first | exact q | exact absurd rfl (nt _)
      obtain ⟨q, vs, rfl, hp, iv⟩ := lseq_ok R i ql
      exact ⟨q, vs, rfl, .inl ⟨hp, fun z hz => ok _ z iv.rev hz⟩⟩
    · cases e
theorem dnew_lift {t nw : Bool} (h : liftE K XR W (fun _ S => if t then (if nw then some (.ok (.ref S.length), S ++ [.dT []]) else some (.ok (.dT []), S)) else (if nw then some (.ok (.ref S.length), S ++ [.dK []]) else some (.ok (.dK []), S))) σ H Q) :
    if t then tDNewT σ H Q else tDNewK σ H Q := by
  obtain ⟨Z, ι, S, l, ts, R, sl, ia, p⟩ := h
  dsimp only at p
  cases t with
  | true =>
    simp only [if_true] at p ⊢
    intro a ha
    cases nw with
    | true =>
      simp only [if_true] at p
      obtain ⟨R', st⟩ := R.record (ob := .dT []) (o := .dT []) ha (.dT (ks := []) (vs := []) (ts := []) (by rw [upd_same]; rfl) rfl .nil)
      have e : V.ref a = V.ref ((fun i => if i = S.length then a else ι i) S.length) := by simp
      refine p (fun i => if i = S.length then a else ι i) _ _ (by simpa using st) R' ?_
      rw [e]; exact .ref (by simp)
    | false =>
      simp only [Bool.false_eq_true, if_false] at p
      exact p ι _ _ (Step.fresh ha) (R.fresh ha) (Is.dT (ks := []) (vs := []) (ts := []) (by rw [upd_same]; rfl) (R.free ha) (R.notZ ha) rfl .nil)
  | false =>
    simp only [Bool.false_eq_true, if_false] at p ⊢
    intro a ha
    cases nw with
    | true =>
      simp only [if_true] at p
      obtain ⟨R', st⟩ := R.record (ob := .dK []) (o := .dK []) ha (.dK (ks := []) (vs := []) (ts := []) (by rw [upd_same]; rfl) rfl .nil)
      have e : V.ref a = V.ref ((fun i => if i = S.length then a else ι i) S.length) := by simp
      refine p (fun i => if i = S.length then a else ι i) _ _ (by simpa using st) R' ?_
      rw [e]; exact .ref (by simp)
    | false =>
      simp only [Bool.false_eq_true, if_false] at p
      exact p ι _ _ (Step.fresh ha) (R.fresh ha) (Is.dK (ks := []) (vs := []) (ts := []) (by rw [upd_same]; rfl) (R.free ha) (R.notZ ha) rfl .nil)
theorem var_lift {i : Nat} (h : liftE K XR W (fun l S => match l[i]? with
    | some (some t) => some (.ok t, S)
    | _ => none) σ H Q) : tVar i σ H Q := by
  obtain ⟨Z, ι, S, l, ts, R, sl, ia, p⟩ := h
  dsimp only at p
  split at p
  · rename_i t e
    obtain ⟨v, e1, iv⟩ := sl.2 i t e
    exact ⟨v, e1, p ι H v .refl R iv⟩
  · exact p.elim
theorem ret_lift {t : T} {v : V} (hi : ∀ {Z : Addr → Prop} {H : Hp} {ι : Nat → Addr} {n : Nat}, Is K Z H ι n v t) (h : liftE K XR W (retE t) σ H Q) : tC v σ H Q := by
  obtain ⟨Z, ι, S, l, ts, R, sl, ia, p⟩ := h
  exact p ι H v .refl R hi
end
end TL

/-! TL: methods, stores. -/
namespace TL
open PySem PySem.Spec PyProof.Rows L2
def Mt.nm : Mt → Str
  | .append => "append" | .extend => "extend" | .pop0 => "pop" | .popT => "pop"
def Mt.id : Mt → String
  | .append => "list.append" | .extend => "list.extend" | .pop0 => "list.pop" | .popT => "dict.pop"
def Mt.ty : Mt → String
  | .popT => "dict" | _ => "list"
def Mt.zero : Mt → Bool
  | .pop0 => true
  | _ => false
theorem mt_pa (m : Mt) : PlainAttrs m.ty := by
  cases m
  · exact PySem.F.plainAttrs_list
  · exact PySem.F.plainAttrs_list
  · exact PySem.F.plainAttrs_list
  · exact PySem.F.plainAttrs_dict
theorem mt_slot (m : Mt) : Slot m.ty m.nm m.id := by
  cases m
  · exact PySem.F.slot_list_append
  · exact PySem.F.slot_list_extend
  · exact PySem.F.slot_list_pop
  · exact PySem.F.slot_dict_pop
theorem mt_type (m : Mt) : typeOf (.builtin m.id) = pure (.type "method_descriptor") := by
  cases m
  · exact PySem.F.type_list_append
  · exact PySem.F.type_list_extend
  · exact PySem.F.type_list_pop
  · exact PySem.F.type_dict_pop
def rMt (K : PySem.W.Frag) (m : Mt) : V → List V → Hp → VK → Prop := fun x vs H Q => ∃ (Z : Addr → Prop) (ι : Nat → Addr) (S : Sto) (t : T) (ts : List T) (t' : T) (S' : Sto), Rel K Z ι S H ∧ Is K Z H ι S.length x t ∧ IsAll K Z H ι S.length vs ts ∧ mtF m t ts S = some (t', S') ∧
  ∀ ι' H' v, Step ι S.length H ι' S'.length H' → Rel K Z ι' S' H' → Is K Z H' ι' S'.length v t' → Q v H'
section
variable {K : PySem.W.Frag} {Z : Addr → Prop} {H H' : Hp} {ι ι' : Nat → Addr} {S : Sto} {XR : XRel} {W : WX} {σ : L2.St} {Q : VK}
theorem ref_lst {i : Nat} {xs : List T} (R : Rel K Z ι S H) (e : S[i]? = some (.lst xs)) : i < S.length ∧ ∃ vs, H (ι i) = some (.lst vs) ∧ IsAll K Z H ι S.length vs xs := by
  refine ⟨(List.getElem?_eq_some_iff.mp e).1, ?_⟩
  have h := R.obj _ _ e
  cases h with
  | lst h hs => exact ⟨_, h, hs⟩
/-- an object is written over -/
theorem write_step {i : Nat} {o : HO} {ob : Ob} {u : HO} (R : Rel K Z ι S H) (hi : i < S.length) (hH : H (ι i) = some u) : Step ι S.length H ι (S.set i ob).length (L2.upd H (ι i) o) := by
  rw [List.length_set]
  exact ⟨Nat.le_refl _, fun _ _ => rfl, fun i h1 h2 => absurd h2 (Nat.not_lt.mpr h1), fun a u' e hn => by rw [upd_ne (Ne.symm (hn i hi))]; exact e, fun a u' e => by
    by_cases h : a = ι i
    · subst h; exact ⟨_, upd_same⟩
    · exact ⟨u', by rw [upd_ne h]; exact e⟩⟩
mutual
theorem Is.wr {i : Nat} {o : HO} {n : Nat} (hi : i < n) (hnt : ∀ vs, H (ι i) ≠ some (.tup vs)) (hex : ∃ u, H (ι i) = some u ∧ (∀ vs, u ≠ .tup vs)) : ∀ {v : V} {t : T}, Is K Z H ι n v t → Is K Z (L2.upd H (ι i) o) ι n v t
  | _, _, .non => .non
  | _, _, .bl b => .bl b
  | _, _, .int i => .int i
  | _, _, .str x => .str x
  | _, _, .tup h hs => .tup (by rw [upd_ne (fun q => by rw [q] at h; exact hnt _ h)]; exact h) (IsAll.wr hi hnt hex hs)
  | _, _, .lst h hn z hs => .lst (by rw [upd_ne (Ne.symm (hn i hi))]; exact h) hn z (IsAll.wr hi hnt hex hs)
  | _, _, .scrK h => .scrK h
  | _, _, .scr h hn z => .scr (by unfold Rd at h ⊢; rw [upd_ne (Ne.symm (hn i hi))]; exact h) hn z
  | _, _, .dK h hn z hl hs => .dK (by rw [upd_ne (Ne.symm (hn i hi))]; exact h) hn z hl (IsAll.wr hi hnt hex hs)
  | _, _, .dT h hn z hl hs => .dT (by rw [upd_ne (Ne.symm (hn i hi))]; exact h) hn z hl (IsAll.wr hi hnt hex hs)
  | _, _, .ref hi => .ref hi
theorem IsAll.wr {i : Nat} {o : HO} {n : Nat} (hi : i < n) (hnt : ∀ vs, H (ι i) ≠ some (.tup vs)) (hex : ∃ u, H (ι i) = some u ∧ (∀ vs, u ≠ .tup vs)) : ∀ {vs : List V} {ts : List T}, IsAll K Z H ι n vs ts → IsAll K Z (L2.upd H (ι i) o) ι n vs ts
  | _, _, .nil => .nil
  | _, _, .cons h hs => .cons (Is.wr hi hnt hex h) (IsAll.wr hi hnt hex hs)
end
theorem notup_at {i : Nat} (R : Rel K Z ι S H) (hi : i < S.length) : (∀ vs, H (ι i) ≠ some (.tup vs)) ∧ ∃ u, H (ι i) = some u ∧ (∀ vs, u ≠ .tup vs) := by
  have h := R.obj _ _ (List.getElem?_eq_getElem hi)
  obtain ⟨u, e⟩ := ObIs.some h
  have nt : ∀ vs, H (ι i) ≠ some (.tup vs) := fun vs e => h.notup vs (.of e)
  exact ⟨nt, u, e, fun vs q => nt vs (by rw [e, q])⟩
theorem write_lst {i : Nat} {xs ys : List T} {vs : List V} (R : Rel K Z ι S H) (e : S[i]? = some (.lst xs)) (ia : IsAll K Z H ι S.length vs ys) : Step ι S.length H ι (S.set i (.lst ys)).length (L2.upd H (ι i) (.lst vs)) ∧ Rel K Z ι (S.set i (.lst ys)) (L2.upd H (ι i) (.lst vs)) := by
  obtain ⟨hi, us, hH, _⟩ := ref_lst R e
  obtain ⟨n1, n2⟩ := notup_at R hi
  obtain ⟨a, b⟩ := R.write (ob := .lst ys) hi (fun _ q => by cases q) (.lst upd_same (IsAll.wr hi n1 n2 ia))
  exact ⟨by rw [List.length_set]; exact b, a⟩
theorem ref_is {i : Nat} {x : V} {n : Nat} (h : Is K Z H ι n x (.ref i)) : x = .ref (ι i) ∧ i < n := by cases h with | ref hi => exact ⟨rfl, hi⟩
theorem ref_dT {i : Nat} {kvs : List (List Key × T)} (R : Rel K Z ι S H) (e : S[i]? = some (.dT kvs)) : i < S.length ∧ ∃ (ks : List (List Key)) (vs : List V) (ts : List T), kvs = ks.zip ts ∧ H (ι i) = some (.dT (ks.zip vs)) ∧ ks.length = vs.length ∧ IsAll K Z H ι S.length vs ts := by
  refine ⟨(List.getElem?_eq_some_iff.mp e).1, ?_⟩
  have h := R.obj _ _ e
  cases h with
  | dT h hl hs => exact ⟨_, _, _, rfl, h, hl, hs⟩
theorem ref_dK {i : Nat} {kvs : List (Key × T)} (R : Rel K Z ι S H) (e : S[i]? = some (.dK kvs)) : i < S.length ∧ ∃ (ks : List Key) (vs : List V) (ts : List T), kvs = ks.zip ts ∧ H (ι i) = some (.dK (ks.zip vs)) ∧ ks.length = vs.length ∧ IsAll K Z H ι S.length vs ts := by
  refine ⟨(List.getElem?_eq_some_iff.mp e).1, ?_⟩
  have h := R.obj _ _ e
  cases h with
  | dK h hl hs => exact ⟨_, _, _, rfl, h, hl, hs⟩
/-! zipped lists under put and drop -/
theorem zip_put {κ : Type} [DecidableEq κ] {n : Nat} (k : κ) {v : V} {t : T} (i : Is K Z H ι n v t) : ∀ {ks : List κ} {vs : List V} {ts : List T}, ks.length = vs.length → IsAll K Z H ι n vs ts →
    ∃ (ks' : List κ) (vs' : List V) (ts' : List T), putK (ks.zip vs) k v = ks'.zip vs' ∧ putD (ks.zip ts) k t = ks'.zip ts' ∧ ks'.length = vs'.length ∧ IsAll K Z H ι n vs' ts' := by
  intro ks vs ts hl ia
  have hany : ∀ {α : Type} (xs : List α), ks.length = xs.length → ((ks.zip xs).any fun kv => decide (kv.1 = k)) = ks.any fun q => decide (q = k) := by
    intro α xs hx
    have : (ks.zip xs).map Prod.fst = ks := List.map_fst_zip (Nat.le_of_eq hx)
    conv => rhs; rw [← this]
    rw [List.any_map]
    rfl
  have hmap : ∀ {ks : List κ} {vs : List V} {ts : List T}, ks.length = vs.length → IsAll K Z H ι n vs ts → ∃ (vs' : List V) (ts' : List T), (ks.zip vs).map (fun kv => if kv.1 = k then (kv.1, v) else kv) = ks.zip vs' ∧ (ks.zip ts).map (fun kv => if kv.1 = k then (kv.1, t) else kv) = ks.zip ts' ∧ ks.length = vs'.length ∧ IsAll K Z H ι n vs' ts' := by
    intro ks
    induction ks with
    | nil => intro vs ts hl ia; cases vs with
      | nil => cases ia; exact ⟨[], [], rfl, rfl, rfl, .nil⟩
      | cons _ _ => simp at hl
    | cons q ks ih =>
      intro vs ts hl ia
      cases ia with
      | nil => simp at hl
      | cons h hs =>
        obtain ⟨vs', ts', e1, e2, e3, e4⟩ := ih (by simpa using hl) hs
        by_cases hq : q = k
        · exact ⟨v :: vs', t :: ts', by simp [hq, e1], by simp [hq, e2], by simp [e3], .cons i e4⟩
        · exact ⟨_ :: vs', _ :: ts', by simp [hq, e1], by simp [hq, e2], by simp [e3], .cons h e4⟩
  have hl2 : ks.length = ts.length := by rw [hl, ia.length]
  unfold putK putD
  rw [hany vs hl, hany ts hl2]
  by_cases hk : (ks.any fun q => decide (q = k)) = true
  · rw [if_pos hk, if_pos hk]
    obtain ⟨vs', ts', e1, e2, e3, e4⟩ := hmap hl ia
    exact ⟨ks, vs', ts', e1, e2, e3, e4⟩
  · rw [if_neg hk, if_neg hk]
    refine ⟨ks ++ [k], vs ++ [v], ts ++ [t], ?_, ?_, by simp [hl], ia.append (.one i)⟩
    · rw [List.zip_append hl]; rfl
    · rw [List.zip_append hl2]; rfl
theorem zip_drop {κ : Type} [DecidableEq κ] {n : Nat} (k : κ) : ∀ {ks : List κ} {vs : List V} {ts : List T}, ks.length = vs.length → IsAll K Z H ι n vs ts →
    ∃ (ks' : List κ) (vs' : List V) (ts' : List T), dropK (ks.zip vs) k = ks'.zip vs' ∧ dropD (ks.zip ts) k = ks'.zip ts' ∧ ks'.length = vs'.length ∧ IsAll K Z H ι n vs' ts' := by
  intro ks
  induction ks with
  | nil => intro vs ts hl ia; cases vs with
    | nil => cases ia; exact ⟨[], [], [], rfl, rfl, rfl, .nil⟩
    | cons _ _ => simp at hl
  | cons q ks ih =>
    intro vs ts hl ia
    cases ia with
    | nil => simp at hl
    | cons h hs =>
      obtain ⟨ks', vs', ts', e1, e2, e3, e4⟩ := ih (by simpa using hl) hs
      unfold dropK at e1 ⊢
      unfold dropD at e2 ⊢
      by_cases hq : q = k
      · exact ⟨ks', vs', ts', by simp [List.filter_cons, hq]; simpa using e1, by simp [List.filter_cons, hq]; simpa using e2, e3, e4⟩
      · exact ⟨q :: ks', _ :: vs', _ :: ts', by simp [List.filter_cons, hq]; simpa using e1, by simp [List.filter_cons, hq]; simpa using e2, by simp [e3], .cons h e4⟩
theorem zip_look {κ : Type} [DecidableEq κ] {n : Nat} (k : κ) : ∀ {ks : List κ} {vs : List V} {ts : List T}, ks.length = vs.length → IsAll K Z H ι n vs ts →
    (lookK (ks.zip ts) k = none ∧ valV (ks.zip vs) k = none) ∨ ∃ v t, lookK (ks.zip ts) k = some t ∧ valV (ks.zip vs) k = some v ∧ Is K Z H ι n v t := by
  intro ks
  induction ks with
  | nil => intro vs ts hl ia; exact .inl ⟨rfl, rfl⟩
  | cons q ks ih =>
    intro vs ts hl ia
    cases ia with
    | nil => simp at hl
    | cons h hs =>
      by_cases hq : q = k
      · refine .inr ⟨_, _, ?_, valV_pos (p := (q, _)) hq, h⟩
        simp [lookK, List.find?_cons, hq]
      · rename_i v0 vs0 t0 ts0
        have e1 : valV ((q, v0) :: ks.zip vs0) k = valV (ks.zip vs0) k := valV_neg (p := (q, v0)) hq
        rcases ih (by simpa using hl) hs with ⟨a, b⟩ | ⟨v, t, a, b, c⟩
        · refine .inl ⟨?_, by rw [List.zip_cons_cons, e1]; exact b⟩
          unfold lookK at a ⊢
          simp only [List.zip_cons_cons, List.find?_cons, hq, decide_false]
          exact a
        · refine .inr ⟨v, t, ?_, by rw [List.zip_cons_cons, e1]; exact b, c⟩
          unfold lookK at a ⊢
          simp only [List.zip_cons_cons, List.find?_cons, hq, decide_false]
          exact a
theorem write_dT {i : Nat} {kvs : List (List Key × T)} {ks : List (List Key)} {vs : List V} {ts : List T} (R : Rel K Z ι S H) (e : S[i]? = some (.dT kvs)) (hl : ks.length = vs.length) (ia : IsAll K Z H ι S.length vs ts) : Step ι S.length H ι (S.set i (.dT (ks.zip ts))).length (L2.upd H (ι i) (.dT (ks.zip vs))) ∧ Rel K Z ι (S.set i (.dT (ks.zip ts))) (L2.upd H (ι i) (.dT (ks.zip vs))) := by
  obtain ⟨hi, _, _, _, _, hH, _, _⟩ := ref_dT R e
  obtain ⟨n1, n2⟩ := notup_at R hi
  obtain ⟨a, b⟩ := R.write (ob := .dT (ks.zip ts)) hi (fun _ q => by cases q) (.dT upd_same hl (IsAll.wr hi n1 n2 ia))
  exact ⟨by rw [List.length_set]; exact b, a⟩
theorem write_dK {i : Nat} {kvs : List (Key × T)} {ks : List Key} {vs : List V} {ts : List T} (R : Rel K Z ι S H) (e : S[i]? = some (.dK kvs)) (hl : ks.length = vs.length) (ia : IsAll K Z H ι S.length vs ts) : Step ι S.length H ι (S.set i (.dK (ks.zip ts))).length (L2.upd H (ι i) (.dK (ks.zip vs))) ∧ Rel K Z ι (S.set i (.dK (ks.zip ts))) (L2.upd H (ι i) (.dK (ks.zip vs))) := by
  obtain ⟨hi, _, _, _, _, hH, _, _⟩ := ref_dK R e
  obtain ⟨n1, n2⟩ := notup_at R hi
  obtain ⟨a, b⟩ := R.write (ob := .dK (ks.zip ts)) hi (fun _ q => by cases q) (.dK upd_same hl (IsAll.wr hi n1 n2 ia))
  exact ⟨by rw [List.length_set]; exact b, a⟩
theorem ty_mt {m : Mt} {x : V} {t : T} (R : Rel K Z ι S H) (i : Is K Z H ι S.length x t) (e : mtTy m t S = true) : tyV K m.ty x H := by
  have lst : ∀ {t : T}, Is K Z H ι S.length x t → (match t with | .ref i => (match S[i]? with | some (.lst _) => true | _ => false) | _ => false) = true → tyV K "list" x H := by
    intro t i e
    cases t with
    | ref j =>
      obtain ⟨rfl, hj⟩ := ref_is i
      dsimp only at e
      split at e
      · rename_i xs q
        obtain ⟨_, vs, h, _⟩ := ref_lst R q
        exact .inl ⟨rfl, vs, .of h⟩
      · cases e
    | _ => cases e
  cases m with
  | append => exact lst i e
  | extend => exact lst i e
  | pop0 => exact lst i e
  | popT =>
    cases t with
    | ref j =>
      obtain ⟨rfl, hj⟩ := ref_is i
      simp only [mtTy] at e
      split at e
      · rename_i xs q
        obtain ⟨_, ks, vs, ts, _, h, _⟩ := ref_dT R q
        exact .inr (.inr (.inl ⟨rfl, .inr ⟨_, h⟩⟩))
      · cases e
    | _ => cases e
end
section
variable {X : Cx}
theorem mt_ok (hu : X.A.units + 1 < cLine) (m : Mt) : MtR X m.id (rMt X.K m) := by
  intro pins s σ H x xs v us Q I rx rxs h
  obtain ⟨Z, ι, S, t, ts, t', S', R, ix, ia, e, q⟩ := h
  cases m with
  | append =>
    unfold mtF at e
    split at e
    case h_1 i u h0 =>
      split at e
      · rename_i ys h1
        split at e
        · rename_i h2
          cases e
          obtain ⟨rfl, hi⟩ := ref_is ix
          obtain ⟨y, rfl, iy⟩ := ia.inv1
          obtain ⟨_, vs, hH, iv⟩ := ref_lst R h1
          obtain ⟨st, R2⟩ := write_lst R h1 (iv.append (.one iy))
          exact mt_append pins s σ H _ _ v us Q I rx rxs ⟨_, vs, y, rfl, rfl, hH, by rw [iv.length]; exact Nat.lt_trans h2 LIM_lt, q ι _ .non st R2 .non⟩
        · cases e
      · cases e
    all_goals first | (rename_i hm _; cases hm; done) | (rename_i hm; cases hm; done) | cases e
  | extend =>
    unfold mtF at e
    split at e
    case h_2 i u h0 =>
      split at e
      · rename_i ys h1
        split at e
        · rename_i zs h3
          split at e
          · rename_i h2
            cases e
            obtain ⟨rfl, hi⟩ := ref_is ix
            obtain ⟨y, rfl, iy⟩ := ia.inv1
            obtain ⟨_, vs, hH, iv⟩ := ref_lst R h1
            obtain ⟨b, ws, rfl, hb, iw⟩ := items_ok R iy h3
            obtain ⟨st, R2⟩ := write_lst R h1 (iv.append iw)
            exact mt_extend pins s σ H _ _ v us Q I rx rxs ⟨_, b, vs, ws, rfl, rfl, hH, hb, by rw [iv.length, iw.length]; exact Nat.le_trans h2 LIM_le, q ι _ .non st R2 .non⟩
          · cases e
        · cases e
      · cases e
    all_goals first | (rename_i hm _; cases hm; done) | (rename_i hm; cases hm; done) | cases e
  | pop0 =>
    unfold mtF at e
    split at e
    case h_3 i h0 =>
      split at e
      · rename_i ys h1
        split at e
        · rename_i t h2
          cases e
          obtain ⟨rfl, hi⟩ := ref_is ix
          obtain rfl := ia.inv0
          obtain ⟨_, vs, hH, iv⟩ := ref_lst R h1
          obtain ⟨y, hy, iy⟩ := iv.get h2
          obtain ⟨st, R2⟩ := write_lst R h1 (iv.take (vs.length - 1))
          refine mt_pop pins s σ H _ _ v us Q I rx rxs ⟨_, vs, y, rfl, rfl, hH, by rw [iv.length]; exact hy, ?_⟩
          have e1 : vs.dropLast = vs.take (vs.length - 1) := List.dropLast_eq_take
          have e2 : ys.dropLast = ys.take (vs.length - 1) := by rw [iv.length]; exact List.dropLast_eq_take
          rw [e1]
          rw [e2] at q
          exact q ι _ y st R2 (Is.step R (by simpa using st) iy)
        · cases e
      · cases e
    all_goals first | (rename_i hm _; cases hm; done) | (rename_i hm; cases hm; done) | cases e
  | popT =>
    unfold mtF at e
    split at e
    case h_4 i k d h0 =>
      split at e
      · rename_i kvs h1
        split at e
        · rename_i ks h2
          obtain ⟨rfl, hi⟩ := ref_is ix
          obtain ⟨y, z, rfl, iy, iz⟩ := ia.inv2
          obtain ⟨b, rfl, hb⟩ := keyT_ok iy h2
          obtain ⟨_, kl, vs, tl, rfl, hH, hl, iv⟩ := ref_dT R h1
          refine L2.DX.mt_popT hu pins s σ H _ _ v us Q I rx rxs ⟨_, _, ks, b, z, rfl, rfl, hH, hb, fun w hw => ?_, fun hn => ?_⟩
          · rcases zip_look ks hl iv with ⟨a1, a2⟩ | ⟨w', t, a1, a2, a3⟩
            · rw [hw] at a2; cases a2
            · rw [hw] at a2
              cases a2
              rw [a1] at e
              cases e
              obtain ⟨kl', vs', tl', e1, e2, e3, e4⟩ := zip_drop ks hl iv
              obtain ⟨st, R2⟩ := write_dT R h1 e3 e4
              rw [e1]
              rw [e2] at q
              exact q ι _ _ st R2 (Is.step R (by simpa using st) a3)
          · rcases zip_look ks hl iv with ⟨a1, a2⟩ | ⟨w', t, a1, a2, a3⟩
            · rw [a1] at e
              cases e
              exact q ι H z .refl R iz
            · rw [hn] at a2; cases a2
        · cases e
      · cases e
    all_goals first | (rename_i hm _; cases hm; done) | (rename_i hm; cases hm; done) | cases e
/-- a[b] = v -/
def rPut (K : PySem.W.Frag) : TSet := fun o i v H Q => ∃ (Z : Addr → Prop) (ι : Nat → Addr) (S : Sto) (a b c : T) (S' : Sto), Rel K Z ι S H ∧ Is K Z H ι S.length o a ∧ Is K Z H ι S.length i b ∧ Is K Z H ι S.length v c ∧ putI c a b S = some S' ∧
  ∀ ι' H', Step ι S.length H ι' S'.length H' → Rel K Z ι' S' H' → Q H'
theorem set_put (hu : X.A.units + 1 < cLine) : PSet X (rPut X.K) := by
  intro pins s σ H o i v ov iv u Q I ro ri rv h
  obtain ⟨Z, ι, S, a, b, c, S', R, ia, ib, ic, e, q⟩ := h
  cases a with
  | ref j =>
    obtain ⟨rfl, hj⟩ := ref_is ia
    simp only [putI] at e
    cases h1 : S[j]? with
    | none => rw [h1] at e; cases e
    | some ob =>
      rw [h1] at e
      cases ob with
      | lst xs =>
        cases b with
        | int k =>
          dsimp only at e
          cases h2 : ixN xs.length k with
          | none => rw [h2] at e; cases e
          | some m =>
            rw [h2] at e
            cases e
            cases is_int ib
            obtain ⟨_, vs, hH, iv'⟩ := ref_lst R h1
            obtain ⟨st, R2⟩ := write_lst R h1 (iv'.set ic m)
            exact set_list pins s σ H _ _ v ov iv u Q I ro ri rv ⟨_, vs, k, m, rfl, rfl, hH, by rw [iv'.length]; exact h2, q ι _ st R2⟩
        | _ => cases e
      | dK kvs =>
        dsimp only at e
        cases h2 : T.key b with
        | none => rw [h2] at e; cases e
        | some k =>
          rw [h2] at e
          dsimp only at e
          split at e
          · rename_i h3
            cases e
            obtain rfl := key_ok ib h2
            obtain ⟨_, kl, vs, tl, rfl, hH, hl, iv'⟩ := ref_dK R h1
            obtain ⟨kl', vs', tl', e1, e2, e3, e4⟩ := zip_put k ic hl iv'
            obtain ⟨st, R2⟩ := write_dK R h1 e3 e4
            rw [e2] at q
            refine set_dict hu pins s σ H _ _ v ov iv u Q I ro ri rv ⟨_, _, rfl, DPut.k hH (Nat.lt_trans ?_ LIM_lt), by rw [e1]; exact q ι _ st R2⟩
            have l1 : (kl.zip vs).length = (kl.zip tl).length := by simp [iv'.length]
            rw [l1]; exact h3
          · cases e
      | dT kvs =>
        dsimp only at e
        cases h2 : T.keyT b with
        | none => rw [h2] at e; cases e
        | some k =>
          rw [h2] at e
          dsimp only at e
          split at e
          · rename_i h3
            cases e
            obtain ⟨b, rfl, hb⟩ := keyT_ok ib h2
            obtain ⟨_, kl, vs, tl, rfl, hH, hl, iv'⟩ := ref_dT R h1
            obtain ⟨kl', vs', tl', e1, e2, e3, e4⟩ := zip_put k ic hl iv'
            obtain ⟨st, R2⟩ := write_dT R h1 e3 e4
            rw [e2] at q
            refine set_dict hu pins s σ H _ _ v ov iv u Q I ro ri rv ⟨_, _, rfl, DPut.t hH hb (Nat.lt_trans ?_ LIM_lt), by rw [e1]; exact q ι _ st R2⟩
            have l1 : (kl.zip vs).length = (kl.zip tl).length := by simp [iv'.length]
            rw [l1]; exact h3
          · cases e
  | _ => cases e
end
section
variable {K : PySem.W.Frag} {XR : XRel} {W : WX} {σ : L2.St} {H : Hp} {Q : VK}
theorem meth_lift {m : Mt} {fo fa : SE} (h : liftE K XR W (bindE fo fun x => fun l S => if mtTy m x S then argsE fa (fun ts => fun _ S => match mtF m x ts S with
    | some (t, S') => some (.ok t, S')
    | none => none) l S else none) σ H Q) : tBM K m.ty (rMt K m) (liftE K XR W fo) (liftA K XR W fa) σ H Q := by
  refine lift_mono (fun x H1 h1 => ?_) (lift_bind0 h)
  obtain ⟨Z, ι, S, l, t, R, sl, i, p⟩ := lift1 h1
  split at p
  · rename_i ty
    refine ⟨ty_mt R i ty, ?_⟩
    have h2 : liftK K XR W [x] (fun ts => argsE fa fun us => match ts with
      | [t] => (fun _ S => match mtF m t us S with
        | some (t, S') => some (.ok t, S')
        | none => none)
      | _ => fun _ _ => none) σ H1 Q := ⟨Z, ι, S, l, [t], R, sl, .one i, p⟩
    refine liftA_mono (fun vs H2 h3 => ?_) (args_bind h2)
    obtain ⟨n, hn, Z, ι, S, l, ts, R, sl, ia, p⟩ := h3
    obtain ⟨us, rs, rfl, ia1, ia2⟩ : ∃ us rs, ts = us ++ rs ∧ IsAll K Z H2 ι S.length vs us ∧ IsAll K Z H2 ι S.length [x] rs := by
      refine ⟨ts.take vs.length, ts.drop vs.length, (List.take_append_drop _ _).symm, ?_, ?_⟩
      · have := ia.take vs.length
        rwa [List.take_left] at this
      · have := ia.drop vs.length
        rwa [List.drop_left] at this
    have hl : us.length = n := by rw [hn, ia1.length]
    have e1 : (us ++ rs).drop n = rs := by rw [← hl]; simp
    have e2 : (us ++ rs).take n = us := by rw [← hl]; simp
    dsimp only at p
    rw [e1, e2] at p
    obtain ⟨t, rfl⟩ : ∃ t, rs = [t] := by
      cases ia2 with
      | cons a b => cases b; exact ⟨_, rfl⟩
    have ix : Is K Z H2 ι S.length x t := by cases ia2 with | cons a b => exact a
    dsimp only at p
    cases e : mtF m t us S with
    | none => rw [e] at p; exact p.elim
    | some r =>
      obtain ⟨t', S'⟩ := r
      rw [e] at p
      exact ⟨Z, ι, S, t, us, t', S', R, ix, ia1, e, p⟩
  · exact p.elim
theorem meth0_lift {m : Mt} {fo : SE} (h : liftE K XR W (bindE fo fun x => fun l S => if mtTy m x S then argsE (retE (.lst [])) (fun ts => fun _ S => match mtF m x ts S with
    | some (t, S') => some (.ok t, S')
    | none => none) l S else none) σ H Q) : tBM0 K m.ty (rMt K m) (liftE K XR W fo) σ H Q := by
  refine lift_mono (fun x H1 h1 => ?_) (lift_bind0 h)
  obtain ⟨Z, ι, S, l, t, R, sl, i, p⟩ := lift1 h1
  split at p
  · rename_i ty
    refine ⟨ty_mt R i ty, ?_⟩
    simp only [argsE, bindE, retE] at p
    cases e : mtF m t [] S with
    | none => rw [e] at p; exact p.elim
    | some r =>
      obtain ⟨t', S'⟩ := r
      rw [e] at p
      exact ⟨Z, ι, S, t, [], t', S', R, i, .nil, e, p⟩
  · exact p.elim
end
end TL

/-! TL: the checker of expressions, and that it is sound. -/
namespace TL
open PySem PySem.Spec PyProof.Rows L2

def visC (sc : Scope) (x : Str) : Bool := match sc.names.lookup x with
  | some .local => true
  | some .cell => true
  | some .free => true
  | _ => false
def locC (sc : Scope) (fn : Str → Bool) (x : Str) : Bool := match sc.names.lookup x with
  | some .local => true
  | some .cell => fn x
  | _ => false
def glC (sc : Scope) (x : Str) : Bool := match sc.names.lookup x with
  | some .globalImplicit => true
  | _ => false
def okName (x : Str) : Bool := !(x == ("__debug__" : Str)) && !(x == ("__classdict__" : Str)) && !(x == ("__name__" : Str))
def isStarred : Expr → Bool
  | .Starred .. => true
  | _ => false
def notSet : Expr → Bool
  | .Set .. => false
  | _ => true
theorem star1 {e : Expr} {es : List Expr} {env : Env} (h : isStarred e = false) : starEach (e :: es) env = (false, eval e env) :: starEach es env := by
  cases e <;> first | rfl | cases h
theorem nomarkS {op : CmpOp} {e : Expr} (h : notSet e = true) : behindInMarks op e = false := by
  cases e <;> first | rfl | cases h
theorem nofold {e : Expr} {env : Env} (h : notSet e = true) : ∀ x, foldedSetIterable e env x = pure x := by
  intro x
  cases e <;> first | rfl | cases h
def isSlice : Expr → Bool
  | .Slice .. => true
  | .Tuple .. => false
  | _ => false
/-- what may stand within [..] as an index -/
def ixC : Expr → Bool
  | .Name .. => true
  | .Constant .. => true
  | .BinOp .. => true
  | .UnaryOp .. => true
  | .Subscript .. => true
  | .Call .. => true
  | .Tuple .. => true
  | _ => false
/-- what may be tested by its value -/
def tstC : Expr → Bool
  | .Name .. => true
  | .Subscript .. => true
  | .Call .. => true
  | _ => false
def Bi.nm : Bi → Str
  | .len => "len" | .abs => "abs" | .max2 => "max" | .min2 => "min" | .max1 => "max" | .min1 => "min" | .sum => "sum" | .all => "all"
  | .tuple => "tuple" | .list => "list" | .sorted => "sorted" | .int => "int" | .str => "str" | .dict => "dict"
def Bi.val : Bi → Value
  | .len => .builtin "len" | .abs => .builtin "abs" | .max2 => .builtin "max" | .min2 => .builtin "min" | .max1 => .builtin "max" | .min1 => .builtin "min" | .sum => .builtin "sum" | .all => .builtin "all"
  | .tuple => .type "tuple" | .list => .type "list" | .sorted => .builtin "sorted" | .int => .type "int" | .str => .type "str" | .dict => .type "dict"
def ptC : Expr → Bool
  | .Name .. => true
  | .Subscript .. => true
  | .Call .. => true
  | .Compare .. => true
  | .UnaryOp .Not _ _ => true
  | .BoolOp .. => true
  | _ => false
def isBoolE : Expr → Bool
  | .BoolOp .. => true
  | _ => false
def bltNames : List Str := ["len", "abs", "max", "min", "sum", "all", "tuple", "list", "sorted", "int", "str", "dict", "bool", "isinstance", "range", "enumerate", "zip"]
inductive G3 where
  | ex (x : Expr) | args (xs : List Expr) | iter (x tg : Expr)
def E.cnt : E → Nat
  | .cons _ r => r.cnt + 1
  | _ => 0
/-- a target -/
def tgC (N : List Str) (sc : Scope) (fn : Str → Bool) : Tg → Expr → Bool
  | .name i, x => match x with
    | .Name y _ => N[i]? == some y && locC sc fn y
    | _ => false
  | .tup is, x => match x with
    | .Tuple xs _ _ => tgs is xs
    | _ => false
where tgs : List Nat → List Expr → Bool
  | [], [] => true
  | i :: is, .Name y _ :: xs => N[i]? == some y && locC sc fn y && tgs is xs
  | _, _ => false
def isTupE : Expr → Bool
  | .Tuple .. => true
  | _ => false
def fnOf (sc : Scope) : Str → Bool := fun x => sc.names.lookup x == some .cell
def chk (N : List Str) : E → Scope → (Str → Bool) → G3 → Bool
  | .var i, sc, fn, g => match g with
    | .ex (.Name x _) => N[i]? == some x && visC sc x && okName x
    | _ => false
  | .gc y _, sc, fn, g => match g with
    | .ex (.Name x _) => x == y && glC sc x && okName x
    | _ => false
  | .int i, sc, fn, g => match g with
    | .ex (.Constant (.int j) _ _) => i == j
    | _ => false
  | .str s, sc, fn, g => match g with
    | .ex (.Constant (.str j) _ _) => s == j
    | _ => false
  | .bl s, sc, fn, g => match g with
    | .ex (.Constant (.bool j) _ _) => s == j
    | _ => false
  | .non, sc, fn, g => match g with
    | .ex (.Constant .none _ _) => true
    | _ => false
  | .bin _ op a b, sc, fn, g => match g with
    | .ex (.BinOp x o y _) => op == o && chk N a sc fn (.ex x) && chk N b sc fn (.ex y)
    | _ => false
  | .neg a, sc, fn, g => match g with
    | .ex (.UnaryOp .USub x _) => chk N a sc fn (.ex x)
    | _ => false
  | .not a, sc, fn, g => match g with
    | .ex (.UnaryOp .Not x _) => ptC x && chk N a sc fn (.ex x)
    | _ => false
  | .cmp op a b, sc, fn, g => match g with
    | .ex (.Compare x [o] [y] _) => op == o && notSet y && chk N a sc fn (.ex x) && chk N b sc fn (.ex y)
    | _ => false
  | .chain p q a b c, sc, fn, g => match g with
    | .ex (.Compare x [o, u] [y, z] _) => p == o && q == u && notSet z && chk N a sc fn (.ex x) && chk N b sc fn (.ex y) && chk N c sc fn (.ex z)
    | _ => false
  | .inr ng a args, sc, fn, g => match g with
    | .ex (.Compare x [o] [.Call (.Name f _) (e :: es) [] _] _) => o == (if ng then .NotIn else .In) && f == "range" && glC sc f && chk N a sc fn (.ex x) && !isStarred e && es.all notStar && chk N args sc fn (.args (e :: es))
    | _ => false
  | .and a b, sc, fn, g => match g with
    | .ex (.BoolOp .And (x :: y :: r) pos) => ptC x && chk N a sc fn (.ex x) && chk N b sc fn (.ex (.BoolOp .And (y :: r) pos))
    | _ => false
  | .or a b, sc, fn, g => match g with
    | .ex (.BoolOp .Or (x :: y :: r) pos) => ptC x && chk N a sc fn (.ex x) && chk N b sc fn (.ex (.BoolOp .Or (y :: r) pos))
    | _ => false
  | .one a, sc, fn, g => match g with
    | .ex (.BoolOp _ [x] pos) => ptC x && chk N a sc fn (.ex x)
    | _ => false
  | .ite c a b, sc, fn, g => match g with
    | .ex (.IfExp x y z _) => ptC x && chk N c sc fn (.ex x) && chk N a sc fn (.ex y) && chk N b sc fn (.ex z)
    | _ => false
  | .nil, sc, fn, g => match g with
    | .args [] => true
    | _ => false
  | .cons a r, sc, fn, g => match g with
    | .args (x :: xs) => !isStarred x && chk N a sc fn (.ex x) && chk N r sc fn (.args xs)
    | _ => false
  | .tup args, sc, fn, g => match g with
    | .ex (.Tuple xs _ _) => chk N args sc fn (.args xs)
    | _ => false
  | .lst _ args, sc, fn, g => match g with
    | .ex (.List xs _) => chk N args sc fn (.args xs)
    | _ => false
  | .dnew _ _, sc, fn, g => match g with
    | .ex (.Dict [] [] _) => true
    | _ => false
  | .idx a b, sc, fn, g => match g with
    | .ex (.Subscript x y _) => ixC y && chk N a sc fn (.ex x) && chk N b sc fn (.ex y)
    | _ => false
  | .sl _ a lo hi, sc, fn, g => match g with
    | .ex (.Subscript x (.Slice l h none _) _) => chk N a sc fn (.ex x) && (match l with | none => lo.isNop | some y => !lo.isNop && chk N lo sc fn (.ex y)) && (match h with | none => hi.isNop | some y => !hi.isNop && chk N hi sc fn (.ex y))
    | _ => false
  | .rev _ a, sc, fn, g => match g with
    | .ex (.Subscript x (.Slice none none (some (.UnaryOp .USub (.Constant (.int 1) _ _) _)) _) _) => chk N a sc fn (.ex x)
    | _ => false
  | .nop, _, _, _ => false
  | .call _ y _ args, sc, fn, g => match g with
    | .ex (.Call (.Name x _) (e :: es) [] _) => x == y && glC sc x && okName x && !isStarred e && es.all notStar && chk N args sc fn (.args (e :: es))
    | _ => false
  | .bi _ b args, sc, fn, g => match g with
    | .ex (.Call (.Name x _) (e :: es) [] _) => x == b.nm && glC sc x && !isStarred e && es.all notStar && chk N args sc fn (.args (e :: es))
    | _ => false
  | .isi a ty, sc, fn, g => match g with
    | .ex (.Call (.Name x _) [e, .Name y _] [] _) => x == "isinstance" && glC sc x && y == (ty : Str) && glC sc y && isiTys.contains ty && !isStarred e && chk N a sc fn (.ex e)
    | _ => false
  | .comp _ own tg it cond elt, sc, fn, g => match g with
    | .ex (.ListComp x [⟨t, i, ifs, 0⟩] scope _) => blkC N sc scope own && tgC N (relS scope sc) (fnOf scope) tg t && (tg.ins.all fun k => (own.map (·.2)).contains k) && notSet i && chk N it sc fn (.iter i t) &&
        (match ifs with | [] => cond.isNop | [c] => !cond.isNop && ptC c && chk N cond (relS scope sc) (fnOf scope) (.ex c) | _ => false) && chk N elt (relS scope sc) (fnOf scope) (.ex x)
    | _ => false
  | .seq a, sc, fn, g => match g with
    | .iter x _ => chk N a sc fn (.ex x)
    | _ => false
  | .rng args, sc, fn, g => match g with
    | .iter (.Call (.Name f _) (e :: es) [] _) _ => f == "range" && glC sc f && es.length ≤ 2 && !isStarred e && es.all notStar && chk N args sc fn (.args (e :: es))
    | _ => false
  | .enum a, sc, fn, g => match g with
    | .iter (.Call (.Name f _) [e] [] _) t => f == "enumerate" && glC sc f && isTupE t && !isStarred e && chk N a sc fn (.ex e)
    | _ => false
  | .zip a b, sc, fn, g => match g with
    | .iter (.Call (.Name f _) [e, e2] [] _) t => f == "zip" && glC sc f && isTupE t && !isStarred e && !isStarred e2 && chk N a sc fn (.ex e) && chk N b sc fn (.ex e2)
    | _ => false
  | .meth m o args, sc, fn, g => match g with
    | .ex (.Call (.Attribute x nm ap) [] [] cp) => m.zero && nm == m.nm && (ixC x && (match x with | .Call .. => false | _ => true)) && (ap.endLine == cp.line) && chk N o sc fn (.ex x) && chk N args sc fn (.args [])
    | .ex (.Call (.Attribute x nm ap) (e :: es) [] cp) => !m.zero && nm == m.nm && (ixC x && (match x with | .Call .. => false | _ => true)) && (ap.endLine == cp.line) && decide (es.length < 20) && !isStarred e && es.all notStar && chk N o sc fn (.ex x) && chk N args sc fn (.args (e :: es))
    | _ => false

/-! ### what the calls need -/
def need (M : Md) (XR : XRel) (lv : Nat) : E → Prop
  | .gc x t => match t with
    | .int i => ∃ k, M.mg x = some (.int i k)
    | .str s => ∃ k, M.mg x = some (.str s k)
    | _ => False
  | .bin _ _ a b => need M XR lv a ∧ need M XR lv b
  | .neg a => need M XR lv a
  | .not a => need M XR lv a
  | .cmp _ a b => need M XR lv a ∧ need M XR lv b
  | .chain _ _ a b c => need M XR lv a ∧ need M XR lv b ∧ need M XR lv c
  | .inr _ a b => need M XR lv a ∧ need M XR lv b
  | .and a b => need M XR lv a ∧ need M XR lv b
  | .or a b => need M XR lv a ∧ need M XR lv b
  | .one a => need M XR lv a
  | .ite a b c => need M XR lv a ∧ need M XR lv b ∧ need M XR lv c
  | .cons a b => need M XR lv a ∧ need M XR lv b
  | .tup a => need M XR lv a
  | .lst _ a => need M XR lv a
  | .idx a b => need M XR lv a ∧ need M XR lv b
  | .sl _ a b c => need M XR lv a ∧ need M XR lv b ∧ need M XR lv c
  | .rev _ a => need M XR lv a
  | .call _ x F args => FnNeed M XR lv x args.cnt F ∧ need M XR lv args
  | .bi _ _ a => need M XR lv a
  | .isi a _ => need M XR lv a
  | .comp _ _ _ a b c => need M XR lv a ∧ need M XR lv b ∧ need M XR lv c
  | .seq a => need M XR lv a
  | .rng a => need M XR lv a
  | .enum a => need M XR lv a
  | .zip a b => need M XR lv a ∧ need M XR lv b
  | .meth _ a b => need M XR lv a ∧ need M XR lv b
  | _ => True

/-! ### the context -/
structure Good (M : Md) (XR : XRel) (lv : Nat) (N : List Str) (sc : Scope) (fn : Str → Bool) (X : Cx) (W : WX) : Prop where
  md : mdOf X = M
  N : X.N = N
  sc : X.env.scope = sc
  fn : ∀ x, fn x = true → X.fn x = true
  calm : X.calm = true
  nodup : X.N.Nodup
  units : X.A.units + 65 < cLine
  room : Room lv X.A
  tk : Takes X W
  xo : XOk X.K XR
  blt : ∀ x ∈ bltNames, X.mg x = none
section
variable {M : Md} {XR : XRel} {lv : Nat} {N : List Str} {sc : Scope} {fn : Str → Bool} {X : Cx} {W : WX}
theorem vis_ok (G : Good M XR lv N sc fn X W) {x : Str} (h : visC sc x = true) : Vis X.env.scope x := by
  rw [G.sc]
  unfold visC at h
  split at h
  · exact .inl (by assumption)
  · exact .inr (.inl (by assumption))
  · exact .inr (.inr (by assumption))
  · cases h
theorem loc_ok (G : Good M XR lv N sc fn X W) {x : Str} (h : locC sc fn x = true) : Loc X.env.scope x ∧ (X.fn x = true ∨ X.env.scope.names.lookup x = some .local) := by
  rw [G.sc]
  unfold locC at h
  split at h
  · exact ⟨.inl (by assumption), .inr (by assumption)⟩
  · exact ⟨.inr (by assumption), .inl (G.fn x h)⟩
  · cases h
theorem gl_ok (G : Good M XR lv N sc fn X W) {x : Str} (h : glC sc x = true) : Gl X x := by
  show X.env.scope.names.lookup x = _
  rw [G.sc]
  unfold glC at h
  split at h
  · assumption
  · cases h
theorem okName_ok {x : Str} (h : okName x = true) : (x == ("__debug__" : Str)) = false ∧ (x == ("__classdict__" : Str)) = false ∧ x ≠ "__name__" := by
  unfold okName at h
  simp only [Bool.and_eq_true, Bool.not_eq_true', beq_eq_false_iff_ne] at h
  exact ⟨by simpa using h.1.1, by simpa using h.1.2, h.2⟩
theorem Good.blk (G : Good M XR lv N sc fn X W) (s : Shared) (H : Hp) (scope : Scope) (C : Addr) (cl : List (Str × Addr)) (fp : List Addr) : Good M XR lv N (relS scope sc) (fnOf scope) (X.blk s H scope (compEnvC scope cl C X.env) fp) WF where
  md := G.md
  N := G.N
  sc := by show relS scope X.env.scope = _; rw [G.sc]
  fn := fun x h => h
  calm := G.calm
  nodup := G.nodup
  units := G.units
  room := G.room
  tk := fun u s' ⟨_, _, _, _, _, _, _, _, _, _, _, _, _, _, _, _, w⟩ => w
  xo := G.xo
  blt := G.blt
theorem plainIx_of {b : Expr} (h : ixC b = true) : PlainIx b := by
  intro o i
  cases b <;> first | rfl | cases h
theorem base_of {b : Expr} {nm : Str} {env : Env} (h : ixC b = true ∧ (match b with | .Call .. => false | _ => true) = true) : attributeBase b nm env (eval b env) = eval b env := by
  obtain ⟨h1, h2⟩ := h
  cases b <;> first | rfl | (cases h1; done) | (cases h2; done)
theorem few_of {e : Expr} {es : List Expr} {env : Env} {cp : Pos} (h1 : es.length < 20) (h2 : isStarred e = false) (h3 : es.all notStar = true) : ((backTo cp (starEach (e :: es) env)).all (fun x => !x.1) && (backToKw cp (keywordEach [] env)).all (fun x => x.1.isSome)
      && decide ((e :: es).length + ([] : List Keyword).length + (if ([] : List Keyword).isEmpty then 0 else 1) < 30)) = true := by
  have a1 : (backTo cp (starEach (e :: es) env)).all (fun x => !x.1) = true := by
    have hn : (e :: es).all notStar = true := by
      rw [List.all_cons, h3, Bool.and_true]
      cases e <;> first | rfl | cases h2
    have := star_none (env := env) (pos := cp) hn
    rw [List.all_eq_true]
    rw [List.any_eq_false] at this
    intro x hx
    have := this x hx
    simpa using this
  rw [a1]
  simp only [Bool.true_and]
  rw [Bool.and_eq_true]
  exact ⟨rfl, by simp; omega⟩
theorem tst_of {e : Expr} {env : Env} (h : tstC e = true) : ∀ whole, isTrue e env whole = (do let v ← whole; standAt e.pos; holding [v] (truthy v)) := by
  intro whole
  cases e <;> first | rfl | cases h
theorem bi_boot (b : Bi) : bootBuiltins b.nm = some b.val := by cases b <;> decide +kernel
theorem bi_in (b : Bi) : b.nm ∈ bltNames := by cases b <;> decide
theorem bi_name (b : Bi) : b.nm ≠ "__name__" ∧ (b.nm == ("__debug__" : Str)) = false := by cases b <;> decide
theorem bi_call (hc : X.calm = true) (b : Bi) : CallR X b.val (rBi X.K (biF b)) := by
  cases b
  · exact call_lenF
  · exact call_absF
  · exact call_max2F hc
  · exact call_min2F hc
  · exact call_max1F hc
  · exact call_min1F hc
  · exact call_sumF hc
  · exact call_allF hc
  · exact call_tupleF
  · exact call_listF hc
  · exact call_sortedF
  · exact call_intF
  · exact call_strF
  · exact fun pins s σ H xs us Q I r h => let ⟨_, _, _, _, _, _, _, e, _⟩ := h; by cases e
/-- a call of a built-in, function or type -/
theorem pe_blt {b : Bi} {x : Str} {e : Expr} {es : List Expr} {t : TA} {p pos : Pos} (hc : X.calm = true) (hx : x = b.nm) (hg : Gl X x) (hm : X.mg x = none) (ha : PA X (e :: es) t) (he : isStarred e = false) (hes : es.all notStar = true) :
    PE X (.Call (.Name x p) (e :: es) [] pos) (tCB (rBi X.K (biF b)) t) := by
  subst hx
  have hv := bi_boot b
  have hcr := bi_call (X := X) hc b
  cases hb : b.val with
  | builtin id =>
    rw [hb] at hv hcr
    exact pe_callB hcr hg hm hv ha (bi_name b).1 (bi_name b).2 (star1 he) (star_none hes)
  | type id =>
    rw [hb] at hv hcr
    exact pe_callTy hcr hg hm hv ha (bi_name b).1 (bi_name b).2 (star1 he) (star_none hes)
  | _ => cases b <;> cases hb
theorem ev_cnt : ∀ (e : E) {N : List Str} {sc : Scope} {fn : Str → Bool} {xs : List Expr}, chk N e sc fn (.args xs) = true → e.cnt = xs.length ∧ ∀ l S ts S', ev e l S = some (.ok (.lst ts), S') → ts.length = xs.length
  | .nil, N, sc, fn, xs, h => by
    cases xs with
    | nil => exact ⟨rfl, fun l S ts S' e => by cases e; rfl⟩
    | cons _ _ => cases h
  | .cons a r, N, sc, fn, xs, h => by
    cases xs with
    | nil => cases h
    | cons x xs =>
      simp only [chk, Bool.and_eq_true] at h
      obtain ⟨i1, i2⟩ := ev_cnt r h.2
      refine ⟨by simp [E.cnt, i1], fun l S ts S' e => ?_⟩
      simp only [ev, bindE, argsE] at e
      split at e
      · cases e
      · cases e
      · rename_i S1 _
        split at e
        · cases e
        · cases e
        · rename_i t S2 q
          cases t with
          | lst us =>
            cases e
            have := i2 _ _ _ _ q
            simp [this]
          | _ => cases e
  | .var _, _, _, _, _, h | .gc _ _, _, _, _, _, h | .int _, _, _, _, _, h | .str _, _, _, _, _, h | .bl _, _, _, _, _, h | .non, _, _, _, _, h | .bin _ _ _ _, _, _, _, _, h | .neg _, _, _, _, _, h | .not _, _, _, _, _, h
  | .cmp _ _ _, _, _, _, _, h | .chain _ _ _ _ _, _, _, _, _, h | .inr _ _ _, _, _, _, _, h | .and _ _, _, _, _, _, h | .or _ _, _, _, _, _, h | .one _, _, _, _, _, h | .ite _ _ _, _, _, _, _, h | .tup _, _, _, _, _, h | .lst _ _, _, _, _, _, h
  | .dnew _ _, _, _, _, _, h | .idx _ _, _, _, _, _, h | .sl _ _ _ _, _, _, _, _, h | .rev _ _, _, _, _, _, h | .nop, _, _, _, _, h | .call _ _ _ _, _, _, _, _, h | .bi _ _ _, _, _, _, _, h | .isi _ _, _, _, _, _, h | .comp _ _ _ _ _ _, _, _, _, _, h
  | .seq _, _, _, _, _, h | .rng _, _, _, _, _, h | .enum _, _, _, _, _, h | .zip _ _, _, _, _, _, h | .meth _ _ _, _, _, _, _, h => by cases h
theorem tgs_ok (G : Good M XR lv N sc fn X W) : ∀ {is : List Nat} {xs : List Expr}, tgC.tgs N sc fn is xs = true → PGs X xs (gNames is) ∧ (assignEach xs X.env).length = is.length ∧ (assignEach xs X.env).findIdx? (·.1) = none
  | [], [], _ => ⟨pgs_nil, rfl, rfl⟩
  | [], _ :: _, h => by simp [tgC.tgs] at h
  | _ :: _, [], h => by simp [tgC.tgs] at h
  | i :: is, x :: xs, h => by
    cases x with
    | Name y p =>
      simp only [tgC.tgs, Bool.and_eq_true, beq_iff_eq] at h
      obtain ⟨l1, l2⟩ := loc_ok G h.1.2
      obtain ⟨a, b, c⟩ := tgs_ok G h.2
      refine ⟨pgs_cons (pg_name G.nodup (by rw [G.N]; exact h.1.1) l1 l2) a rfl, ?_, ?_⟩
      · show (_ :: assignEach xs X.env).length = _
        simp [b]
      · show ((_ :: assignEach xs X.env : List _)).findIdx? _ = none
        rw [List.findIdx?_cons]
        simp [c]
    | _ => simp [tgC.tgs] at h
def gOf (K : PySem.W.Frag) : Tg → TG
  | .name i => gName i
  | .tup is => gTup K is.length (gNames is)
theorem gok_of {K : PySem.W.Frag} (tg : Tg) : GOk K tg (gOf K tg) := by
  cases tg with
  | name i => exact gok_name i
  | tup is => exact gok_tup is
theorem tg_ok (G : Good M XR lv N sc fn X W) {tg : Tg} {x : Expr} (h : tgC N sc fn tg x = true) : PG X x (gOf X.K tg) := by
  cases tg with
  | name i =>
    cases x with
    | Name y p =>
      simp only [tgC, Bool.and_eq_true, beq_iff_eq] at h
      obtain ⟨l1, l2⟩ := loc_ok G h.2
      exact pg_name G.nodup (by rw [G.N]; exact h.1) l1 l2
    | _ => cases h
  | tup is =>
    cases x with
    | Tuple xs k p =>
      obtain ⟨a, b, c⟩ := tgs_ok G (show tgC.tgs N sc fn is xs = true from h)
      exact pg_tup G.calm a b c
    | _ => cases h
end
end TL

/-! TL: the checker is sound. -/
namespace L2
theorem PE.imp {X : Cx} {e : PySem.Expr} {t t' : TE} (h : PE X e t) (i : ∀ σ H Q, t' σ H Q → t σ H Q) : PE X e t' := TL.PE.imp h i
theorem PT.imp {X : Cx} {e : PySem.Expr} {t t' : TT} (h : PT X e t) (i : ∀ σ H Q, t' σ H Q → t σ H Q) : PT X e t' := TL.PT.imp h i
theorem PA.imp {X : Cx} {e : List PySem.Expr} {t t' : TA} (h : PA X e t) (i : ∀ σ H Q, t' σ H Q → t σ H Q) : PA X e t' := TL.PA.imp h i
theorem PS.imp {X : Cx} {e : PySem.Stmt} {t t' : TS} (h : PS X e t) (i : ∀ D σ H, t' D σ H → t D σ H) : PS X e t' := TL.PS.imp h i
theorem PSs.imp {X : Cx} {e : List PySem.Stmt} {t t' : TS} (h : PSs X e t) (i : ∀ D σ H, t' D σ H → t D σ H) : PSs X e t' := TL.PSs.imp h i
theorem PI.imp {X : Cx} {tg e : PySem.Expr} {t t' : TI} (h : PI X tg e t) (i : ∀ σ H Q, t' σ H Q → t σ H Q) : PI X tg e t' := ⟨fun pins s σ H Q I q => h.run pins s σ H Q I (i σ H Q q)⟩
theorem PW.imp {X : Cx} {e : PySem.Expr} {t t' : TT} (h : PW X e t) (i : ∀ σ H Q, t' σ H Q → t σ H Q) : PW X e t' := ⟨fun wh pins s σ H Q I q => h.run wh pins s σ H Q I (i σ H Q q)⟩
end L2
namespace TL
open PySem PySem.Spec PyProof.Rows L2
def OkE (X : Cx) (XR : XRel) (W : WX) (x : Expr) (f : SE) : Prop := PE X x (liftE X.K XR W f) ∧ (ptC x = true → PT X x (tB (liftE X.K XR W f))) ∧ (isBoolE x = true → PW X x (tB (liftE X.K XR W f)))
def OkG (X : Cx) (XR : XRel) (W : WX) (g : G3) (f : SE) : Prop := match g with
  | .ex x => OkE X XR W x f
  | .args es => PA X es (liftA X.K XR W f)
  | .iter x tg => PI X tg x (liftI X.K XR W f)
theorem ok_val {X : Cx} {XR : XRel} {W : WX} {x : Expr} {f : SE} (h : PE X x (liftE X.K XR W f)) (ht : tstC x = true) (hb : isBoolE x = false) : OkE X XR W x f := ⟨h, fun _ => pt_val h (tst_of ht), fun q => by rw [hb] at q; cases q⟩
theorem ok_pe {X : Cx} {XR : XRel} {W : WX} {x : Expr} {f : SE} (h : PE X x (liftE X.K XR W f)) (ht : ptC x = false) (hb : isBoolE x = false) : OkE X XR W x f := ⟨h, (fun q => by rw [ht] at q; cases q), (fun q => by rw [hb] at q; cases q)⟩
theorem isi_facts : ∀ ty ∈ isiTys, bootBuiltins (ty : Str) = some (.type ty) ∧ (ty : Str) ∈ bltNames ∧ (ty : Str) ≠ "__name__" ∧ ((ty : Str) == ("__debug__" : Str)) = false := by decide +kernel
theorem dnewT_lift {K : PySem.W.Frag} {XR : XRel} {W : WX} {nw : Bool} {σ : L2.St} {H : Hp} {Q : VK} (h : liftE K XR W (ev (.dnew true nw)) σ H Q) : tDNewT σ H Q := dnew_lift (t := true) h
theorem dnewK_lift {K : PySem.W.Frag} {XR : XRel} {W : WX} {nw : Bool} {σ : L2.St} {H : Hp} {Q : VK} (h : liftE K XR W (ev (.dnew false nw)) σ H Q) : tDNewK σ H Q := dnew_lift (t := false) h
def Sound (M : Md) (XR : XRel) (lv : Nat) (N : List Str) (e : E) : Prop := ∀ (sc : Scope) (fn : Str → Bool) (g : G3), chk N e sc fn g = true → need M XR lv e → ∀ (X : Cx) (W : WX), Good M XR lv N sc fn X W → OkG X XR W g (ev e)
theorem beq_str {a b : Str} (h : (a == b) = true) : a = b := by simpa using h
variable {M : Md} {XR : XRel} {lv : Nat} {N : List Str}
theorem call_ok {keep : Bool} {y : Str} {F : FnS} {args : E} {sc : Scope} {fn : Str → Bool} {X : Cx} {W : WX} {x : Str} {p pos : Pos} {e : Expr} {es : List Expr} (G : Good M XR lv N sc fn X W) (hx : x = y) (hg : glC sc x = true) (ho : okName x = true)
    (hs : isStarred e = false) (hes : es.all notStar = true) (hc : chk N args sc fn (.args (e :: es)) = true) (ha : PA X (e :: es) (liftA X.K XR W (ev args))) (hn : FnNeed M XR lv y args.cnt F) :
    PE X (.Call (.Name x p) (e :: es) [] pos) (liftE X.K XR W (ev (.call keep y F args))) := by
  subst hx
  have hmd := G.md
  subst hmd
  obtain ⟨f, fd, ps, k, hk, Fo, hm, hkeep, hb⟩ := hn
  obtain ⟨hcnt, hlen⟩ := ev_cnt args hc
  refine (pe_callS (E := WE W) Fo (G.room.mono hk) (gl_ok G hg) hm hkeep hb (passAt G.tk) ha (okName_ok ho).1 (star1 hs) (star_none hes)).imp fun σ H Q h => ?_
  refine liftA_mono (fun vs H1 h1 => ?_) (args_bindN hlen h)
  obtain ⟨hl, Z, ι, S, l, ts, R, sl, ia, p⟩ := h1
  have := call_post G.xo R ia p
  rw [hl, ← hcnt] at this
  exact this
theorem sound : ∀ e : E, Sound M XR lv N e := by
  intro e
  induction e with
  | var i =>
    intro sc fn g h n X W G
    simp only [chk] at h
    split at h
    · simp only [Bool.and_eq_true, beq_iff_eq] at h
      obtain ⟨a, b, c⟩ := okName_ok h.2
      exact ok_val ((pe_var (by rw [G.N]; exact h.1.1) (vis_ok G h.1.2) a b).imp fun σ H Q q => var_lift q) rfl rfl
    · cases h
  | gc y t =>
    intro sc fn g h n X W G
    simp only [chk] at h
    split at h
    · simp only [Bool.and_eq_true] at h
      obtain rfl := beq_str h.1.1
      obtain ⟨a, b, c⟩ := okName_ok h.2
      have hmd := G.md
      subst hmd
      unfold need at n
      split at n
      · obtain ⟨k, n⟩ := n
        exact ok_val ((pe_glob (v := .int _) (gl_ok G h.1.2) n ⟨_, rfl⟩ a).imp fun σ H Q q => ret_lift (.int _) q) rfl rfl
      · obtain ⟨k, n⟩ := n
        exact ok_val ((pe_glob (v := .str _) (gl_ok G h.1.2) n ⟨_, rfl⟩ a).imp fun σ H Q q => ret_lift (.str _) q) rfl rfl
      · exact n.elim
    · cases h
  | int i =>
    intro sc fn g h n X W G
    simp only [chk] at h
    split at h
    · obtain rfl := of_decide_eq_true h
      exact ok_pe (pe_int.imp fun σ H Q q => ret_lift (.int _) q) rfl rfl
    · cases h
  | str i =>
    intro sc fn g h n X W G
    simp only [chk] at h
    split at h
    · obtain rfl := beq_str h
      exact ok_pe (pe_str.imp fun σ H Q q => ret_lift (.str _) q) rfl rfl
    · cases h
  | bl i =>
    intro sc fn g h n X W G
    simp only [chk] at h
    split at h
    · obtain rfl := eq_of_beq h
      exact ok_pe (pe_bl.imp fun σ H Q q => ret_lift (.bl _) q) rfl rfl
    · cases h
  | non =>
    intro sc fn g h n X W G
    simp only [chk] at h
    split at h
    · exact ok_pe (pe_non.imp fun σ H Q q => ret_lift .non q) rfl rfl
    · cases h
  | bin nw op a b iha ihb =>
    intro sc fn g h n X W G
    simp only [chk] at h
    split at h
    · simp only [Bool.and_eq_true] at h
      obtain rfl := eq_of_beq h.1.1
      have ha := iha sc fn _ h.1.2 n.1 X W G
      have hb := ihb sc fn _ h.2 n.2 X W G
      exact ok_pe ((pe_op (op_binF op) ha.1 hb.1).imp fun σ H Q q => bin_lift q) rfl rfl
    · cases h
  | neg a iha =>
    intro sc fn g h n X W G
    simp only [chk] at h
    split at h
    · have ha := iha sc fn _ h n X W G
      exact ok_pe ((pe_un un_neg ha.1).imp fun σ H Q q => neg_lift q) rfl rfl
    · cases h
  | not a iha =>
    intro sc fn g h n X W G
    simp only [chk] at h
    split at h
    · simp only [Bool.and_eq_true] at h
      have ha := iha sc fn _ h.2 n X W G
      exact ⟨(pe_not ha.1).imp fun σ H Q q => not_lift q, fun _ => (pt_not (ha.2.1 h.1)).imp fun σ H Q q => notT_lift q, fun q => by cases q⟩
    · cases h
  | cmp op a b iha ihb =>
    intro sc fn g h n X W G
    simp only [chk] at h
    split at h
    · simp only [Bool.and_eq_true] at h
      obtain rfl := eq_of_beq h.1.1.1
      have ha := iha sc fn _ h.1.2 n.1 X W G
      have hb := ihb sc fn _ h.2 n.2 X W G
      exact ⟨(pe_cmpR (op_cmpF G.units op) ha.1 hb.1 (nomarkS h.1.1.2)).imp fun σ H Q q => bin_lift q, fun _ => (pt_cmpR (op_cmpF G.units op) ha.1 hb.1 (nomarkS h.1.1.2)).imp fun σ H Q q => bin_lift q, fun q => by cases q⟩
    · cases h
  | chain p q a b c iha ihb ihc =>
    intro sc fn g h n X W G
    simp only [chk] at h
    split at h
    · simp only [Bool.and_eq_true] at h
      obtain rfl := eq_of_beq h.1.1.1.1.1
      obtain rfl := eq_of_beq h.1.1.1.1.2
      have ha := iha sc fn _ h.1.1.2 n.1 X W G
      have hb := ihb sc fn _ h.1.2 n.2.1 X W G
      have hc := ihc sc fn _ h.2 n.2.2 X W G
      exact ⟨(pe_chain (op_cmpF G.units p) (op_cmpF G.units q) ha.1 hb.1 hc.1 (nomarkS h.1.1.1.2)).imp fun σ H Q q => chain_lift q,
        fun _ => (pt_chain (op_cmpF G.units p) (op_cmpF G.units q) ha.1 hb.1 hc.1 (nomarkS h.1.1.1.2)).imp fun σ H Q q => chain_lift q, fun q => by cases q⟩
    · cases h
  | inr ng a args iha ihb =>
    intro sc fn g h n X W G
    simp only [chk] at h
    split at h
    · simp only [Bool.and_eq_true, Bool.not_eq_true'] at h
      obtain ⟨⟨⟨⟨⟨⟨h1, h2⟩, h3⟩, h4⟩, h5⟩, h6⟩, h7⟩ := h
      obtain rfl := eq_of_beq h1
      obtain rfl := beq_str h2
      have ha := iha sc fn _ h4 n.1 X W G
      have hb := ihb sc fn _ h7 n.2 X W G
      have hr := fun p pos => pe_callTy (p := p) (pos := pos) (cr_range (X := X)) (gl_ok G h3) (G.blt _ (by decide)) boot_range hb (by decide) (by decide) (star1 h5) (star_none h6)
      exact ⟨(pe_cmpR (op_rg ng) ha.1 (hr _ _) (nomarkS rfl)).imp fun σ H Q q => inr_lift q, fun _ => (pt_cmpR (op_rg ng) ha.1 (hr _ _) (nomarkS rfl)).imp fun σ H Q q => inr_lift q, fun q => by cases q⟩
    · cases h
  | and a b iha ihb =>
    intro sc fn g h n X W G
    simp only [chk] at h
    split at h
    · simp only [Bool.and_eq_true] at h
      have ha := iha sc fn _ h.1.2 n.1 X W G
      have hb := ihb sc fn _ h.2 n.2 X W G
      have pw := (pw_and (ha.2.1 h.1.1) (hb.2.2 rfl)).imp fun σ H Q q => andT_lift q
      exact ⟨(pe_and ha.1 hb.1).imp fun σ H Q q => and_lift q, fun _ => pw.pt, fun _ => pw⟩
    · cases h
  | or a b iha ihb =>
    intro sc fn g h n X W G
    simp only [chk] at h
    split at h
    · simp only [Bool.and_eq_true] at h
      have ha := iha sc fn _ h.1.2 n.1 X W G
      have hb := ihb sc fn _ h.2 n.2 X W G
      have pw := (pw_or (ha.2.1 h.1.1) (hb.2.2 rfl)).imp fun σ H Q q => orT_lift q
      exact ⟨(pe_or ha.1 hb.1).imp fun σ H Q q => or_lift q, fun _ => pw.pt, fun _ => pw⟩
    · cases h
  | one a iha =>
    intro sc fn g h n X W G
    simp only [chk] at h
    split at h
    · rename_i op x pos
      simp only [Bool.and_eq_true] at h
      have ha := iha sc fn _ h.2 n X W G
      cases op with
      | And => exact ⟨pe_one ha.1, fun _ => (pw_and1 (ha.2.1 h.1)).pt, fun _ => pw_and1 (ha.2.1 h.1)⟩
      | Or => exact ⟨pe_one ha.1, fun _ => (pw_or1 (ha.2.1 h.1)).pt, fun _ => pw_or1 (ha.2.1 h.1)⟩
    · cases h
  | ite c a b ihc iha ihb =>
    intro sc fn g h n X W G
    simp only [chk] at h
    split at h
    · simp only [Bool.and_eq_true] at h
      have hc := ihc sc fn _ h.1.1.2 n.1 X W G
      have ha := iha sc fn _ h.1.2 n.2.1 X W G
      have hb := ihb sc fn _ h.2 n.2.2 X W G
      exact ok_pe ((pe_ifExp (hc.2.1 h.1.1.1) ha.1 hb.1).imp fun σ H Q q => ite_lift q) rfl rfl
    · cases h
  | nil =>
    intro sc fn g h n X W G
    simp only [chk] at h
    split at h
    · exact pa_nil.imp fun σ H Q q => liftA_nil q
    · cases h
  | cons a r iha ihr =>
    intro sc fn g h n X W G
    simp only [chk] at h
    split at h
    · simp only [Bool.and_eq_true, Bool.not_eq_true'] at h
      have ha := iha sc fn _ h.1.2 n.1 X W G
      have hr := ihr sc fn _ h.2 n.2 X W G
      exact (pa_cons ha.1 hr (star1 h.1.1)).imp fun σ H Q q => liftA_cons q
    · cases h
  | tup a iha =>
    intro sc fn g h n X W G
    simp only [chk] at h
    split at h
    · have ha := iha sc fn _ h n X W G
      exact ok_pe ((pe_tup ha).imp fun σ H Q q => tup_lift q) rfl rfl
    · cases h
  | lst nw a iha =>
    intro sc fn g h n X W G
    simp only [chk] at h
    split at h
    · have ha := iha sc fn _ h n X W G
      exact ok_pe ((pe_lst ha).imp fun σ H Q q => lst_lift q) rfl rfl
    · cases h
  | dnew t nw =>
    intro sc fn g h n X W G
    simp only [chk] at h
    split at h
    · cases t with
      | true => exact ok_pe (pe_dnewT.imp fun σ H Q q => dnewT_lift q) rfl rfl
      | false => exact ok_pe (pe_dnewK.imp fun σ H Q q => dnewK_lift q) rfl rfl
    · cases h
  | idx a b iha ihb =>
    intro sc fn g h n X W G
    simp only [chk] at h
    split at h
    · simp only [Bool.and_eq_true] at h
      have ha := iha sc fn _ h.1.2 n.1 X W G
      have hb := ihb sc fn _ h.2 n.2 X W G
      have hu : X.A.units + 1 < cLine := by have := G.units; omega
      exact ok_val ((pe_ix (ix_T hu) ha.1 hb.1 (plainIx_of h.1.1)).imp fun σ H Q q => idx_lift q) rfl rfl
    · cases h
  | sl nw a lo hi iha ihl ihh =>
    intro sc fn g h n X W G
    simp only [chk] at h
    split at h
    · simp only [Bool.and_eq_true] at h
      obtain ⟨⟨h1, h2⟩, h3⟩ := h
      have ha := iha sc fn _ h1 n.1 X W G
      have po : ∀ {e : E} {l : Option Expr}, (∀ x, chk N e sc fn (.ex x) = true → PE X x (liftE X.K XR W (ev e))) → (match l with | none => e.isNop | some y => !e.isNop && chk N e sc fn (.ex y)) = true → PO X l (tPt e.isNop (liftE X.K XR W (ev e))) := by
        intro e l hp hl
        cases l with
        | none =>
          have hl : e.isNop = true := hl
          rw [hl]
          exact po_none
        | some y =>
          simp only [Bool.and_eq_true, Bool.not_eq_true'] at hl
          rw [hl.1]
          exact po_some (hp y hl.2)
      exact ok_val ((pe_slice sl_T ha.1 (po (fun x hx => (ihl sc fn _ hx n.2.1 X W G).1) h2) (po (fun x hx => (ihh sc fn _ hx n.2.2 X W G).1) h3)).imp fun σ H Q q => sl_lift q) rfl rfl
    · cases h
  | rev nw a iha =>
    intro sc fn g h n X W G
    simp only [chk] at h
    split at h
    · have ha := iha sc fn _ h n X W G
      exact ok_val ((pe_revA ha.1).imp fun σ H Q q => rev_lift q) rfl rfl
    · cases h
  | nop =>
    intro sc fn g h n X W G
    simp only [chk] at h
    cases h
  | call keep y F args iha =>
    intro sc fn g h n X W G
    simp only [chk] at h
    split at h
    · simp only [Bool.and_eq_true, Bool.not_eq_true'] at h
      obtain ⟨⟨⟨⟨⟨h1, h2⟩, h3⟩, h5⟩, h6⟩, h7⟩ := h
      have ha := iha sc fn _ h7 n.2 X W G
      exact ok_val (call_ok G (beq_str h1) h2 h3 h5 h6 h7 ha n.1) rfl rfl
    · cases h
  | bi nw b args iha =>
    intro sc fn g h n X W G
    simp only [chk] at h
    split at h
    · simp only [Bool.and_eq_true, Bool.not_eq_true'] at h
      obtain ⟨⟨⟨⟨h1, h2⟩, h5⟩, h6⟩, h7⟩ := h
      have ha := iha sc fn _ h7 n X W G
      obtain rfl := beq_str h1
      exact ok_val ((pe_blt G.calm rfl (gl_ok G h2) (G.blt _ (bi_in b)) ha h5 h6).imp fun σ H Q q => bi_lift q) rfl rfl
    · cases h
  | isi a ty iha =>
    intro sc fn g h n X W G
    simp only [chk] at h
    split at h
    · simp only [Bool.and_eq_true, Bool.not_eq_true'] at h
      obtain ⟨⟨⟨⟨⟨⟨h1, h2⟩, h3⟩, h4⟩, h5⟩, h6⟩, h7⟩ := h
      have ha := iha sc fn _ h7 n X W G
      obtain rfl := beq_str h1
      obtain rfl := beq_str h3
      have hm : ty ∈ isiTys := by simpa using h5
      obtain ⟨b1, b2, b3, b4⟩ := isi_facts ty hm
      have hp := fun ps => pa_cons ha.1 (pa_cons (pe_bltn (pos := ps) (v := .ty ty) (gl_ok G h4) (G.blt _ b2) b1 rfl b3 b4) pa_nil (star1 rfl)) (star1 h6)
      exact ok_val ((pe_callB (call_isi (X := X)) (gl_ok G h2) (G.blt _ (by decide)) boot_isinstance (hp _) (by decide) (by decide) (star1 h6) (star_none rfl)).imp fun σ H Q q => isi_lift hm q) rfl rfl
    · cases h
  | comp nw own tg it cond elt ihi ihc ihe =>
    intro sc fn g h n X W G
    simp only [chk] at h
    split at h
    · rename_i x t i ifs scope pos
      simp only [Bool.and_eq_true, List.all_eq_true] at h
      obtain ⟨⟨⟨⟨⟨⟨h1, h2⟩, h3⟩, h4⟩, h5⟩, h6⟩, h7⟩ := h
      have hi := ihi sc fn _ h5 n.1 X W G
      have hin : ∀ k ∈ tg.ins, k ∈ own.map (·.2) := fun k hk => by simpa using h3 k hk
      have ok : BlkOk X.N X.env.scope scope own := by rw [G.N, G.sc]; exact blkOk_by h1
      have key : ∃ tt, (∀ (s : Shared) (H : Hp) (C : Addr) (cl : List (Str × Addr)) (fp : List Addr), PTs (X.blk s H scope (compEnvC scope cl C X.env) fp) ifs tt) ∧ TOk X.K XR (condE cond.isNop (ev cond)) tt := by
        cases ifs with
        | nil =>
          have h6 : cond.isNop = true := h6
          refine ⟨tYes, fun _ _ _ _ _ => pts_nil, ?_⟩
          intro σ H Q q
          rw [h6] at q
          obtain ⟨c, e, q⟩ := ret_lift (.bl true) (show liftE X.K XR WF (retE (.bl true)) σ H _ from q)
          cases e
          exact q
        | cons c r =>
          cases r with
          | nil =>
            simp only [Bool.and_eq_true, Bool.not_eq_true'] at h6
            refine ⟨tB (liftE X.K XR WF (ev cond)), fun s H C cl fp => pts_one ((ihc _ _ _ h6.2 n.2.1 _ WF (G.blk s H scope C cl fp)).2.1 h6.1.2), ?_⟩
            intro σ H Q q
            rw [h6.1.1] at q
            exact q
          | cons _ _ => cases h6
      obtain ⟨tt, ht, tok⟩ := key
      have hel : ∀ (s : Shared) (H : Hp) (C : Addr) (cl : List (Str × Addr)) (fp : List Addr), PE (X.blk s H scope (compEnvC scope cl C X.env) fp) x (liftE X.K XR WF (ev elt)) := fun s H C cl fp => (ihe _ _ _ h7 n.2.2 _ WF (G.blk s H scope C cl fp)).1
      have htg : ∀ (s : Shared) (H : Hp) (C : Addr) (cl : List (Str × Addr)) (fp : List Addr), PG (X.blk s H scope (compEnvC scope cl C X.env) fp) t (gOf X.K tg) := fun s H C cl fp => tg_ok (G.blk s H scope C cl fp) h2
      refine ok_pe ((pe_lc G.calm G.nodup hi ok htg ht hel (nofold h4)).imp fun σ H Q q => ?_) rfl rfl
      exact comp_lift (gok_of tg) tok hin q
    · cases h
  | seq a iha =>
    intro sc fn g h n X W G
    simp only [chk] at h
    split at h
    · have ha := iha sc fn _ h n X W G
      exact (pi_sq ha.1).imp fun σ H Q q => sq_lift q
    · cases h
  | rng args iha =>
    intro sc fn g h n X W G
    simp only [chk] at h
    split at h
    · rename_i f p e es pos tg
      simp only [Bool.and_eq_true, Bool.not_eq_true', decide_eq_true_eq] at h
      obtain ⟨⟨⟨⟨⟨h1, h2⟩, h3⟩, h5⟩, h6⟩, h7⟩ := h
      have ha := iha sc fn _ h7 n X W G
      obtain ⟨_, hlen⟩ := ev_cnt args h7
      obtain rfl := beq_str h1
      have fin : PI X tg (.Call (.Name "range" p) (e :: es) [] pos) (iRngA (e :: es).length (liftA X.K XR W (ev args))) := by
        cases es with
        | nil => exact pi_range1 (gl_ok G h2) (G.blt _ (by decide)) ha (by rw [star1 h5]; rfl)
        | cons e2 es =>
          have q2 : isStarred e2 = false := by
            simp only [List.all_cons, Bool.and_eq_true] at h6
            have := h6.1
            cases e2 <;> first | rfl | cases this
          cases es with
          | nil => exact pi_range2 (gl_ok G h2) (G.blt _ (by decide)) ha (by rw [star1 h5, star1 q2]; rfl) (by rw [star1 q2]; rfl)
          | cons e3 es =>
            cases es with
            | nil => exact pi_range3 (gl_ok G h2) (G.blt _ (by decide)) ha (by rw [star1 h5]) (star_none h6)
            | cons _ _ => simp at h3
      exact fin.imp fun σ H Q q => rngA_lift hlen q
    · cases h
  | enum a iha =>
    intro sc fn g h n X W G
    simp only [chk] at h
    split at h
    · rename_i f p e pos t
      simp only [Bool.and_eq_true, Bool.not_eq_true'] at h
      obtain ⟨⟨⟨⟨h1, h2⟩, h3⟩, h5⟩, h7⟩ := h
      have ha := iha sc fn _ h7 n X W G
      obtain rfl := beq_str h1
      cases t <;> first | cases h3 | skip
      exact (pi_enumB (gl_ok G h2) (G.blt _ (by decide)) (pa_cons ha.1 pa_nil (star1 h5)) (by rw [star1 h5]; rfl)).imp fun σ H Q q => enum_lift q
    · cases h
  | zip a b iha ihb =>
    intro sc fn g h n X W G
    simp only [chk] at h
    split at h
    · rename_i f p e e2 pos t
      simp only [Bool.and_eq_true, Bool.not_eq_true'] at h
      obtain ⟨⟨⟨⟨⟨⟨h1, h2⟩, h3⟩, h5⟩, h6⟩, h7⟩, h8⟩ := h
      have ha := iha sc fn _ h7 n.1 X W G
      have hb := ihb sc fn _ h8 n.2 X W G
      obtain rfl := beq_str h1
      cases t <;> first | cases h3 | skip
      refine (pi_zipB (gl_ok G h2) (G.blt _ (by decide)) (pa_cons ha.1 (pa_cons hb.1 pa_nil (star1 h6)) (star1 h5)) (star1 h5) (star_none ?_)).imp fun σ H Q q => zip_lift q
      simp only [List.all_cons, List.all_nil, Bool.and_true]
      cases e2 <;> first | rfl | cases h6
    · cases h
  | meth m o args iho iha =>
    intro sc fn g h n X W G
    simp only [chk] at h
    have hu : X.A.units + 1 < cLine := by have := G.units; omega
    split at h
    · rename_i x nm ap cp
      simp only [Bool.and_eq_true] at h
      obtain ⟨⟨⟨⟨⟨h1, h2⟩, h3⟩, h4⟩, h5⟩, h6⟩ := h
      have ho := iho sc fn _ h5 n.1 X W G
      obtain rfl := beq_str h2
      refine ok_val (PE.imp (pe_bm0 (r := rMt X.K m) (mt_pa m) (mt_slot m) (mt_type m) (mt_ok hu m) ho.1 (base_of (by simpa using h3)) h4) fun σ H Q q => ?_) rfl rfl
      have hnil : args = .nil := by cases args <;> first | rfl | (simp [chk] at h6)
      subst hnil
      exact meth0_lift q
    · rename_i x nm ap e es cp
      simp only [Bool.and_eq_true, Bool.not_eq_true', decide_eq_true_eq] at h
      obtain ⟨⟨⟨⟨⟨⟨⟨⟨h1, h2⟩, h3⟩, h4⟩, h5⟩, h6⟩, h7⟩, h8⟩, h9⟩ := h
      have ho := iho sc fn _ h8 n.1 X W G
      have ha := iha sc fn _ h9 n.2 X W G
      obtain rfl := beq_str h2
      exact ok_val (PE.imp (pe_bm (r := rMt X.K m) (mt_pa m) (mt_slot m) (mt_type m) (mt_ok hu m) ho.1 ha (base_of (by simpa using h3)) (few_of h5 h6 h7) h4 (star1 h6) (star_none h7)) fun σ H Q q => meth_lift q) rfl rfl
    · cases h
end TL

/-! TL: statements, their evaluator. -/
namespace TL
open PySem PySem.Spec PyProof.Rows L2
inductive Out where
  | nx (l : Lo) | rt (t : T) | er (x : Exn) (l : Lo)
abbrev SS := Lo → Sto → Option (Out × Sto)
inductive Sm where
  | nil | seq (a b : Sm) | skip
  | expr (e : E) | asg (tg : Tg) (e : E) | par (i j : Nat) (args : E) | setI (a b e : E) | aug (i : Nat) (e : E)
  | ret (e : E) | retN | ite (c : E) (a b : Sm)
  | loop (tg : Tg) (it : E) (body : Sm) | wh (fuel : Nat) (c : E) (body : Sm)
def bindS (f : SE) (g : T → SS) : SS := fun l S => match f l S with
  | none => none
  | some (.err x, S') => some (.er x l, S')
  | some (.ok t, S') => g t l S'
def thenS (f g : SS) : SS := fun l S => match f l S with
  | some (.nx l', S') => g l' S'
  | r => r
def loopL (tg : Tg) (body : SS) (d : T) (items : List T) : List T → SS
  | [] => fun l S => if okSrc d items S then some (.nx l, S) else none
  | t :: r => fun l S => if okSrc d items S then (match asgTg tg t l with
    | some l1 => thenS body (loopL tg body d items r) l1 S
    | none => none) else none
def whL (c : SE) (b : SS) : Nat → SS
  | 0 => fun _ _ => none
  | n + 1 => bindS c fun t => match t with
    | .bl true => thenS b (whL c b n)
    | .bl false => fun l S => some (.nx l, S)
    | _ => fun _ _ => none
def ex : Sm → SS
  | .nil => fun l S => some (.nx l, S)
  | .seq a b => thenS (ex a) (ex b)
  | .skip => fun l S => some (.nx l, S)
  | .expr e => bindS (ev e) fun _ l S => some (.nx l, S)
  | .asg tg e => bindS (ev e) fun t l S => match asgTg tg t l with
    | some l' => some (.nx l', S)
    | none => none
  | .par i j args => bindS (ev args) fun t l S => match t with
    | .lst [x, y] => some (.nx ((l.set i (some x)).set j (some y)), S)
    | _ => none
  | .setI a b e => bindS (ev e) fun v => bindS (ev a) fun x => bindS (ev b) fun y => fun l S => match putI v x y S with
    | some S' => some (.nx l, S')
    | none => none
  | .aug i e => fun l S => match l[i]? with
    | some (some (.int k)) => bindS (ev e) (fun t l S => match t with
      | .int j => some (.nx (l.set i (some (.int (k + j)))), S)
      | _ => none) l S
    | _ => none
  | .ret e => bindS (ev e) fun t _ S => some (.rt t, S)
  | .retN => fun _ S => some (.rt .non, S)
  | .ite c a b => bindS (ev c) fun t => match t with
    | .bl true => ex a
    | .bl false => ex b
    | _ => fun _ _ => none
  | .loop tg it body => bindS (ev it) fun d l S => match srcItems d S with
    | some items => loopL tg (ex body) d items items l S
    | none => none
  | .wh n c body => whL (ev c) (ex body) n
/-- a def's answer: its n slots, its body -/
def fnS (n : Nat) (body : Sm) : FnS := fun ts S => match ex body (ts.map some ++ List.replicate (n - ts.length) none) S with
  | some (.nx _, S') => some (.ok .non, S')
  | some (.rt t, S') => some (.ok t, S')
  | some (.er x _, S') => some (.err x, S')
  | none => none
end TL

/-! TL: statements are sound. -/
namespace TL
open PySem PySem.Spec PyProof.Rows L2
section
variable (K : PySem.W.Frag) (XR : XRel) (W : WX)
def PostS (Z : Addr → Prop) (ι : Nat → Addr) (n : Nat) (H : Hp) (D : Ends) : Option (Out × Sto) → Prop
  | none => False
  | some (.nx l', S') => ∀ ι' H' σ', Step ι n H ι' S'.length H' → Rel K Z ι' S' H' → Sl K Z H' ι' S'.length σ' l' → D.nx σ' H'
  | some (.rt t, S') => ∀ ι' H' v, Step ι n H ι' S'.length H' → Rel K Z ι' S' H' → Is K Z H' ι' S'.length v t → D.rt v H'
  | some (.er x l', S') => ∀ ι' H' σ' cls d, Step ι n H ι' S'.length H' → Rel K Z ι' S' H' → Sl K Z H' ι' S'.length σ' l' → XR Z x cls d H' ι' S'.length → W cls d σ' H'
def liftS (f : SS) : TS := fun D σ H => ∃ (Z : Addr → Prop) (ι : Nat → Addr) (S : Sto) (l : Lo), Rel K Z ι S H ∧ Sl K Z H ι S.length σ l ∧ PostS K XR W Z ι S.length H D (f l S)
end
section
variable {K : PySem.W.Frag} {XR : XRel} {W : WX} {Z : Addr → Prop} {H : Hp} {ι : Nat → Addr} {S : Sto} {σ : L2.St} {D : Ends}
theorem PostS.of_step {ι ι1 : Nat → Addr} {n n1 : Nat} {H H1 : Hp} (s : Step ι n H ι1 n1 H1) : ∀ {o : Option (Out × Sto)}, PostS K XR W Z ι n H D o → PostS K XR W Z ι1 n1 H1 D o
  | none, h => h
  | some (.nx l', S'), h => fun ι' H' v st R i => h ι' H' v (s.trans st) R i
  | some (.rt l', S'), h => fun ι' H' v st R i => h ι' H' v (s.trans st) R i
  | some (.er x l', S'), h => fun ι' H' σ' cls d st R i => h ι' H' σ' cls d (s.trans st) R i
/-- an expression first -/
theorem bindS_post {f : SE} {g : T → SS} {l : Lo} (R : Rel K Z ι S H) (sl : Sl K Z H ι S.length σ l) (p : PostS K XR W Z ι S.length H D (bindS f g l S)) :
    Post K XR W Z ι S.length H σ (fun x H1 => ∃ (ι : Nat → Addr) (S : Sto) (t : T), Rel K Z ι S H1 ∧ Sl K Z H1 ι S.length σ l ∧ Is K Z H1 ι S.length x t ∧ PostS K XR W Z ι S.length H1 D (g t l S)) (f l S) := by
  simp only [bindS] at p
  cases e : f l S with
  | none => rw [e] at p; exact p
  | some r =>
    obtain ⟨r, S'⟩ := r
    rw [e] at p
    cases r with
    | err x => exact fun ι' H' cls d st R' xr => p ι' H' σ cls d st R' (Sl.step R st sl) xr
    | ok t => exact fun ι' H' v st R' i => ⟨ι', S', t, R', Sl.step R st sl, i, p.of_step st⟩
theorem bindS_lift {f : SE} {g : T → SS} (h : liftS K XR W (bindS f g) D σ H) :
    liftE K XR W f σ H fun x H1 => ∃ (Z : Addr → Prop) (ι : Nat → Addr) (S : Sto) (l : Lo) (t : T), Rel K Z ι S H1 ∧ Sl K Z H1 ι S.length σ l ∧ Is K Z H1 ι S.length x t ∧ PostS K XR W Z ι S.length H1 D (g t l S) := by
  obtain ⟨Z, ι, S, l, R, sl, p⟩ := h
  exact ⟨Z, ι, S, l, [], R, sl, .nil, (bindS_post R sl p).mono fun v H ⟨ι, S, t, a, b, c, d⟩ => ⟨Z, ι, S, l, t, a, b, c, d⟩⟩
theorem seq_lift {f g : SS} (h : liftS K XR W (thenS f g) D σ H) : tSeq (liftS K XR W f) (liftS K XR W g) D σ H := by
  obtain ⟨Z, ι, S, l, R, sl, p⟩ := h
  refine ⟨Z, ι, S, l, R, sl, ?_⟩
  simp only [thenS] at p
  cases e : f l S with
  | none => rw [e] at p; exact p
  | some r =>
    obtain ⟨r, S'⟩ := r
    rw [e] at p
    cases r with
    | nx l' => exact fun ι' H' σ' st R' sl' => ⟨Z, ι', S', l', R', sl', p.of_step st⟩
    | rt t => exact p
    | er x l' => exact p
theorem nil_lift (h : liftS K XR W (fun l S => some (.nx l, S)) D σ H) : tNext D σ H := by
  obtain ⟨Z, ι, S, l, R, sl, p⟩ := h
  exact p ι H σ .refl R sl
theorem drop_lift {f : SE} (h : liftS K XR W (bindS f fun _ l S => some (.nx l, S)) D σ H) : tDrop (liftE K XR W f) D σ H := by
  refine lift_mono (fun x H1 h1 => ?_) (bindS_lift h)
  obtain ⟨Z, ι, S, l, t, R, sl, i, p⟩ := h1
  exact p ι H1 σ .refl R sl
theorem asg_lift {f : SE} {tg : Tg} {g : TG} (hg : GOk K tg g) (h : liftS K XR W (bindS f fun t l S => match asgTg tg t l with
    | some l' => some (.nx l', S)
    | none => none) D σ H) : tAsg (liftE K XR W f) g D σ H := by
  refine lift_mono (fun x H1 h1 => ?_) (bindS_lift h)
  obtain ⟨Z, ι, S, l, t, R, sl, i, p⟩ := h1
  cases e : asgTg tg t l with
  | none => simp only [e] at p; exact p.elim
  | some l' =>
    simp only [e] at p
    exact hg R i sl e fun σ2 sl2 _ => p ι H1 σ2 .refl R sl2
theorem ret_liftS {f : SE} (h : liftS K XR W (bindS f fun t _ S => some (.rt t, S)) D σ H) : tRet (liftE K XR W f) D σ H := by
  refine lift_mono (fun x H1 h1 => ?_) (bindS_lift h)
  obtain ⟨Z, ι, S, l, t, R, sl, i, p⟩ := h1
  exact p ι H1 x .refl R i
theorem retN_lift (h : liftS K XR W (fun _ S => some (.rt .non, S)) D σ H) : tRetN D σ H := by
  obtain ⟨Z, ι, S, l, R, sl, p⟩ := h
  exact p ι H .non .refl R .non
theorem ite_liftS {f : SE} {a b : SS} (h : liftS K XR W (bindS f fun t => match t with
    | .bl true => a
    | .bl false => b
    | _ => fun _ _ => none) D σ H) : tIfS (tB (liftE K XR W f)) (liftS K XR W a) (liftS K XR W b) D σ H := by
  refine lift_mono (fun x H1 h1 => ?_) (bindS_lift h)
  obtain ⟨Z, ι, S, l, t, R, sl, i, p⟩ := h1
  cases t <;> first | exact p.elim | skip
  rename_i c
  refine ⟨c, is_bl i, ?_⟩
  cases c with
  | true => simp only [if_true]; exact ⟨Z, ι, S, l, R, sl, p⟩
  | false => simp only [Bool.false_eq_true, if_false]; exact ⟨Z, ι, S, l, R, sl, p⟩
theorem par_lift {f : SE} {i j : Nat} (h : liftS K XR W (bindS f fun t l S => match t with
    | .lst [x, y] => some (.nx ((l.set i (some x)).set j (some y)), S)
    | _ => none) D σ H) : tPar i j (liftA K XR W f) D σ H := by
  obtain ⟨Z, ι, S, l, R, sl, p⟩ := h
  refine ⟨Z, ι, S, l, R, sl, ?_⟩
  simp only [bindS] at p
  cases e : f l S with
  | none => rw [e] at p; exact p
  | some r =>
    obtain ⟨r, S'⟩ := r
    rw [e] at p
    cases r with
    | err x => exact fun ι' H' cls d st R' xr => p ι' H' σ cls d st R' (Sl.step R st sl) xr
    | ok t =>
      dsimp only at p
      split at p
      · rename_i x y
        intro ι' H' vs st R' ia
        obtain ⟨v, w, rfl, iv, iw⟩ := ia.inv2
        exact ⟨v, w, rfl, p ι' H' _ st R' (((Sl.step R st sl).set i iv).set j iw)⟩
      · exact p.elim
theorem aug_lift {f : SE} {i : Nat} (h : liftS K XR W (fun l S => match l[i]? with
    | some (some (.int k)) => bindS f (fun t l S => match t with
      | .int j => some (.nx (l.set i (some (.int (k + j)))), S)
      | _ => none) l S
    | _ => none) D σ H) : tAug i (liftE K XR W f) (ipI fun a b => a + b) D σ H := by
  obtain ⟨Z, ι, S, l, R, sl, p⟩ := h
  dsimp only at p
  split at p
  · rename_i k e
    obtain ⟨v, e1, iv⟩ := sl.2 i _ e
    cases is_int iv
    refine ⟨.int k, e1, Z, ι, S, l, [], R, sl, .nil, (bindS_post R sl p).mono ?_⟩
    rintro y H1 ⟨ι, S, t, R, sl, it, p⟩
    split at p
    · rename_i j
      cases is_int it
      exact ⟨k, j, rfl, rfl, p ι H1 _ .refl R (sl.set i (.int _))⟩
    · exact p.elim
  · exact p.elim
theorem bindS_lift3 {fa fb fc : SE} {g : T → T → T → SS} (h : liftS K XR W (bindS fa fun x => bindS fb fun y => bindS fc fun z => g x y z) D σ H) :
    liftE K XR W fa σ H fun x H1 => liftE K XR W fb σ H1 fun y H2 => liftE K XR W fc σ H2 fun z H3 => ∃ (Z : Addr → Prop) (ι : Nat → Addr) (S : Sto) (l : Lo) (a b c : T), Rel K Z ι S H3 ∧ Sl K Z H3 ι S.length σ l ∧ Is K Z H3 ι S.length x a ∧ Is K Z H3 ι S.length y b ∧ Is K Z H3 ι S.length z c ∧ PostS K XR W Z ι S.length H3 D (g a b c l S) := by
  obtain ⟨Z, ι, S, l, R, sl, p⟩ := h
  refine ⟨Z, ι, S, l, [], R, sl, .nil, ?_⟩
  simp only [bindS] at p
  show Post K XR W Z ι S.length H σ _ (fa l S)
  cases e : fa l S with
  | none => rw [e] at p; exact p
  | some r =>
    obtain ⟨r, S1⟩ := r
    rw [e] at p
    cases r with
    | err x => exact fun ι' H' cls d st R' xr => p ι' H' σ cls d st R' (Sl.step R st sl) xr
    | ok t1 =>
      intro ι1 H1 v1 st1 R1 i1
      have p := PostS.of_step st1 p
      have sl1 := Sl.step R st1 sl
      refine ⟨Z, ι1, S1, l, [], R1, sl1, .nil, ?_⟩
      dsimp only at p
      show Post K XR W Z ι1 S1.length H1 σ _ (fb l S1)
      cases e : fb l S1 with
      | none => rw [e] at p; exact p
      | some r =>
        obtain ⟨r, S2⟩ := r
        rw [e] at p
        cases r with
        | err x => exact fun ι' H' cls d st R' xr => p ι' H' σ cls d st R' (Sl.step R1 st sl1) xr
        | ok t2 =>
          intro ι2 H2 v2 st2 R2 i2
          have p := PostS.of_step st2 p
          have sl2 := Sl.step R1 st2 sl1
          refine ⟨Z, ι2, S2, l, [], R2, sl2, .nil, ?_⟩
          dsimp only at p
          show Post K XR W Z ι2 S2.length H2 σ _ (fc l S2)
          cases e : fc l S2 with
          | none => rw [e] at p; exact p
          | some r =>
            obtain ⟨r, S3⟩ := r
            rw [e] at p
            cases r with
            | err x => exact fun ι' H' cls d st R' xr => p ι' H' σ cls d st R' (Sl.step R2 st sl2) xr
            | ok t3 =>
              intro ι3 H3 v3 st3 R3 i3
              exact ⟨Z, ι3, S3, l, t1, t2, t3, R3, Sl.step R2 st3 sl2, Is.step R2 st3 (Is.step R1 st2 i1), Is.step R2 st3 i2, i3, PostS.of_step st3 p⟩
theorem put_lift {fa fb fc : SE} (h : liftS K XR W (bindS fc fun v => bindS fa fun x => bindS fb fun y => fun l S => match putI v x y S with
    | some S' => some (.nx l, S')
    | none => none) D σ H) : tAsg (liftE K XR W fc) (gSub (liftE K XR W fa) (liftE K XR W fb) (rPut K)) D σ H := by
  refine lift_mono (fun v H1 h1 => lift_mono (fun x H2 h2 => lift_mono (fun y H3 h3 => ?_) h2) h1) (bindS_lift3 h)
  obtain ⟨Z, ι, S, l, c, a, b, R, sl, ic, ia, ib, p⟩ := h3
  cases e : putI c a b S with
  | none => simp only [e] at p; exact p.elim
  | some S' =>
    simp only [e] at p
    exact ⟨Z, ι, S, a, b, c, S', R, ia, ib, ic, e, fun ι' H' st R' => p ι' H' σ st R' (Sl.step R st sl)⟩
theorem loop_lift {fi : SE} {tg : Tg} {g : TG} {b : SS} (hg : GOk K tg g) (h : liftS K XR W (bindS fi fun d l S => match srcItems d S with
    | some items => loopL tg b d items items l S
    | none => none) D σ H) : tFor (liftI K XR W fi) g (liftS K XR W b) D σ H := by
  obtain ⟨Z, ι, S, l, R, sl, p⟩ := h
  refine ⟨Z, ι, S, l, R, sl, ?_⟩
  simp only [bindS] at p
  cases e : fi l S with
  | none => rw [e] at p; exact p
  | some r =>
    obtain ⟨r, S1⟩ := r
    rw [e] at p
    cases r with
    | err x => exact fun ι' H' cls d st R' xr => p ι' H' σ cls d st R' (Sl.step R st sl) xr
    | ok d =>
      dsimp only at p
      cases e2 : srcItems d S1 with
      | none => rw [e2] at p; exact p.elim
      | some items =>
        rw [e2] at p
        refine ⟨items, e2, fun ι1 H1 J st1 R1 w => ?_⟩
        let Pv : Nat → L2.St → Hp → Prop := fun i σ' H' => ∃ (ι' : Nat → Addr) (S' : Sto) (l' : Lo), Step ι1 S1.length H1 ι' S'.length H' ∧ Rel K Z ι' S' H' ∧ Sl K Z H' ι' S'.length σ' l' ∧ PostS K XR W Z ι' S'.length H' D (loopL tg b d items (items.drop i) l' S')
        refine ⟨fun i m σ' H' => m = items.length - i ∧ i ≤ items.length ∧ Pv i σ' H', ⟨items.length, by simp, Nat.zero_le _, ι1, S1, l, .refl, R1, Sl.step R st1 sl, by simpa using PostS.of_step st1 p⟩, ?_⟩
        rintro i m σ' H' ⟨rfl, hi, ι', S', l', st, R', sl', pv⟩
        by_cases hlt : i < items.length
        · have ed : items.drop i = items[i] :: items.drop (i + 1) := by rw [List.drop_eq_getElem_cons hlt]
          rw [ed] at pv
          simp only [loopL] at pv
          by_cases ok : okSrc d items S' = true
          · rw [if_pos ok] at pv
            obtain ⟨w1, w2, w3⟩ := w.run Z ι' S' H' (fun _ _ _ z => z) st R' ok
            refine .inr ⟨w1 i hlt, Pv (i + 1), fun σ'' H'' p' => ⟨items.length - (i + 1), by omega, rfl, hlt, p'⟩, fun x H'' y => ?_⟩
            obtain ⟨t, ht', s3, R3, ix⟩ := w3 i x H'' hlt y
            rw [List.getElem?_eq_getElem hlt] at ht'
            cases ht'
            cases q1 : asgTg tg items[i] l' with
            | none => rw [q1] at pv; exact pv.elim
            | some l1 =>
              rw [q1] at pv
              dsimp only at pv
              refine hg R3 ix (Sl.step R' s3 sl') q1 fun σ2 sl2 _ => ⟨Z, ι', S', l1, R3, sl2, ?_⟩
              simp only [thenS] at pv
              have pv := PostS.of_step s3 pv
              cases q2 : b l1 S' with
              | none => rw [q2] at pv; exact pv
              | some r2 =>
                obtain ⟨r2, S4⟩ := r2
                rw [q2] at pv
                cases r2 with
                | nx l2 => exact fun ι4 H4 σ4 st4 R4 sl4 => ⟨ι4, S4, l2, (st.trans s3).trans st4, R4, sl4, PostS.of_step st4 pv⟩
                | rt t => exact pv
                | er x l2 => exact pv
          · rw [if_neg ok] at pv; exact pv.elim
        · have ei : i = items.length := by omega
          subst ei
          rw [List.drop_length] at pv
          simp only [loopL] at pv
          by_cases ok : okSrc d items S' = true
          · rw [if_pos ok] at pv
            exact .inl ⟨(w.run Z ι' S' H' (fun _ _ _ z => z) st R' ok).2.1, pv ι' H' σ' .refl R' sl'⟩
          · rw [if_neg ok] at pv; exact pv.elim
theorem wh_lift {fc : SE} {b : SS} {n : Nat} (h : liftS K XR W (whL fc b n) D σ H) : tWhile (tB (liftE K XR W fc)) (liftS K XR W b) D σ H := by
  refine ⟨fun m σ H => liftS K XR W (whL fc b m) D σ H, ⟨n, h⟩, fun m σ H h => ?_⟩
  cases m with
  | zero =>
    obtain ⟨Z, ι, S, l, R, sl, p⟩ := h
    exact p.elim
  | succ m =>
    refine lift_mono (fun x H1 h1 => ?_) (bindS_lift h)
    obtain ⟨Z, ι, S, l, t, R, sl, i, p⟩ := h1
    cases t <;> first | exact p.elim | skip
    rename_i c
    refine ⟨c, is_bl i, ?_⟩
    cases c with
    | false => simp only [Bool.false_eq_true, if_false]; exact p ι H1 σ .refl R sl
    | true =>
      simp only [if_true]
      refine ⟨fun σ' H' => liftS K XR W (whL fc b m) D σ' H', fun σ' H' h => ⟨m, Nat.lt_succ_self _, h⟩, Z, ι, S, l, R, sl, ?_⟩
      dsimp only at p
      simp only [thenS] at p
      cases q2 : b l S with
      | none => rw [q2] at p; exact p
      | some r2 =>
        obtain ⟨r2, S4⟩ := r2
        rw [q2] at p
        cases r2 with
        | nx l2 => exact fun ι4 H4 σ4 st4 R4 sl4 => ⟨Z, ι4, S4, l2, R4, sl4, PostS.of_step st4 p⟩
        | rt t => exact p
        | er x l2 => exact p
end
end TL

/-! TL: the checker of statements, and that it is sound. -/
namespace TL
open PySem PySem.Spec PyProof.Rows L2
inductive GS where
  | st (x : Stmt) | sts (xs : List Stmt)
def parC (sc : Scope) (x y : Str) (px py : Pos) (a b : Expr) : Bool :=
  (match sc.names.lookup x with | some .local => true | _ => false) && (match sc.names.lookup y with | some .local => true | _ => false) && py.line == px.line && !(x == y) && !isStarred a && !isStarred b && !(foldedForSure 8 a && foldedForSure 8 b) && !(constantsAlone 8 a && constantsAlone 8 b)
def localC (sc : Scope) (x : Str) : Bool := match sc.names.lookup x with | some .local => true | _ => false
/-- name = [.. for ..] -/
def lcC (sc : Scope) (t e : Expr) : Bool := match t, e with
  | .Name y py, .ListComp _ _ scope pos => if localC sc y then py.line == pos.line && !(scope.names.any fun (n, k) => n == y && (k == .local || k == .cell)) else true
  | .Tuple .., .ListComp .. => true
  | _, _ => false
def isCompE : E → Bool
  | .comp .. => true
  | _ => false
def isLcE : Expr → Bool
  | .ListComp .. => true
  | _ => false
def chkS (N : List Str) : Sm → Scope → (Str → Bool) → GS → Bool
  | .nil, sc, fn, g => match g with
    | .sts [] => true
    | _ => false
  | .seq a b, sc, fn, g => match g with
    | .sts (x :: xs) => chkS N a sc fn (.st x) && chkS N b sc fn (.sts xs)
    | _ => false
  | .skip, sc, fn, g => match g with
    | .st (.Pass _) => true
    | _ => false
  | .expr e, sc, fn, g => match g with
    | .st (.Expr x _) => notComp x && chk N e sc fn (.ex x)
    | _ => false
  | .asg tg e, sc, fn, g => match g with
    | .st (.Assign [t] x _) => tgC N sc fn tg t && !isTupE x && (if isLcE x then lcC sc t x else notComp x) && chk N e sc fn (.ex x)
    | _ => false
  | .par i j args, sc, fn, g => match g with
    | .st (.Assign [.Tuple [.Name x px, .Name y py] _ _] (.Tuple [a, b] _ _) _) => N[i]? == some x && N[j]? == some y && !(i == j) && parC sc x y px py a b && chk N args sc fn (.args [a, b])
    | _ => false
  | .setI a b e, sc, fn, g => match g with
    | .st (.Assign [.Subscript x y _] z _) => ixC y && notComp z && !isTupE z && chk N a sc fn (.ex x) && chk N b sc fn (.ex y) && chk N e sc fn (.ex z)
    | _ => false
  | .aug i e, sc, fn, g => match g with
    | .st (.AugAssign (.Name y _) .Add x _) => N[i]? == some y && locC sc fn y && chk N e sc fn (.ex x)
    | _ => false
  | .ret e, sc, fn, g => match g with
    | .st (.Return (some x) _) => chk N e sc fn (.ex x)
    | _ => false
  | .retN, sc, fn, g => match g with
    | .st (.Return none _) => true
    | _ => false
  | .ite c a b, sc, fn, g => match g with
    | .st (.If x y z _) => ptC x && chk N c sc fn (.ex x) && chkS N a sc fn (.sts y) && chkS N b sc fn (.sts z)
    | _ => false
  | .loop tg it body, sc, fn, g => match g with
    | .st (.For t x y [] _) => tgC N sc fn tg t && notSet x && chk N it sc fn (.iter x t) && chkS N body sc fn (.sts y)
    | _ => false
  | .wh _ c body, sc, fn, g => match g with
    | .st (.While x y [] _) => ptC x && chk N c sc fn (.ex x) && chkS N body sc fn (.sts y)
    | _ => false
def needS (M : Md) (XR : XRel) (lv : Nat) : Sm → Prop
  | .seq a b => needS M XR lv a ∧ needS M XR lv b
  | .expr e => need M XR lv e
  | .asg _ e => need M XR lv e
  | .par _ _ e => need M XR lv e
  | .setI a b e => need M XR lv a ∧ need M XR lv b ∧ need M XR lv e
  | .aug _ e => need M XR lv e
  | .ret e => need M XR lv e
  | .ite c a b => need M XR lv c ∧ needS M XR lv a ∧ needS M XR lv b
  | .loop _ it b => need M XR lv it ∧ needS M XR lv b
  | .wh _ c b => need M XR lv c ∧ needS M XR lv b
  | _ => True
def OkS (X : Cx) (XR : XRel) (W : WX) (g : GS) (f : SS) : Prop := match g with
  | .st x => PS X x (liftS X.K XR W f)
  | .sts xs => PSs X xs (liftS X.K XR W f)
theorem starred_eq (a : Expr) : (match a with | .Starred .. => true | _ => false) = isStarred a := by cases a <;> rfl
theorem par_sw {sc : Scope} {env : Env} {x y : Str} {px py pt pt2 : Pos} {a b : Expr} {kt k2 : Nat} (hs : env.scope = sc) (hk : env.scope.kind = .function) (h : parC sc x y px py a b = true) :
    swappedStores [.Tuple [.Name x px, .Name y py] kt pt] (.Tuple [a, b] k2 pt2) env = pure (some [x, y]) ∧ env.scope.names.lookup x = some .local ∧ env.scope.names.lookup y = some .local := by
  unfold parC at h
  simp only [Bool.and_eq_true, Bool.not_eq_true', beq_iff_eq] at h
  obtain ⟨⟨⟨⟨⟨⟨⟨h1, h2⟩, h3⟩, h4⟩, h5⟩, h6⟩, h7⟩, h8⟩ := h
  have l1 : env.scope.names.lookup x = some .local := by
    rw [hs]; split at h1 <;> first | assumption | cases h1
  have l2 : env.scope.names.lookup y = some .local := by
    rw [hs]; split at h2 <;> first | assumption | cases h2
  refine ⟨?_, l1, l2⟩
  have kx : env.kindOf x = some .local := l1
  have ky : env.kindOf y = some .local := l2
  have hb : env.blockKind = .function := by unfold Env.blockKind; rw [hk]; rfl
  have hne : (y == x) = false := by
    have h4 : ¬ x = y := by simpa using h4
    simpa using Ne.symm h4
  have f1 : (foldedForSure 8 a && foldedForSure 8 b) = false := h7
  have f2 : (constantsAlone 8 a && constantsAlone 8 b) = false := h8
  have e1 : isStarred a = false := h5
  have e2 : isStarred b = false := h6
  unfold swappedStores
  simp only [List.length_cons, List.length_nil, hb, List.any_cons, List.any_nil, List.head?_cons, Option.map_some, Option.getD_some, List.filterMap_cons, List.filterMap_nil, kx, ky, Expr.pos, h3, List.all_cons, List.all_nil, Bool.and_true, f1, f2]
  have d2 : ([x, y] : List Str).eraseDups = [x, y] := by simp [List.eraseDups, List.eraseDupsBy, List.eraseDupsBy.loop, hne]
  rw [if_neg (by decide), if_neg]
  · simp [d2, f1, f2]
  · intro h
    simp only [Bool.or_false, Bool.or_eq_true] at h
    rcases h with h | h
    · cases a <;> first | (cases h; done) | (cases e1; done)
    · cases b <;> first | (cases h; done) | (cases e2; done)
structure GoodS (M : Md) (XR : XRel) (lv : Nat) (N : List Str) (sc : Scope) (fn : Str → Bool) (X : Cx) (W : WX) : Prop where
  g : Good M XR lv N sc fn X W
  own : PassesOwn (model X.prog X.w) X.A X.env X.xe
  kind : sc.kind = .function
theorem nosw {e t : Expr} {l : Nat} {env : Env} (h : notComp e = true) : swapsWith e (some t) l env = pure false := by
  cases e <;> first | rfl | cases h
theorem nosw1 {e t : Expr} {l : Nat} {env : Env} (h : notComp e = true) : swapsWithSole [t] e l env = pure false := by
  unfold swapsWithSole
  exact nosw h
theorem nosw0 {e : Expr} {l : Nat} {env : Env} (h : notComp e = true) : swapsWith e none l env = pure false := by
  cases e <;> first | rfl | cases h
theorem nostores {e t : Expr} {env : Env} (h : isTupE e = false) : swappedStores [t] e env = pure none := by
  cases t <;> first
    | rfl
    | (cases e <;> first | rfl | cases h)
section
variable {M : Md} {XR : XRel} {lv : Nat} {N : List Str}
/-- name = [.. for ..], the name a plain local -/
theorem set_comp {i : Nat} {y : Str} {py : Pos} {e : E} {x : Expr} {pos : Pos} {sc : Scope} {fn : Str → Bool} {X : Cx} {W : WX} (G : Good M XR lv N sc fn X W) (hk : sc.kind = .function) (hy : N[i]? = some y) (hl : localC sc y = true) (hlc : isLcE x = true) (hsw : lcC sc (.Name y py) x = true)
    (h : chk N e sc fn (.ex x) = true) (n : need M XR lv e) : PS X (.Assign [.Name y py] x pos) (tAsg (liftE X.K XR W (ev e)) (gName i)) := by
  have hyl : X.env.scope.names.lookup y = some .local := by
    rw [G.sc]
    unfold localC at hl
    split at hl <;> first | assumption | cases hl
  cases e with
  | comp nw own tg it cond elt =>
    simp only [chk] at h
    split at h
    · rename_i _ x t i' ifs scope pos' heq
      cases heq
      simp only [Bool.and_eq_true, List.all_eq_true] at h
      obtain ⟨⟨⟨⟨⟨⟨h1, h2⟩, h3⟩, h4⟩, h5⟩, h6⟩, h7⟩ := h
      have hi := sound it sc fn _ h5 n.1 X W G
      have hin : ∀ k ∈ tg.ins, k ∈ own.map (·.2) := fun k hk => by simpa using h3 k hk
      have ok : BlkOk X.N X.env.scope scope own := by rw [G.N, G.sc]; exact blkOk_by h1
      have key : ∃ tt, (∀ (s : Shared) (H : Hp) (C : Addr) (cl : List (Str × Addr)) (fp : List Addr), PTs (X.blk s H scope (compEnvC scope cl C X.env) fp) ifs tt) ∧ TOk X.K XR (condE cond.isNop (ev cond)) tt := by
        cases ifs with
        | nil =>
          have h6 : cond.isNop = true := h6
          refine ⟨tYes, fun _ _ _ _ _ => pts_nil, ?_⟩
          intro σ H Q q
          rw [h6] at q
          obtain ⟨c, e, q⟩ := ret_lift (.bl true) (show liftE X.K XR WF (retE (.bl true)) σ H _ from q)
          cases e
          exact q
        | cons c r =>
          cases r with
          | nil =>
            simp only [Bool.and_eq_true, Bool.not_eq_true'] at h6
            refine ⟨tB (liftE X.K XR WF (ev cond)), fun s H C cl fp => pts_one ((sound cond _ _ _ h6.2 n.2.1 _ WF (G.blk s H scope C cl fp)).2.1 h6.1.2), ?_⟩
            intro σ H Q q
            rw [h6.1.1] at q
            exact q
          | cons _ _ => cases h6
      obtain ⟨tt, ht, tok⟩ := key
      have hel : ∀ (s : Shared) (H : Hp) (C : Addr) (cl : List (Str × Addr)) (fp : List Addr), PE (X.blk s H scope (compEnvC scope cl C X.env) fp) x (liftE X.K XR WF (ev elt)) := fun s H C cl fp => (sound elt _ _ _ h7 n.2.2 _ WF (G.blk s H scope C cl fp)).1
      have htg : ∀ (s : Shared) (H : Hp) (C : Addr) (cl : List (Str × Addr)) (fp : List Addr), PG (X.blk s H scope (compEnvC scope cl C X.env) fp) t (gOf X.K tg) := fun s H C cl fp => tg_ok (G.blk s H scope C cl fp) h2
      simp only [lcC, hl, if_true, Bool.and_eq_true, Bool.not_eq_true'] at hsw
      refine (ps_setLc (i := i) G.calm G.nodup (by rw [G.N]; exact hy) hyl (sw_true (by rw [G.sc]; exact hk) hyl hsw.1 hsw.2) hi ok htg ht hel (nofold h4)).imp fun D σ H q => ?_
      exact comp_lift (gok_of tg) tok hin q
    · cases h
  | _ =>
    cases x <;> first | (cases hlc; done) | (simp [chk] at h; done)
def SoundS (M : Md) (XR : XRel) (lv : Nat) (N : List Str) (s : Sm) : Prop := ∀ (sc : Scope) (fn : Str → Bool) (g : GS), chkS N s sc fn g = true → needS M XR lv s → ∀ (X : Cx) (W : WX), GoodS M XR lv N sc fn X W → OkS X XR W g (ex s)
theorem soundS : ∀ s : Sm, SoundS M XR lv N s := by
  intro s
  induction s with
  | nil =>
    intro sc fn g h n X W G
    simp only [chkS] at h
    split at h
    · exact pss_nil.imp fun D σ H q => nil_lift q
    · cases h
  | seq a b iha ihb =>
    intro sc fn g h n X W G
    simp only [chkS] at h
    split at h
    · simp only [Bool.and_eq_true] at h
      exact (pss_cons (iha sc fn _ h.1 n.1 X W G) (ihb sc fn _ h.2 n.2 X W G)).imp fun D σ H q => seq_lift q
    · cases h
  | skip =>
    intro sc fn g h n X W G
    simp only [chkS] at h
    split at h
    · exact ps_pass.imp fun D σ H q => nil_lift q
    · cases h
  | expr e =>
    intro sc fn g h n X W G
    simp only [chkS] at h
    split at h
    · simp only [Bool.and_eq_true] at h
      exact (ps_expr (sound e sc fn _ h.2 n X W G.g).1 (nosw0 h.1)).imp fun D σ H q => drop_lift q
    · cases h
  | asg tg e =>
    intro sc fn g h n X W G
    simp only [chkS] at h
    split at h
    · rename_i t x pos
      simp only [Bool.and_eq_true, Bool.not_eq_true'] at h
      obtain ⟨⟨⟨h1, h2⟩, h3⟩, h4⟩ := h
      have he := sound e sc fn _ h4 n X W G.g
      have hg := tg_ok G.g h1
      have fin : PS X (.Assign [t] x pos) (tAsg (liftE X.K XR W (ev e)) (gOf X.K tg)) := by
        cases tg with
        | name i =>
          cases t with
          | Name y p =>
            simp only [tgC, Bool.and_eq_true, beq_iff_eq] at h1
            obtain ⟨l1, l2⟩ := loc_ok G.g h1.2
            by_cases hlc : isLcE x = true
            · rw [if_pos hlc] at h3
              by_cases hl : localC sc y = true
              · exact set_comp G.g G.kind h1.1 hl hlc h3 h4 n
              · refine ps_set G.g.nodup (by rw [G.g.N]; exact h1.1) l1 he.1 ?_ l2
                cases x <;> first | (cases hlc; done) | skip
                rename_i elt gens scope ps
                have kn : X.env.kindOf y ≠ some .local := fun k => hl (by
                  have k : X.env.scope.names.lookup y = some .local := k
                  rw [G.g.sc] at k
                  unfold localC
                  rw [k])
                unfold swapsWith
                have kb : (X.env.kindOf y == some NameKind.local) = false := by simpa using kn
                simp [kb]
            · rw [if_neg hlc] at h3
              exact ps_set G.g.nodup (by rw [G.g.N]; exact h1.1) l1 he.1 (nosw h3) l2
          | _ => cases h1
        | tup is =>
          cases t with
          | Tuple xs k p =>
            refine ps_asg he.1 hg ?_ (nostores h2) rfl
            by_cases hlc : isLcE x = true
            · cases x <;> first | (cases hlc; done) | rfl
            · rw [if_neg hlc] at h3
              exact nosw1 h3
          | _ => cases h1
      exact fin.imp fun D σ H q => asg_lift (gok_of tg) q
    · cases h
  | par i j args =>
    intro sc fn g h n X W G
    simp only [chkS] at h
    split at h
    · simp only [Bool.and_eq_true, Bool.not_eq_true', beq_iff_eq] at h
      obtain ⟨⟨⟨⟨h1, h2⟩, h3⟩, h4⟩, h5⟩ := h
      have ha := sound args sc fn _ h5 n X W G.g
      obtain ⟨q1, q2, q3⟩ := par_sw (pt := default) (pt2 := default) (kt := 0) (k2 := 0) G.g.sc (by rw [G.g.sc]; exact G.kind) h4
      refine (ps_par G.g.calm G.g.nodup (by rw [G.g.N]; exact h1) (by rw [G.g.N]; exact h2) (by simpa using h3) q2 q3 ha (par_sw G.g.sc (by rw [G.g.sc]; exact G.kind) h4).1 rfl).imp fun D σ H q => par_lift q
    · cases h
  | setI a b e =>
    intro sc fn g h n X W G
    simp only [chkS] at h
    split at h
    · rename_i x y p z pos
      simp only [Bool.and_eq_true, Bool.not_eq_true'] at h
      obtain ⟨⟨⟨⟨⟨h1, h2⟩, h3⟩, h4⟩, h5⟩, h6⟩ := h
      have ha := sound a sc fn _ h4 n.1 X W G.g
      have hb := sound b sc fn _ h5 n.2.1 X W G.g
      have he := sound e sc fn _ h6 n.2.2 X W G.g
      have hu : X.A.units + 1 < cLine := by have := G.g.units; omega
      refine (ps_asg he.1 (pg_sub ha.1 hb.1 (set_put hu) (fun v => ?_)) (nosw1 h2) (nostores h3) rfl).imp fun D σ H q => put_lift q
      cases y <;> first | rfl | cases h1
    · cases h
  | aug i e =>
    intro sc fn g h n X W G
    simp only [chkS] at h
    split at h
    · simp only [Bool.and_eq_true, beq_iff_eq] at h
      obtain ⟨⟨h1, h2⟩, h3⟩ := h
      obtain ⟨l1, l2⟩ := loc_ok G.g h2
      have he := sound e sc fn _ h3 n X W G.g
      exact (ps_aug G.g.nodup (by rw [G.g.N]; exact h1) l1 he.1 ip_add l2).imp fun D σ H q => aug_lift q
    · cases h
  | ret e =>
    intro sc fn g h n X W G
    simp only [chkS] at h
    split at h
    · exact (ps_ret (sound e sc fn _ h n X W G.g).1).imp fun D σ H q => ret_liftS q
    · cases h
  | retN =>
    intro sc fn g h n X W G
    simp only [chkS] at h
    split at h
    · exact ps_retN.imp fun D σ H q => retN_lift q
    · cases h
  | ite c a b iha ihb =>
    intro sc fn g h n X W G
    simp only [chkS] at h
    split at h
    · simp only [Bool.and_eq_true] at h
      obtain ⟨⟨⟨h1, h2⟩, h3⟩, h4⟩ := h
      have hc := sound c sc fn _ h2 n.1 X W G.g
      exact (ps_if (hc.2.1 h1) (iha sc fn _ h3 n.2.1 X W G) (ihb sc fn _ h4 n.2.2 X W G)).imp fun D σ H q => ite_liftS q
    · cases h
  | loop tg it body ihb =>
    intro sc fn g h n X W G
    simp only [chkS] at h
    split at h
    · simp only [Bool.and_eq_true] at h
      obtain ⟨⟨⟨h1, h2⟩, h3⟩, h4⟩ := h
      have hi := sound it sc fn _ h3 n.1 X W G.g
      exact (ps_for G.own G.g.calm hi (tg_ok G.g h1) (ihb sc fn _ h4 n.2 X W G) (nofold h2)).imp fun D σ H q => loop_lift (gok_of tg) q
    · cases h
  | wh k c body ihb =>
    intro sc fn g h n X W G
    simp only [chkS] at h
    split at h
    · simp only [Bool.and_eq_true] at h
      obtain ⟨⟨h1, h2⟩, h3⟩ := h
      have hc := sound c sc fn _ h2 n.1 X W G.g
      exact (ps_while G.own (hc.2.1 h1) (ihb sc fn _ h3 n.2 X W G)).imp fun D σ H q => wh_lift q
    · cases h
end
end TL

/-! TL: defs. -/
namespace TL
open PySem PySem.Spec PyProof.Rows L2
/-- a def by its body's reading -/
theorem fn_ok {P : Program} {w : World} {K : PySem.W.Frag} {mg : Str → Option Value} {base : Heap} {XR : XRel} {x qual : Str} {st : Stmt} {f : Addr} {fd : FuncData} {N ps : List Str} {k : Nat} {body : Sm} (xo : XOk K XR) (F : Fun K x qual st f fd) (S : FnScope N ps (defScope st))
    (hblt : ∀ y ∈ bltNames, mg y = none) (hc : chkS N body (defScope st) (fun _ => true) (.sts (defBody st)) = true) (hn : needS ⟨P, w, K, mg, base⟩ XR k body) :
    FnOk P w K mg base (L2.CX P w) (k + 1) f fd ps (spT K XR ps.length (fnS N.length body)) := by
  refine F.okX S (fun vs H Q E h => h.1) fun cdv A outer s H vs Q E hr h => ?_
  obtain ⟨hl, Z, ι, S0, ts, R, ia, p⟩ := h
  have G : GoodS ⟨P, w, K, mg, base⟩ XR k N (defScope st) (fun _ => true) (cxOf (L2.CX P w) P w K mg base N qual (defScope st) f cdv A outer s H E) (fun cls d _ H' => E cls d H') :=
    ⟨⟨rfl, rfl, rfl, fun _ _ => rfl, rfl, S.nd, by have := hr.un; show (A.deeper _).units + 65 < _; omega, hr, takes_of rfl rfl rfl rfl, xo, hblt⟩, passes_of rfl, S.kind⟩
  refine ⟨_, soundS body (defScope st) (fun _ => true) _ hc hn _ _ G, ?_⟩
  refine ⟨Z, ι, S0, ts.map some ++ List.replicate (N.length - ts.length) none, R, Sl.none_any ia N.length, ?_⟩
  unfold fnS at p
  cases e : ex body (ts.map some ++ List.replicate (N.length - ts.length) none) S0 with
  | none => rw [e] at p; exact p
  | some r =>
    obtain ⟨r, S'⟩ := r
    rw [e] at p
    cases r with
    | nx l => exact fun ι' H' σ' st R' sl => p ι' H' .non st R' .non
    | rt t => exact p
    | er x l => exact fun ι' H' σ' cls d st R' sl xr => p ι' H' cls d st R' xr
/-- no exceptions -/
def XR0 : XRel := fun _ _ _ _ _ _ _ => False
theorem xok0 {K : PySem.W.Frag} : XOk K XR0 := fun _ _ _ _ _ _ _ _ _ _ h => h
theorem need_of {P : Program} {w : World} {K : PySem.W.Frag} {mg : Str → Option Value} {base : Heap} {XR : XRel} {x : Str} {f : Addr} {fd : FuncData} {ps : List Str} {k lv : Nat} {F : FnS}
    (h : FnOk P w K mg base (L2.CX P w) k f fd ps (spT K XR ps.length F)) (hk : k ≤ lv) (hm : mg x = some (.ref f)) (hkeep : PySem.W.keepIn K (.ref f) = true) (hb : Binds K fd ps []) : FnNeed ⟨P, w, K, mg, base⟩ XR lv x ps.length F :=
  ⟨f, fd, ps, k, hk, h, hm, hkeep, hb⟩
/-- the law's end: the script is locked; the answer is True -/
theorem law_sp {K : PySem.W.Frag} {XR : XRel} {F : FnS} {H : Hp} {a : Addr} {ns : List Int} {S' : Sto} (h : F [.scr ns] [] = some (.ok (.bl true), S')) (hs : SqL K H a (ns.map V.int)) : spT K XR 1 F [.ref a] H (fun v _ => v = .bl true) fun _ _ _ => False := by
  refine ⟨rfl, fun _ => False, fun _ => 0, [], [.scr ns], ⟨fun i j h => absurd h (Nat.not_lt_zero _), fun i o e => by simp at e, fun a z => z.elim, fun i h => absurd h (Nat.not_lt_zero _)⟩, .one (hs.elim (fun hr => .scr hr (fun i h => absurd h (Nat.not_lt_zero _)) id) .scrK), ?_⟩
  rw [h]
  exact fun ι' H' v st R' i => is_bl i
end TL

/-! TL: the evaluator by equations that a simplifier can run. -/
namespace TL
open PySem PySem.Spec L2
theorem nr {α : Sort _} {a b : α} (h : a = b) : a = b := by
  cases h
  exact Eq.refl a
abbrev RE := Option (Res × Sto)
abbrev RS := Option (Out × Sto)
def bnd (o : RE) (k : T → Sto → RE) : RE := match o with
  | none => none
  | some (.err x, S) => some (.err x, S)
  | some (.ok t, S) => k t S
def tstE (o : RE) (f g : Sto → RE) : RE := match o with
  | none => none
  | some (.err x, S) => some (.err x, S)
  | some (.ok (.bl b), S) => if b = true then f S else g S
  | _ => none
def notK : T → Sto → RE
  | .bl b, S => some (.ok (.bl (!b)), S)
  | _, _ => none
def negK : T → Sto → RE
  | .int i, S => some (.ok (.int (-i)), S)
  | _, _ => none
def outB (o : Option Bool) (S : Sto) : RE := match o with
  | some k => some (.ok (.bl k), S)
  | none => none
def outV (o : Option T) (S : Sto) : RE := match o with
  | some t => some (.ok t, S)
  | none => none
def outK (nw : Bool) (o : Option Raw) (S : Sto) : RE := match o with
  | none => none
  | some (.val t) => if nw = true then none else some (.ok t, S)
  | some (.fresh ts) => if nw = true then some (.ok (.ref S.length), S ++ [.lst ts]) else some (.ok (.lst ts), S)
def chainK (o : Option Bool) (S : Sto) (f : Sto → RE) : RE := match o with
  | some k => if k = true then f S else some (.ok (.bl false), S)
  | none => none
def lstK (t : T) (k : List T → RE) : RE := match t with
  | .lst ts => k ts
  | _ => none
def partK (t : T) (S : Sto) : RE := match t with
  | .int i => some (.ok (.int i), S)
  | _ => none
def slK (nw : Bool) (x i j : T) (S : Sto) : RE := match partF i, partF j with
  | some i, some j => outK nw (slF x i j S) S
  | _, _ => none
def inrK (ng : Bool) (x : T) (o : Option (Int × Int)) (S : Sto) : RE := match x, o with
  | .int i, some (lo, hi) => if -(2 ^ 62) ≤ lo ∧ lo < 2 ^ 62 ∧ -(2 ^ 62) ≤ hi ∧ hi < 2 ^ 62 then some (.ok (.bl (if ng then !decide (lo ≤ i ∧ i < hi) else decide (lo ≤ i ∧ i < hi))), S) else none
  | _, _ => none
def rngK (o : Option (List T)) (S : Sto) : RE := match o with
  | some xs => some (.ok (.tup [.non, .lst xs]), S)
  | none => none
def mtK (o : Option (T × Sto)) : RE := match o with
  | some (t, S') => some (.ok t, S')
  | none => none
def callK (keep : Bool) (S : Sto) (o : RE) : RE := if keep = true then o else frzR S.length o
def compK (nw : Bool) (d : T) (S : Sto) (k : List T → Option (List T × Sto)) : RE := match srcItems d S with
  | some items => if items.length ≤ LIM then (match k items with
    | some (vs, S2) => outK nw (some (.fresh vs)) S2
    | none => none) else none
  | none => none
def varK : Option (Option T) → Sto → RE
  | some (some t), S => some (.ok t, S)
  | _, _ => none
section
variable {l : Lo} {S : Sto}
theorem bnd_ok (t : T) (S : Sto) (k : T → Sto → RE) : bnd (some (.ok t, S)) k = k t S := nr rfl
theorem bnd_none (k : T → Sto → RE) : bnd none k = none := nr rfl
theorem bnd_ite (c : Prop) [Decidable c] (A B : RE) (k : T → Sto → RE) : bnd (if c then A else B) k = if c then bnd A k else bnd B k := by split <;> rfl
theorem tstE_ok (b : Bool) (S : Sto) (f g : Sto → RE) : tstE (some (.ok (.bl b), S)) f g = if b = true then f S else g S := nr rfl
theorem tstE_ite (c : Prop) [Decidable c] (A B : RE) (f g : Sto → RE) : tstE (if c then A else B) f g = if c then tstE A f g else tstE B f g := by split <;> rfl
theorem mrg_bl (c : Prop) [Decidable c] (x y : Bool) (S : Sto) : (if c then some (Res.ok (.bl x), S) else some (Res.ok (.bl y), S) : RE) = some (.ok (.bl (if c then x else y)), S) := by split <;> rfl
theorem mrg_int (c : Prop) [Decidable c] (x y : Int) (S : Sto) : (if c then some (Res.ok (.int x), S) else some (Res.ok (.int y), S) : RE) = some (.ok (.int (if c then x else y)), S) := by split <;> rfl
theorem bind_app (f : SE) (g : T → SE) : bindE f g l S = bnd (f l S) fun t S1 => g t l S1 := by
  unfold bindE bnd
  cases f l S with
  | none => rfl
  | some r => obtain ⟨r, S1⟩ := r; cases r <;> rfl
theorem args_app (f : SE) (g : List T → SE) : argsE f g l S = bnd (f l S) fun t S1 => lstK t fun ts => g ts l S1 := by
  unfold argsE
  rw [bind_app]
  congr 1; funext t S1
  cases t <;> rfl
theorem out_app (nw : Bool) (o : Option Raw) : outR nw o l S = outK nw o S := by
  unfold outR outK
  cases o with
  | none => rfl
  | some r => cases r <;> cases nw <;> rfl
theorem ev_var (i : Nat) : ev (.var i) l S = varK l[i]? S := by
  simp only [ev]
  cases l[i]? with
  | none => rfl
  | some o => cases o <;> rfl
theorem ev_gc (x : Str) (t : T) : ev (.gc x t) l S = some (.ok t, S) := nr rfl
theorem ev_int (i : Int) : ev (.int i) l S = some (.ok (.int i), S) := nr rfl
theorem ev_str (i : Str) : ev (.str i) l S = some (.ok (.str i), S) := nr rfl
theorem ev_bl (i : Bool) : ev (.bl i) l S = some (.ok (.bl i), S) := nr rfl
theorem ev_non : ev .non l S = some (.ok .non, S) := nr rfl
theorem ev_bin (nw : Bool) (op : Operator) (a b : E) : ev (.bin nw op a b) l S = bnd (ev a l S) fun x S1 => bnd (ev b l S1) fun y S2 => outK nw (binF op x y S2) S2 := by
  simp only [ev, binE, bind_app, out_app]
theorem ev_neg (a : E) : ev (.neg a) l S = bnd (ev a l S) negK := by
  simp only [ev, bind_app]; congr 1; funext t S1; cases t <;> rfl
theorem ev_not (a : E) : ev (.not a) l S = bnd (ev a l S) notK := by
  simp only [ev, bind_app]; congr 1; funext t S1; cases t <;> rfl
theorem ev_cmp (op : CmpOp) (a b : E) : ev (.cmp op a b) l S = bnd (ev a l S) fun x S1 => bnd (ev b l S1) fun y S2 => outB (cmpB op x y S2) S2 := by
  simp only [ev, binE, bind_app, out_app, cmpF]
  congr 1; funext x S1; congr 1; funext y S2
  cases cmpB op x y S2 <;> rfl
theorem ev_chain (p q : CmpOp) (a b c : E) : ev (.chain p q a b c) l S = bnd (ev a l S) fun x S1 => bnd (ev b l S1) fun y S2 => chainK (cmpB p x y S2) S2 fun S2 => bnd (ev c l S2) fun z S3 => outB (cmpB q y z S3) S3 := by
  simp only [ev, bind_app, out_app, cmpF]
  congr 1; funext x S1; congr 1; funext y S2
  cases cmpB p x y S2 with
  | none => rfl
  | some k =>
    cases k with
    | false => rfl
    | true =>
      show bnd _ _ = bnd _ _
      congr 1; funext z S3
      cases cmpB q y z S3 <;> rfl
theorem ev_inr (ng : Bool) (a r : E) : ev (.inr ng a r) l S = bnd (ev a l S) fun x S1 => bnd (ev r l S1) fun t S2 => lstK t fun ts => inrK ng x (rngBounds ts) S2 := by
  simp only [ev, bind_app, args_app]
  congr 1; funext x S1; congr 1; funext t S2
  cases t <;> try rfl
  rename_i ts
  simp only [lstK]
  cases x <;> cases rngBounds ts <;> try rfl
  simp only [inrK]
  split <;> rfl
theorem ev_and (a b : E) : ev (.and a b) l S = tstE (ev a l S) (fun S1 => ev b l S1) fun S1 => some (.ok (.bl false), S1) := by
  simp only [ev, bind_app]
  cases ev a l S with
  | none => rfl
  | some r => obtain ⟨r, S1⟩ := r; cases r with
    | err x => rfl
    | ok t => cases t <;> try rfl
              rename_i b; cases b <;> rfl
theorem ev_or (a b : E) : ev (.or a b) l S = tstE (ev a l S) (fun S1 => some (.ok (.bl true), S1)) fun S1 => ev b l S1 := by
  simp only [ev, bind_app]
  cases ev a l S with
  | none => rfl
  | some r => obtain ⟨r, S1⟩ := r; cases r with
    | err x => rfl
    | ok t => cases t <;> try rfl
              rename_i b; cases b <;> rfl
theorem ev_one (a : E) : ev (.one a) l S = ev a l S := nr rfl
theorem ev_ite (c a b : E) : ev (.ite c a b) l S = tstE (ev c l S) (fun S1 => ev a l S1) fun S1 => ev b l S1 := by
  simp only [ev, bind_app]
  cases ev c l S with
  | none => rfl
  | some r => obtain ⟨r, S1⟩ := r; cases r with
    | err x => rfl
    | ok t => cases t <;> try rfl
              rename_i b; cases b <;> rfl
theorem ev_nil : ev .nil l S = some (.ok (.lst []), S) := nr rfl
theorem ev_cons (a r : E) : ev (.cons a r) l S = bnd (ev a l S) fun x S1 => bnd (ev r l S1) fun t S2 => lstK t fun ts => some (.ok (.lst (x :: ts)), S2) := by
  simp only [ev, bind_app, args_app]; rfl
theorem ev_tup (a : E) : ev (.tup a) l S = bnd (ev a l S) fun t S1 => lstK t fun ts => if ts.length ≤ LIM then some (.ok (.tup ts), S1) else none := by
  simp only [ev, args_app]
  refine congrArg _ (funext fun t => funext fun S1 => ?_)
  cases t <;> try rfl
  simp only [lstK]; split <;> rfl
theorem ev_lst (nw : Bool) (a : E) : ev (.lst nw a) l S = bnd (ev a l S) fun t S1 => lstK t fun ts => if ts.length ≤ LIM then outK nw (some (.fresh ts)) S1 else none := by
  simp only [ev, args_app]
  refine congrArg _ (funext fun t => funext fun S1 => ?_)
  cases t <;> try rfl
theorem ev_dnew (t nw : Bool) : ev (.dnew t nw) l S = if t = true then (if nw = true then some (.ok (.ref S.length), S ++ [.dT []]) else some (.ok (.dT []), S)) else (if nw = true then some (.ok (.ref S.length), S ++ [.dK []]) else some (.ok (.dK []), S)) := nr rfl
theorem ev_idx (a b : E) : ev (.idx a b) l S = bnd (ev a l S) fun x S1 => bnd (ev b l S1) fun y S2 => outV (idxF x y S2) S2 := by
  simp only [ev, bind_app]; rfl
theorem part_app (nop : Bool) (f : SE) : partE nop f l S = if nop = true then some (.ok .non, S) else bnd (f l S) partK := by
  unfold partE
  cases nop with
  | true => rfl
  | false =>
    simp only [Bool.false_eq_true, if_false, bind_app]
    congr 1; funext t S1; cases t <;> rfl
theorem ev_sl (nw : Bool) (a lo hi : E) : ev (.sl nw a lo hi) l S = bnd (ev a l S) fun x S1 => bnd (if lo.isNop = true then some (.ok .non, S1) else bnd (ev lo l S1) partK) fun i S2 => bnd (if hi.isNop = true then some (.ok .non, S2) else bnd (ev hi l S2) partK) fun j S3 => slK nw x i j S3 := by
  simp only [ev, bind_app, part_app]
  congr 1; funext x S1; congr 1; funext i S2; congr 1; funext j S3
  unfold slK
  cases partF i <;> cases partF j <;> first | rfl | exact out_app _ _
theorem ev_rev (nw : Bool) (a : E) : ev (.rev nw a) l S = bnd (ev a l S) fun x S1 => outK nw (revF x S1) S1 := by
  simp only [ev, bind_app, out_app]
theorem ev_call (keep : Bool) (x : Str) (F : FnS) (a : E) : ev (.call keep x F a) l S = bnd (ev a l S) fun t S1 => lstK t fun ts => callK keep S1 (F ts S1) := by
  simp only [ev, args_app]; rfl
theorem ev_bi (nw : Bool) (b : Bi) (a : E) : ev (.bi nw b a) l S = bnd (ev a l S) fun t S1 => lstK t fun ts => outK nw (biF b ts S1) S1 := by
  simp only [ev, args_app, out_app]
theorem ev_isi (a : E) (ty : String) : ev (.isi a ty) l S = bnd (ev a l S) fun x S1 => outB (isiF ty x S1) S1 := by
  simp only [ev, bind_app]
  congr 1; funext x S1
  cases isiF ty x S1 <;> rfl
theorem ev_comp (nw : Bool) (own : List (Str × Nat)) (tg : Tg) (it cond elt : E) : ev (.comp nw own tg it cond elt) l S = bnd (ev it l S) fun d S1 => compK nw d S1 fun items => compL tg (condE cond.isNop (ev cond)) (ev elt) d items (wipeL l (own.map (·.2))) items S1 := by
  simp only [ev, compE]
  cases ev it l S with
  | none => rfl
  | some r => obtain ⟨r, S1⟩ := r; cases r with
    | err x => rfl
    | ok d =>
      show _ = compK _ _ _ _
      dsimp only
      unfold compK
      cases srcItems d S1 with
      | none => rfl
      | some items =>
        dsimp only
        split
        · cases compL tg (condE cond.isNop (ev cond)) (ev elt) d items (wipeL l (own.map (·.2))) items S1 with
          | none => rfl
          | some p => obtain ⟨vs, S2⟩ := p; exact out_app _ _
        · rfl
theorem ev_seq (a : E) : ev (.seq a) l S = bnd (ev a l S) fun x S1 => some (.ok (.tup [.int 0, x]), S1) := by
  simp only [ev, bind_app]; rfl
theorem ev_rng (a : E) : ev (.rng a) l S = bnd (ev a l S) fun t S1 => lstK t fun ts => rngK (rngF ts) S1 := by
  simp only [ev, args_app]
  congr 1; funext t S1; cases t <;> try rfl
  simp only [lstK]
  rename_i ts
  cases rngF ts <;> rfl
theorem ev_enum (a : E) : ev (.enum a) l S = bnd (ev a l S) fun x S1 => some (.ok (.tup [.bl false, x]), S1) := by
  simp only [ev, bind_app]; rfl
theorem ev_zip (a b : E) : ev (.zip a b) l S = bnd (ev a l S) fun x S1 => bnd (ev b l S1) fun y S2 => some (.ok (.tup [.bl true, x, y]), S2) := by
  simp only [ev, bind_app]; rfl
theorem ev_meth (m : Mt) (o a : E) : ev (.meth m o a) l S = bnd (ev o l S) fun x S1 => if mtTy m x S1 = true then bnd (ev a l S1) fun t S2 => lstK t fun ts => mtK (mtF m x ts S2) else none := by
  simp only [ev, bind_app, args_app]; rfl
end

/-! ### statements -/
def bndS (l : Lo) (o : RE) (k : T → Sto → RS) : RS := match o with
  | none => none
  | some (.err x, S) => some (.er x l, S)
  | some (.ok t, S) => k t S
def tstS (l : Lo) (o : RE) (f g : Sto → RS) : RS := match o with
  | none => none
  | some (.err x, S) => some (.er x l, S)
  | some (.ok (.bl b), S) => if b = true then f S else g S
  | _ => none
def thn (o : RS) (k : Lo → Sto → RS) : RS := match o with
  | some (.nx l, S) => k l S
  | r => r
def asgK (o : Option Lo) (S : Sto) : RS := match o with
  | some l' => some (.nx l', S)
  | none => none
def putK' (o : Option Sto) (l : Lo) : RS := match o with
  | some S' => some (.nx l, S')
  | none => none
def augK (o : Option (Option T)) (i : Nat) (l : Lo) (k : Int → RS) : RS := match o with
  | some (some (.int j)) => k j
  | _ => none
def augV (t : T) (j : Int) (i : Nat) (l : Lo) (S : Sto) : RS := match t with
  | .int m => some (.nx (l.set i (some (.int (j + m)))), S)
  | _ => none
def parK (t : T) (i j : Nat) (l : Lo) (S : Sto) : RS := match t with
  | .lst [x, y] => some (.nx ((l.set i (some x)).set j (some y)), S)
  | _ => none
def srcK (o : Option (List T)) (k : List T → RS) : RS := match o with
  | some xs => k xs
  | none => none
def fnK (o : RS) : RE := match o with
  | some (.nx _, S') => some (.ok .non, S')
  | some (.rt t, S') => some (.ok t, S')
  | some (.er x _, S') => some (.err x, S')
  | none => none
section
variable {l : Lo} {S : Sto}
theorem bndS_ok (l : Lo) (t : T) (S : Sto) (k : T → Sto → RS) : bndS l (some (.ok t, S)) k = k t S := nr rfl
theorem bndS_ite (l : Lo) (c : Prop) [Decidable c] (A B : RE) (k : T → Sto → RS) : bndS l (if c then A else B) k = if c then bndS l A k else bndS l B k := by split <;> rfl
theorem tstS_ok (l : Lo) (b : Bool) (S : Sto) (f g : Sto → RS) : tstS l (some (.ok (.bl b), S)) f g = if b = true then f S else g S := nr rfl
theorem tstS_ite (l : Lo) (c : Prop) [Decidable c] (A B : RE) (f g : Sto → RS) : tstS l (if c then A else B) f g = if c then tstS l A f g else tstS l B f g := by split <;> rfl
theorem thn_nx (l : Lo) (S : Sto) (k : Lo → Sto → RS) : thn (some (.nx l, S)) k = k l S := nr rfl
theorem thn_rt (t : T) (S : Sto) (k : Lo → Sto → RS) : thn (some (.rt t, S)) k = some (.rt t, S) := nr rfl
theorem thn_er (x : Exn) (l : Lo) (S : Sto) (k : Lo → Sto → RS) : thn (some (.er x l, S)) k = some (.er x l, S) := nr rfl
theorem thn_none (k : Lo → Sto → RS) : thn none k = none := nr rfl
theorem thn_ite (c : Prop) [Decidable c] (A B : RS) (k : Lo → Sto → RS) : thn (if c then A else B) k = if c then thn A k else thn B k := by split <;> rfl
theorem thenS_app (f g : SS) : thenS f g l S = thn (f l S) g := by
  unfold thenS thn
  split <;> simp_all
theorem bindS_app (f : SE) (g : T → SS) : bindS f g l S = bndS l (f l S) fun t S1 => g t l S1 := by
  unfold bindS bndS
  cases f l S with
  | none => rfl
  | some r => obtain ⟨r, S1⟩ := r; cases r <;> rfl
theorem ex_nil : ex .nil l S = some (.nx l, S) := nr rfl
theorem ex_skip : ex .skip l S = some (.nx l, S) := nr rfl
theorem ex_seq (a b : Sm) : ex (.seq a b) l S = thn (ex a l S) fun l1 S1 => ex b l1 S1 := by
  simp only [ex, thenS_app]
theorem ex_expr (e : E) : ex (.expr e) l S = bndS l (ev e l S) fun _ S1 => some (.nx l, S1) := by
  simp only [ex, bindS_app]
theorem ex_asg (tg : Tg) (e : E) : ex (.asg tg e) l S = bndS l (ev e l S) fun t S1 => asgK (asgTg tg t l) S1 := by
  simp only [ex, bindS_app]; rfl
theorem ex_par (i j : Nat) (e : E) : ex (.par i j e) l S = bndS l (ev e l S) fun t S1 => parK t i j l S1 := by
  simp only [ex, bindS_app]
  congr 1
theorem ex_setI (a b e : E) : ex (.setI a b e) l S = bndS l (ev e l S) fun v S1 => bndS l (ev a l S1) fun x S2 => bndS l (ev b l S2) fun y S3 => putK' (putI v x y S3) l := by
  simp only [ex, bindS_app]; rfl
theorem ex_aug (i : Nat) (e : E) : ex (.aug i e) l S = augK l[i]? i l fun j => bndS l (ev e l S) fun t S1 => augV t j i l S1 := by
  simp only [ex]
  cases l[i]? with
  | none => rfl
  | some o => cases o with
    | none => rfl
    | some t => cases t <;> first | rfl | (simp only [bindS_app, augK]; rfl) | exact bindS_app _ _
theorem ex_ret (e : E) : ex (.ret e) l S = bndS l (ev e l S) fun t S1 => some (.rt t, S1) := by
  simp only [ex, bindS_app]
theorem ex_retN : ex .retN l S = some (.rt .non, S) := nr rfl
theorem ex_ite (c : E) (a b : Sm) : ex (.ite c a b) l S = tstS l (ev c l S) (fun S1 => ex a l S1) fun S1 => ex b l S1 := by
  simp only [ex, bindS_app]
  cases ev c l S with
  | none => rfl
  | some r => obtain ⟨r, S1⟩ := r; cases r with
    | err x => rfl
    | ok t => cases t <;> try rfl
              rename_i b; cases b <;> rfl
theorem ex_loop (tg : Tg) (it : E) (b : Sm) : ex (.loop tg it b) l S = bndS l (ev it l S) fun d S1 => srcK (srcItems d S1) fun items => loopL tg (ex b) d items items l S1 := by
  simp only [ex, bindS_app]; rfl
theorem ex_wh (n : Nat) (c : E) (b : Sm) : ex (.wh n c b) l S = whL (ev c) (ex b) n l S := nr rfl
theorem wh_step (n : Nat) (c : SE) (b : SS) : whL c b (n + 1) l S = tstS l (c l S) (fun S1 => thn (b l S1) fun l2 S2 => whL c b n l2 S2) fun S1 => some (.nx l, S1) := by
  simp only [whL, bindS_app]
  cases c l S with
  | none => rfl
  | some r => obtain ⟨r, S1⟩ := r; cases r with
    | err x => rfl
    | ok t => cases t <;> try rfl
              rename_i k
              cases k with
              | false => rfl
              | true => exact thenS_app _ _
theorem loop_nil (tg : Tg) (b : SS) (d : T) (items : List T) : loopL tg b d items [] l S = if okSrc d items S = true then some (.nx l, S) else none := nr rfl
theorem loop_cons (tg : Tg) (b : SS) (d : T) (items : List T) (t : T) (r : List T) : loopL tg b d items (t :: r) l S = if okSrc d items S = true then (match asgTg tg t l with
    | some l1 => thn (b l1 S) fun l2 S2 => loopL tg b d items r l2 S2
    | none => none) else none := by
  simp only [loopL]
  split
  · cases asgTg tg t l with
    | none => rfl
    | some l1 => exact thenS_app _ _
  · rfl
theorem fn_app (n : Nat) (b : Sm) (ts : List T) (S : Sto) : fnS n b ts S = fnK (ex b (ts.map some ++ List.replicate (n - ts.length) none) S) := by
  unfold fnS fnK
  split <;> simp_all
theorem fnK_rt (t : T) (S : Sto) : fnK (some (.rt t, S)) = some (.ok t, S) := nr rfl
theorem fnK_nx (l : Lo) (S : Sto) : fnK (some (.nx l, S)) = some (.ok .non, S) := nr rfl
theorem fnK_er (x : Exn) (l : Lo) (S : Sto) : fnK (some (.er x l, S)) = some (.err x, S) := nr rfl
theorem fnK_ite (c : Prop) [Decidable c] (A B : RS) : fnK (if c then A else B) = if c then fnK A else fnK B := by split <;> rfl
end
/-! ### operators on numbers -/
section
variable (i j : Int) (S : Sto)
theorem b_add : binF .Add (.int i) (.int j) S = some (.val (.int (i + j))) := nr rfl
theorem b_sub : binF .Sub (.int i) (.int j) S = some (.val (.int (i - j))) := nr rfl
theorem b_mul : binF .Mult (.int i) (.int j) S = if i.natAbs.log2 + j.natAbs.log2 < 1000000 then some (.val (.int (i * j))) else none := by
  show guardR _ _ = _
  unfold guardR
  simp
theorem b_fdiv : binF .FloorDiv (.int i) (.int j) S = if 0 < j ∧ j.natAbs.log2 < 9000 then some (.val (.int (i / j))) else none := by
  show guardR _ _ = _
  unfold guardR
  simp
theorem b_mod : binF .Mod (.int i) (.int j) S = if 0 < j then some (.val (.int (i % j))) else none := by
  show guardR _ _ = _
  unfold guardR
  simp
theorem b_pow : binF .Pow (.int i) (.int j) S = if 0 ≤ j ∧ j ≤ 1000000 ∧ i.natAbs < 2 ^ 64 then some (.val (.int (i ^ j.toNat))) else none := by
  show guardR _ _ = _
  unfold guardR
  simp
theorem c_eq : cmpB .Eq (.int i) (.int j) S = some (decide (i = j)) := by
  simp [cmpB, eqD, Sto.toD, T.toD, PyData.depth, PyData.eqv]
  rw [Bool.eq_iff_iff]; simp
theorem c_ne : cmpB .NotEq (.int i) (.int j) S = some (!decide (i = j)) := by
  simp [cmpB, eqD, Sto.toD, T.toD, PyData.depth, PyData.eqv]
  rw [Bool.eq_iff_iff]; simp
theorem c_lt : cmpB .Lt (.int i) (.int j) S = some (decide (i < j)) := nr rfl
theorem c_le : cmpB .LtE (.int i) (.int j) S = some (decide (i ≤ j)) := nr rfl
theorem c_gt : cmpB .Gt (.int i) (.int j) S = some (decide (j < i)) := nr rfl
theorem c_ge : cmpB .GtE (.int i) (.int j) S = some (decide (j ≤ i)) := nr rfl
end
/-! ### the combinators at their values (none of these is by rfl in the simplifier's eye: the kernel is to unfold nothing) -/
section
variable {l : Lo} {S : Sto} {t : T}
theorem notK_bl (b : Bool) : notK (.bl b) S = some (.ok (.bl (!b)), S) := nr rfl
theorem negK_int (i : Int) : negK (.int i) S = some (.ok (.int (-i)), S) := nr rfl
theorem outB_some (k : Bool) : outB (some k) S = some (.ok (.bl k), S) := nr rfl
theorem outV_some : outV (some t) S = some (.ok t, S) := nr rfl
theorem outK_val : outK false (some (.val t)) S = some (.ok t, S) := nr rfl
theorem outK_fr (ts : List T) : outK false (some (.fresh ts)) S = some (.ok (.lst ts), S) := nr rfl
theorem outK_new (ts : List T) : outK true (some (.fresh ts)) S = some (.ok (.ref S.length), S ++ [.lst ts]) := nr rfl
theorem outK_ite (nw : Bool) (c : Prop) [Decidable c] (A B : Option Raw) : outK nw (if c then A else B) S = if c then outK nw A S else outK nw B S := by split <;> rfl
theorem chainK_some (k : Bool) (f : Sto → RE) : chainK (some k) S f = if k = true then f S else some (.ok (.bl false), S) := nr rfl
theorem lstK_l (ts : List T) (k : List T → RE) : lstK (.lst ts) k = k ts := nr rfl
theorem partK_int (i : Int) : partK (.int i) S = some (.ok (.int i), S) := nr rfl
theorem inrK_int (ng : Bool) (i lo hi : Int) : inrK ng (.int i) (some (lo, hi)) S = if -(2 ^ 62) ≤ lo ∧ lo < 2 ^ 62 ∧ -(2 ^ 62) ≤ hi ∧ hi < 2 ^ 62 then some (.ok (.bl (if ng = true then !decide (lo ≤ i ∧ i < hi) else decide (lo ≤ i ∧ i < hi))), S) else none := nr rfl
theorem rb1 (j : Int) : rngBounds [.int j] = some (0, j) := nr rfl
theorem rb2 (i j : Int) : rngBounds [.int i, .int j] = some (i, j) := nr rfl
theorem rngK_some (xs : List T) : rngK (some xs) S = some (.ok (.tup [.non, .lst xs]), S) := nr rfl
theorem mtK_some : mtK (some (t, S)) = some (.ok t, S) := nr rfl
theorem callK_t (o : RE) : callK true S o = o := nr rfl
theorem callK_f (o : RE) : callK false S o = frzR S.length o := nr rfl
theorem varK_s : varK (some (some t)) S = some (.ok t, S) := nr rfl
theorem asgK_some : asgK (some l) S = some (.nx l, S) := nr rfl
theorem asgTg_name (i : Nat) : asgTg (.name i) t l = some (l.set i (some t)) := nr rfl
theorem asgTg_tup (is : List Nat) (ts : List T) : asgTg (.tup is) (.tup ts) l = asgTup is ts l := nr rfl
theorem asgTup_cons (i : Nat) (is : List Nat) (ts : List T) : asgTup (i :: is) (t :: ts) l = asgTup is ts (l.set i (some t)) := nr rfl
theorem asgTup_nil : asgTup [] [] l = some l := nr rfl
theorem putK_some : putK' (some S) l = some (.nx l, S) := nr rfl
theorem augK_int (j : Int) (i : Nat) (k : Int → RS) : augK (some (some (.int j))) i l k = k j := nr rfl
theorem augV_int (m j : Int) (i : Nat) : augV (.int m) j i l S = some (.nx (l.set i (some (.int (j + m)))), S) := nr rfl
theorem parK_l (x y : T) (i j : Nat) : parK (.lst [x, y]) i j l S = some (.nx ((l.set i (some x)).set j (some y)), S) := nr rfl
theorem srcK_some (xs : List T) (k : List T → RS) : srcK (some xs) k = k xs := nr rfl
theorem slK_ok {nw : Bool} {x i j : T} {a b : Option Int} (h1 : partF i = some a) (h2 : partF j = some b) : slK nw x i j S = outK nw (slF x a b S) S := by
  unfold slK
  rw [h1, h2]
theorem slK_nn (nw : Bool) (x : T) : slK nw x .non .non S = outK nw (slF x none none S) S := nr rfl
theorem slK_ni (nw : Bool) (x : T) (j : Int) : slK nw x .non (.int j) S = outK nw (slF x none (some j) S) S := nr rfl
theorem slK_in (nw : Bool) (x : T) (i : Int) : slK nw x (.int i) .non S = outK nw (slF x (some i) none S) S := nr rfl
theorem slK_ii (nw : Bool) (x : T) (i j : Int) : slK nw x (.int i) (.int j) S = outK nw (slF x (some i) (some j) S) S := nr rfl
theorem nop_t : E.isNop .nop = true := nr rfl
theorem bi_len (ts : List T) : biF .len ts S = lenF ts S := nr rfl
theorem bi_abs (i : Int) : biF .abs [.int i] S = some (.val (.int (if i < 0 then -i else i))) := nr rfl
theorem bi_max2 (i j : Int) : biF .max2 [.int i, .int j] S = some (.val (.int (if j > i then j else i))) := nr rfl
theorem bi_min2 (i j : Int) : biF .min2 [.int i, .int j] S = some (.val (.int (if j < i then j else i))) := nr rfl
theorem bi_max1 (ts : List T) : biF .max1 ts S = max1F ts S := nr rfl
theorem bi_min1 (ts : List T) : biF .min1 ts S = min1F ts S := nr rfl
theorem bi_sum (ts : List T) : biF .sum ts S = sumF ts S := nr rfl
theorem bi_all (ts : List T) : biF .all ts S = allF ts S := nr rfl
theorem bi_tuple (ts : List T) : biF .tuple ts S = tupleF ts S := nr rfl
theorem bi_list (ts : List T) : biF .list ts S = listF ts S := nr rfl
theorem bi_sorted (ts : List T) : biF .sorted ts S = sortedF ts S := nr rfl
theorem bi_int (i : Int) : biF .int [.int i] S = some (.val (.int i)) := nr rfl
theorem bi_intb (b : Bool) : biF .int [.bl b] S = some (.val (.int (if b = true then 1 else 0))) := nr rfl
theorem bi_str (ts : List T) : biF .str ts S = strF ts S := nr rfl
theorem len_tup (xs : List T) : lenF [.tup xs] S = some (.val (.int xs.length)) := nr rfl
theorem len_lst (xs : List T) : lenF [.lst xs] S = some (.val (.int xs.length)) := nr rfl
theorem len_scr (xs : List Int) : lenF [.scr xs] S = some (.val (.int xs.length)) := by
  have : lenF [.scr xs] S = some (.val (.int (xs.map T.int).length)) := rfl
  rw [this, List.length_map]
theorem nonop_int (i : Int) : E.isNop (.int i) = false := nr rfl
theorem nonop_var (i : Nat) : E.isNop (.var i) = false := nr rfl
theorem nonop_bin (nw : Bool) (op : Operator) (a b : E) : E.isNop (.bin nw op a b) = false := nr rfl
theorem nonop_neg (a : E) : E.isNop (.neg a) = false := nr rfl
theorem isi_ty {ty a : String} (h : S.ty t = some a) : isiF ty t S = some (a == ty || (a == "bool" && ty == "int")) := by
  unfold isiF
  rw [h]
  rfl
end
/-! ### comprehensions and loops whose turns leave the store -/
theorem compL_map {i : Nat} {c elt : SE} {d : T} {items : List T} {l0 : Lo} {S : Sto} (g : T → T) (ok : okSrc d items S = true) : ∀ {rest : List T}, (∀ t ∈ rest, elt (l0.set i (some t)) S = some (.ok (g t), S)) →
    compL (.name i) (condE true c) elt d items l0 rest S = some (rest.map g, S)
  | [], _ => by simp [compL, ok]
  | t :: r, h => by
    have ih := compL_map g ok (rest := r) (c := c) fun u hu => h u (List.mem_cons_of_mem _ hu)
    have h1 := h t List.mem_cons_self
    simp only [compL, ok, if_true, asgTg, condE, retE, h1]
    simp only [condE, if_true] at ih
    rw [ih]
    rfl
theorem bools_map (p : T → Bool) : ∀ xs : List T, T.bools (xs.map fun t => .bl (p t)) = some (xs.map p)
  | [] => rfl
  | t :: r => by simp [T.bools, bools_map p r]
theorem comp_val {own : List (Str × Nat)} {tg : Tg} {it cond elt : E} {l : Lo} {S S1 S2 : Sto} {d : T} {items vs : List T} (h1 : ev it l S = some (.ok d, S1)) (h2 : srcItems d S1 = some items) (h3 : items.length ≤ LIM)
    (h4 : compL tg (condE cond.isNop (ev cond)) (ev elt) d items (wipeL l (own.map (·.2))) items S1 = some (vs, S2)) : ev (.comp false own tg it cond elt) l S = some (.ok (.lst vs), S2) := by
  rw [ev_comp, h1, bnd_ok]
  unfold compK
  rw [h2]
  dsimp only
  rw [if_pos h3, h4]
  rfl
end TL

/-! H: the laws' helpers, in plain Lean. -/
namespace H
open PySem PySem.Spec L2 TL
def B__law_cell_at : Sm := (.seq (.ite (.cmp .Lt (.var 1) (.bi false .len (.cons (.var 0) .nil))) (.seq (.ret (.idx (.var 0) (.var 1)))
  .nil) .nil)
  (.seq (.ret (.int 0))
  .nil))
def F__law_cell_at : FnS := fnS 2 B__law_cell_at
def B__law_next : Sm := (.seq (.asg (.name 0) (.bin false .Mod (.bin false .Add (.var 0) (.int 7919)) (.int 2147483647)))
  (.seq (.ret (.bin false .Mod (.bin false .Add (.bin false .Add (.bin false .Mult (.var 0) (.var 0)) (.bin false .Mult (.int 48271) (.var 0))) (.int 12345)) (.int 2147483629)))
  .nil))
def F__law_next : FnS := fnS 1 B__law_next
def B__law_pen_of : Sm := (.seq (.asg (.name 1) (.bi false .max2 (.cons (.var 0) (.cons (.bin false .Sub (.int 0) (.var 0)) .nil))))
  (.seq (.ret (.lst true (.cons (.var 1) (.cons (.bi false .int (.cons (.cmp .GtE (.var 1) (.bin false .Pow (.int 10) (.int 18))) .nil)) (.cons (.bin false .Mod (.var 1) (.int 1000003)) .nil)))))
  .nil))
def F__law_pen_of : FnS := fnS 2 B__law_pen_of
def B__law_draw : Sm := (.seq (.ite (.cmp .Eq (.idx (.var 0) (.int 1)) (.int 1)) (.seq (.asg (.name 2) (.bin false .Mod (.idx (.var 0) (.int 0)) (.var 1)))
  (.seq (.setI (.var 0) (.int 0) (.bin false .FloorDiv (.idx (.var 0) (.int 0)) (.var 1)))
  (.seq (.ret (.var 2))
  .nil))) .nil)
  (.seq (.setI (.var 0) (.int 2) (.call true "_law_next" F__law_next (.cons (.bin false .Add (.call true "_law_next" F__law_next (.cons (.idx (.var 0) (.int 2)) .nil)) (.int 7)) .nil)))
  (.seq (.ret (.bin false .Mod (.bin false .FloorDiv (.idx (.var 0) (.int 2)) (.int 64)) (.var 1)))
  .nil)))
def F__law_draw : FnS := fnS 3 B__law_draw
def B_is_whole : Sm := (.seq (.ret (.and (.isi (.var 0) "int") (.one (.not (.isi (.var 0) "bool")))))
  .nil)
def F_is_whole : FnS := fnS 1 B_is_whole
def B__law_whole : Sm := (.seq (.ret (.and (.isi (.var 0) "int") (.one (.not (.isi (.var 0) "bool")))))
  .nil)
def F__law_whole : FnS := fnS 1 B__law_whole
def B_arrow_good : Sm := (.seq (.ite (.or (.not (.isi (.var 1) "tuple")) (.or (.cmp .NotEq (.bi false .len (.cons (.var 1) .nil)) (.int 3)) (.one (.not (.bi false .all (.cons (.comp false [("one", 2)] (.name 2) (.seq (.var 1)) .nop (.call true "is_whole" F_is_whole (.cons (.var 2) .nil))) .nil)))))) (.seq (.ret (.bl false))
  .nil) .nil)
  (.seq (.ret (.and (.chain .LtE .Lt (.int 0) (.idx (.var 1) (.int 0)) (.var 0)) (.and (.chain .LtE .Lt (.int 0) (.idx (.var 1) (.int 1)) (.var 0)) (.one (.cmp .LtE (.bi false .abs (.cons (.idx (.var 1) (.int 2)) .nil)) (.gc "MOST_WORTH" (.int 1000000000000000000000000000000)))))))
  .nil))
def F_arrow_good : FnS := fnS 3 B_arrow_good
def B__law_arrow_good : Sm := (.seq (.ite (.or (.not (.isi (.var 1) "tuple")) (.or (.cmp .NotEq (.bi false .len (.cons (.var 1) .nil)) (.int 3)) (.one (.not (.bi false .all (.cons (.comp false [("_law_one", 2)] (.name 2) (.seq (.var 1)) .nop (.call true "_law_whole" F__law_whole (.cons (.var 2) .nil))) .nil)))))) (.seq (.ret (.bl false))
  .nil) .nil)
  (.seq (.ret (.and (.inr false (.idx (.var 1) (.int 0)) (.cons (.var 0) .nil)) (.and (.inr false (.idx (.var 1) (.int 1)) (.cons (.var 0) .nil)) (.one (.chain .LtE .LtE (.neg (.bin false .Pow (.int 10) (.int 30))) (.idx (.var 1) (.int 2)) (.bin false .Pow (.int 10) (.int 30)))))))
  .nil))
def F__law_arrow_good : FnS := fnS 3 B__law_arrow_good
def B_web_good : Sm := (.seq (.ite (.or (.not (.isi (.var 0) "tuple")) (.or (.cmp .NotEq (.bi false .len (.cons (.var 0) .nil)) (.int 2)) (.one (.not (.call true "is_whole" F_is_whole (.cons (.idx (.var 0) (.int 0)) .nil)))))) (.seq (.ret (.bl false))
  .nil) .nil)
  (.seq (.asg (.tup [1, 2]) (.var 0))
  (.seq (.ite (.or (.cmp .Lt (.var 1) (.int 1)) (.or (.cmp .Gt (.var 1) (.gc "MOST_PLACES" (.int 8))) (.or (.not (.isi (.var 2) "tuple")) (.one (.cmp .Gt (.bi false .len (.cons (.var 2) .nil)) (.gc "MOST_ARROWS" (.int 24))))))) (.seq (.ret (.bl false))
  .nil) .nil)
  (.seq (.loop (.tup [3, 4]) (.enum (.var 2)) (.seq (.ite (.or (.not (.call true "arrow_good" F_arrow_good (.cons (.var 1) (.cons (.var 4) .nil)))) (.one (.and (.cmp .Gt (.var 3) (.int 0)) (.one (.cmp .GtE (.sl false (.idx (.var 2) (.bin false .Sub (.var 3) (.int 1))) .nop (.int 2)) (.sl false (.var 4) .nop (.int 2))))))) (.seq (.ret (.bl false))
  .nil) .nil)
  .nil))
  (.seq (.ret (.bl true))
  .nil)))))
def F_web_good : FnS := fnS 5 B_web_good
def B__law_web_good : Sm := (.seq (.ite (.or (.not (.isi (.var 0) "tuple")) (.or (.cmp .NotEq (.bi false .len (.cons (.var 0) .nil)) (.int 2)) (.or (.not (.call true "_law_whole" F__law_whole (.cons (.idx (.var 0) (.int 0)) .nil))) (.one (.inr true (.idx (.var 0) (.int 0)) (.cons (.int 1) (.cons (.int 9) .nil))))))) (.seq (.ret (.bl false))
  .nil) .nil)
  (.seq (.ite (.or (.not (.isi (.idx (.var 0) (.int 1)) "tuple")) (.one (.cmp .Gt (.bi false .len (.cons (.idx (.var 0) (.int 1)) .nil)) (.int 24)))) (.seq (.ret (.bl false))
  .nil) .nil)
  (.seq (.ite (.not (.bi false .all (.cons (.comp false [("_law_arrow", 2)] (.name 2) (.seq (.idx (.var 0) (.int 1))) .nop (.call true "_law_arrow_good" F__law_arrow_good (.cons (.idx (.var 0) (.int 0)) (.cons (.var 2) .nil)))) .nil))) (.seq (.ret (.bl false))
  .nil) .nil)
  (.seq (.ret (.bi false .all (.cons (.comp false [("_law_k", 1)] (.name 1) (.rng (.cons (.int 1) (.cons (.bi false .len (.cons (.idx (.var 0) (.int 1)) .nil)) .nil))) .nop (.cmp .Lt (.sl false (.idx (.idx (.var 0) (.int 1)) (.bin false .Sub (.var 1) (.int 1))) .nop (.int 2)) (.sl false (.idx (.idx (.var 0) (.int 1)) (.var 1)) .nop (.int 2)))) .nil)))
  .nil))))
def F__law_web_good : FnS := fnS 3 B__law_web_good
def B__law_web_by : Sm := (.seq (.asg (.name 2) (.bin false .Add (.int 1) (.call true "_law_draw" F__law_draw (.cons (.var 0) (.cons (.var 1) .nil)))))
  (.seq (.asg (.name 3) (.call true "_law_draw" F__law_draw (.cons (.var 0) (.cons (.int 4) .nil))))
  (.seq (.asg (.name 4) (.idx (.lst false (.cons (.int 2) (.cons (.int 7) (.cons (.int 40) (.cons (.bin false .Pow (.int 10) (.int 30)) .nil))))) (.call true "_law_draw" F__law_draw (.cons (.var 0) (.cons (.int 4) .nil)))))
  (.seq (.asg (.name 5) (.dnew true true))
  (.seq (.ite (.cmp .Gt (.var 3) (.int 0)) (.seq (.loop (.name 7) (.rng (.cons (.var 2) .nil)) (.seq (.setI (.var 5) (.tup (.cons (.var 7) (.cons (.bin false .Mod (.bin false .Add (.var 7) (.int 1)) (.var 2)) .nil))) (.bin false .Sub (.call true "_law_draw" F__law_draw (.cons (.var 0) (.cons (.bin false .Add (.bin false .Mult (.int 2) (.var 4)) (.int 1)) .nil))) (.var 4)))
  .nil))
  .nil) .nil)
  (.seq (.loop (.name 6) (.rng (.cons (.call true "_law_draw" F__law_draw (.cons (.var 0) (.cons (.bi false .min2 (.cons (.int 17) (.cons (.bin false .Mult (.int 3) (.var 2)) .nil))) .nil))) .nil)) (.seq (.asg (.name 8) (.call true "_law_draw" F__law_draw (.cons (.var 0) (.cons (.var 2) .nil))))
  (.seq (.asg (.name 9) (.call true "_law_draw" F__law_draw (.cons (.var 0) (.cons (.var 2) .nil))))
  (.seq (.ite (.or (.cmp .Gt (.var 3) (.int 1)) (.one (.cmp .NotEq (.var 8) (.var 9)))) (.seq (.setI (.var 5) (.tup (.cons (.var 8) (.cons (.var 9) .nil))) (.bin false .Sub (.call true "_law_draw" F__law_draw (.cons (.var 0) (.cons (.bin false .Add (.bin false .Mult (.int 2) (.var 4)) (.int 1)) .nil))) (.var 4)))
  .nil) .nil)
  .nil))))
  (.seq (.ite (.cmp .Eq (.var 3) (.int 3)) (.seq (.expr (.meth .popT (.var 5) (.cons (.tup (.cons (.int 0) (.cons (.bin false .Mod (.int 1) (.var 2)) .nil))) (.cons (.int 0) .nil))))
  .nil) .nil)
  (.seq (.ret (.tup (.cons (.var 2) (.cons (.bi false .tuple (.cons (.bi false .sorted (.cons (.comp false [("_law_one", 8), ("_law_other", 9)] (.tup [8, 9]) (.seq (.bi false .list (.cons (.var 5) .nil))) .nop (.tup (.cons (.var 8) (.cons (.var 9) (.cons (.idx (.var 5) (.tup (.cons (.var 8) (.cons (.var 9) .nil)))) .nil))))) .nil)) .nil)) .nil))))
  .nil))))))))
def F__law_web_by : FnS := fnS 10 B__law_web_by
mutual
/-- no object of the store, no script within -/
def pl : T → Bool
  | .tup xs => pls xs
  | .lst xs => pls xs
  | .ref _ => false
  | .scr _ => false
  | _ => true
def pls : List T → Bool
  | [] => true
  | t :: r => pl t && pls r
end
theorem pl_ty {t : T} (h : pl t = true) : isTy t ≠ none := by cases t <;> simp [isTy] <;> simp [pl] at h
def isW : T → Bool
  | .int _ => true
  | _ => false
theorem is_whole_eq (t : T) (S : Sto) (h : pl t = true) : F_is_whole [t] S = some (.ok (.bl (isW t)), S) := by
  unfold F_is_whole B_is_whole
  cases t <;> first
    | (simp [pl] at h; done)
    | simp [fn_app, ex_nil, ex_skip, ex_seq, ex_expr, ex_asg, ex_par, ex_setI, ex_aug, ex_ret, ex_retN, ex_ite, bndS_ok, bndS_ite, tstS_ok, tstS_ite, thn_nx, thn_rt, thn_er, thn_none, thn_ite, fnK_rt, fnK_nx, fnK_er, fnK_ite, asgK_some, asgTg_name, asgTg_tup, asgTup_cons, asgTup_nil, putK_some, augK_int, augV_int, parK_l, ev_var, ev_gc, ev_int, ev_str, ev_bl, ev_non, ev_bin, ev_neg, ev_not, ev_cmp, ev_chain, ev_inr, ev_and, ev_or, ev_one, ev_ite, ev_nil, ev_cons, ev_tup, ev_lst, ev_dnew, ev_idx, ev_sl, ev_rev, ev_call, ev_bi, ev_isi, ev_meth, bnd_ok, bnd_none, bnd_ite, tstE_ok, tstE_ite, mrg_bl, mrg_int, notK_bl, negK_int, outB_some, outV_some, outK_val, outK_fr, outK_new, outK_ite, chainK_some, lstK_l, partK_int, nop_t, nonop_int, nonop_var, nonop_bin, nonop_neg, inrK_int, mtK_some, callK_t, varK_s, slK_nn, slK_ni, slK_in, slK_ii, b_add, b_sub, b_mul, b_fdiv, b_mod, b_pow, c_eq, c_ne, c_lt, c_le, c_gt, c_ge, bi_len, bi_abs, bi_max2, bi_min2, bi_max1, bi_min1, bi_sum, bi_all, bi_tuple, bi_list, bi_sorted, bi_int, bi_intb, bi_str, len_tup, len_lst, len_scr, rb1, rb2, List.map_cons, List.map_nil, List.length_cons, List.length_nil, List.replicate, List.cons_append, List.nil_append, List.getElem?_cons_succ, List.getElem?_cons_zero, List.set_cons_succ, List.set_cons_zero, if_true, if_false, Bool.false_eq_true, Bool.not_true, Bool.not_false, isiF, Sto.ty, isTy, isW]
theorem law_whole_eq (t : T) (S : Sto) (h : pl t = true) : F__law_whole [t] S = some (.ok (.bl (isW t)), S) := by
  unfold F__law_whole B__law_whole
  cases t <;> first
    | (simp [pl] at h; done)
    | simp [fn_app, ex_nil, ex_skip, ex_seq, ex_expr, ex_asg, ex_par, ex_setI, ex_aug, ex_ret, ex_retN, ex_ite, bndS_ok, bndS_ite, tstS_ok, tstS_ite, thn_nx, thn_rt, thn_er, thn_none, thn_ite, fnK_rt, fnK_nx, fnK_er, fnK_ite, asgK_some, asgTg_name, asgTg_tup, asgTup_cons, asgTup_nil, putK_some, augK_int, augV_int, parK_l, ev_var, ev_gc, ev_int, ev_str, ev_bl, ev_non, ev_bin, ev_neg, ev_not, ev_cmp, ev_chain, ev_inr, ev_and, ev_or, ev_one, ev_ite, ev_nil, ev_cons, ev_tup, ev_lst, ev_dnew, ev_idx, ev_sl, ev_rev, ev_call, ev_bi, ev_isi, ev_meth, bnd_ok, bnd_none, bnd_ite, tstE_ok, tstE_ite, mrg_bl, mrg_int, notK_bl, negK_int, outB_some, outV_some, outK_val, outK_fr, outK_new, outK_ite, chainK_some, lstK_l, partK_int, nop_t, nonop_int, nonop_var, nonop_bin, nonop_neg, inrK_int, mtK_some, callK_t, varK_s, slK_nn, slK_ni, slK_in, slK_ii, b_add, b_sub, b_mul, b_fdiv, b_mod, b_pow, c_eq, c_ne, c_lt, c_le, c_gt, c_ge, bi_len, bi_abs, bi_max2, bi_min2, bi_max1, bi_min1, bi_sum, bi_all, bi_tuple, bi_list, bi_sorted, bi_int, bi_intb, bi_str, len_tup, len_lst, len_scr, rb1, rb2, List.map_cons, List.map_nil, List.length_cons, List.length_nil, List.replicate, List.cons_append, List.nil_append, List.getElem?_cons_succ, List.getElem?_cons_zero, List.set_cons_succ, List.set_cons_zero, if_true, if_false, Bool.false_eq_true, Bool.not_true, Bool.not_false, isiF, Sto.ty, isTy, isW]
theorem pls_cons {t : T} {r : List T} (h : pls (t :: r) = true) : pl t = true ∧ pls r = true := by simpa [pls] using h
def arrowB (m : Int) : T → Bool
  | .tup [.int a, .int b, .int c] => decide (0 ≤ a ∧ a < m) && (decide (0 ≤ b ∧ b < m) && decide (-(10 ^ 30) ≤ c ∧ c ≤ 10 ^ 30))
  | _ => false
theorem arrow_good_eq (m : Int) (t : T) (S : Sto) (h : pl t = true) : F_arrow_good [.int m, t] S = some (.ok (.bl (arrowB m t)), S) := by
  unfold F_arrow_good B_arrow_good
  cases t with
  | tup xs =>
    match xs, h with
    | [], h => simp [fn_app, ex_nil, ex_skip, ex_seq, ex_expr, ex_asg, ex_par, ex_setI, ex_aug, ex_ret, ex_retN, ex_ite, bndS_ok, bndS_ite, tstS_ok, tstS_ite, thn_nx, thn_rt, thn_er, thn_none, thn_ite, fnK_rt, fnK_nx, fnK_er, fnK_ite, asgK_some, asgTg_name, asgTg_tup, asgTup_cons, asgTup_nil, putK_some, augK_int, augV_int, parK_l, ev_var, ev_gc, ev_int, ev_str, ev_bl, ev_non, ev_bin, ev_neg, ev_not, ev_cmp, ev_chain, ev_inr, ev_and, ev_or, ev_one, ev_ite, ev_nil, ev_cons, ev_tup, ev_lst, ev_dnew, ev_idx, ev_sl, ev_rev, ev_call, ev_bi, ev_isi, ev_meth, bnd_ok, bnd_none, bnd_ite, tstE_ok, tstE_ite, mrg_bl, mrg_int, notK_bl, negK_int, outB_some, outV_some, outK_val, outK_fr, outK_new, outK_ite, chainK_some, lstK_l, partK_int, nop_t, nonop_int, nonop_var, nonop_bin, nonop_neg, inrK_int, mtK_some, callK_t, varK_s, slK_nn, slK_ni, slK_in, slK_ii, b_add, b_sub, b_mul, b_fdiv, b_mod, b_pow, c_eq, c_ne, c_lt, c_le, c_gt, c_ge, bi_len, bi_abs, bi_max2, bi_min2, bi_max1, bi_min1, bi_sum, bi_all, bi_tuple, bi_list, bi_sorted, bi_int, bi_intb, bi_str, len_tup, len_lst, len_scr, rb1, rb2, List.map_cons, List.map_nil, List.length_cons, List.length_nil, List.replicate, List.cons_append, List.nil_append, List.getElem?_cons_succ, List.getElem?_cons_zero, List.set_cons_succ, List.set_cons_zero, if_true, if_false, Bool.false_eq_true, Bool.not_true, Bool.not_false, isiF, Sto.ty, isTy, lenF, Sto.seq, arrowB]
    | [a], h => simp [fn_app, ex_nil, ex_skip, ex_seq, ex_expr, ex_asg, ex_par, ex_setI, ex_aug, ex_ret, ex_retN, ex_ite, bndS_ok, bndS_ite, tstS_ok, tstS_ite, thn_nx, thn_rt, thn_er, thn_none, thn_ite, fnK_rt, fnK_nx, fnK_er, fnK_ite, asgK_some, asgTg_name, asgTg_tup, asgTup_cons, asgTup_nil, putK_some, augK_int, augV_int, parK_l, ev_var, ev_gc, ev_int, ev_str, ev_bl, ev_non, ev_bin, ev_neg, ev_not, ev_cmp, ev_chain, ev_inr, ev_and, ev_or, ev_one, ev_ite, ev_nil, ev_cons, ev_tup, ev_lst, ev_dnew, ev_idx, ev_sl, ev_rev, ev_call, ev_bi, ev_isi, ev_meth, bnd_ok, bnd_none, bnd_ite, tstE_ok, tstE_ite, mrg_bl, mrg_int, notK_bl, negK_int, outB_some, outV_some, outK_val, outK_fr, outK_new, outK_ite, chainK_some, lstK_l, partK_int, nop_t, nonop_int, nonop_var, nonop_bin, nonop_neg, inrK_int, mtK_some, callK_t, varK_s, slK_nn, slK_ni, slK_in, slK_ii, b_add, b_sub, b_mul, b_fdiv, b_mod, b_pow, c_eq, c_ne, c_lt, c_le, c_gt, c_ge, bi_len, bi_abs, bi_max2, bi_min2, bi_max1, bi_min1, bi_sum, bi_all, bi_tuple, bi_list, bi_sorted, bi_int, bi_intb, bi_str, len_tup, len_lst, len_scr, rb1, rb2, List.map_cons, List.map_nil, List.length_cons, List.length_nil, List.replicate, List.cons_append, List.nil_append, List.getElem?_cons_succ, List.getElem?_cons_zero, List.set_cons_succ, List.set_cons_zero, if_true, if_false, Bool.false_eq_true, Bool.not_true, Bool.not_false, isiF, Sto.ty, isTy, lenF, Sto.seq, arrowB]
    | [a, b], h => simp [fn_app, ex_nil, ex_skip, ex_seq, ex_expr, ex_asg, ex_par, ex_setI, ex_aug, ex_ret, ex_retN, ex_ite, bndS_ok, bndS_ite, tstS_ok, tstS_ite, thn_nx, thn_rt, thn_er, thn_none, thn_ite, fnK_rt, fnK_nx, fnK_er, fnK_ite, asgK_some, asgTg_name, asgTg_tup, asgTup_cons, asgTup_nil, putK_some, augK_int, augV_int, parK_l, ev_var, ev_gc, ev_int, ev_str, ev_bl, ev_non, ev_bin, ev_neg, ev_not, ev_cmp, ev_chain, ev_inr, ev_and, ev_or, ev_one, ev_ite, ev_nil, ev_cons, ev_tup, ev_lst, ev_dnew, ev_idx, ev_sl, ev_rev, ev_call, ev_bi, ev_isi, ev_meth, bnd_ok, bnd_none, bnd_ite, tstE_ok, tstE_ite, mrg_bl, mrg_int, notK_bl, negK_int, outB_some, outV_some, outK_val, outK_fr, outK_new, outK_ite, chainK_some, lstK_l, partK_int, nop_t, nonop_int, nonop_var, nonop_bin, nonop_neg, inrK_int, mtK_some, callK_t, varK_s, slK_nn, slK_ni, slK_in, slK_ii, b_add, b_sub, b_mul, b_fdiv, b_mod, b_pow, c_eq, c_ne, c_lt, c_le, c_gt, c_ge, bi_len, bi_abs, bi_max2, bi_min2, bi_max1, bi_min1, bi_sum, bi_all, bi_tuple, bi_list, bi_sorted, bi_int, bi_intb, bi_str, len_tup, len_lst, len_scr, rb1, rb2, List.map_cons, List.map_nil, List.length_cons, List.length_nil, List.replicate, List.cons_append, List.nil_append, List.getElem?_cons_succ, List.getElem?_cons_zero, List.set_cons_succ, List.set_cons_zero, if_true, if_false, Bool.false_eq_true, Bool.not_true, Bool.not_false, isiF, Sto.ty, isTy, lenF, Sto.seq, arrowB]
    | [a, b, c], h =>
      simp only [pl, pls, Bool.and_true, Bool.and_eq_true] at h
      obtain ⟨ha, hb, hc⟩ := h
      have ea := is_whole_eq a S ha
      have eb := is_whole_eq b S hb
      have ec := is_whole_eq c S hc
      have key : ∀ x y z : T, isW x = false ∨ isW y = false ∨ isW z = false → arrowB m (.tup [x, y, z]) = false := by
        intro x y z h
        unfold arrowB
        split
        · rename_i e
          cases e
          simp [isW] at h
        · rfl
      have cm := compL_map (i := 2) (c := ev .nop) (elt := ev (.call true "is_whole" F_is_whole (.cons (.var 2) .nil))) (d := .tup [.int 0, .tup [a, b, c]]) (items := [a, b, c]) (l0 := [some (.int m), some (.tup [a, b, c]), none]) (S := S) (rest := [a, b, c]) (fun t => .bl (isW t)) rfl (by
        intro t ht
        have hp : pl t = true := by simp at ht; rcases ht with rfl | rfl | rfl <;> assumption
        simp [fn_app, ex_nil, ex_skip, ex_seq, ex_expr, ex_asg, ex_par, ex_setI, ex_aug, ex_ret, ex_retN, ex_ite, bndS_ok, bndS_ite, tstS_ok, tstS_ite, thn_nx, thn_rt, thn_er, thn_none, thn_ite, fnK_rt, fnK_nx, fnK_er, fnK_ite, asgK_some, asgTg_name, asgTg_tup, asgTup_cons, asgTup_nil, putK_some, augK_int, augV_int, parK_l, ev_var, ev_gc, ev_int, ev_str, ev_bl, ev_non, ev_bin, ev_neg, ev_not, ev_cmp, ev_chain, ev_inr, ev_and, ev_or, ev_one, ev_ite, ev_nil, ev_cons, ev_tup, ev_lst, ev_dnew, ev_idx, ev_sl, ev_rev, ev_call, ev_bi, ev_isi, ev_meth, bnd_ok, bnd_none, bnd_ite, tstE_ok, tstE_ite, mrg_bl, mrg_int, notK_bl, negK_int, outB_some, outV_some, outK_val, outK_fr, outK_new, outK_ite, chainK_some, lstK_l, partK_int, nop_t, nonop_int, nonop_var, nonop_bin, nonop_neg, inrK_int, mtK_some, callK_t, varK_s, slK_nn, slK_ni, slK_in, slK_ii, b_add, b_sub, b_mul, b_fdiv, b_mod, b_pow, c_eq, c_ne, c_lt, c_le, c_gt, c_ge, bi_len, bi_abs, bi_max2, bi_min2, bi_max1, bi_min1, bi_sum, bi_all, bi_tuple, bi_list, bi_sorted, bi_int, bi_intb, bi_str, len_tup, len_lst, len_scr, rb1, rb2, List.map_cons, List.map_nil, List.length_cons, List.length_nil, List.replicate, List.cons_append, List.nil_append, List.getElem?_cons_succ, List.getElem?_cons_zero, List.set_cons_succ, List.set_cons_zero, if_true, if_false, Bool.false_eq_true, Bool.not_true, Bool.not_false, is_whole_eq t S hp])
      have hcomp : ev (.comp false [("one", 2)] (.name 2) (.seq (.var 1)) .nop (.call true "is_whole" F_is_whole (.cons (.var 2) .nil))) [some (.int m), some (.tup [a, b, c]), none] S = some (.ok (.lst [.bl (isW a), .bl (isW b), .bl (isW c)]), S) := by
        simp [ev_comp, ev_seq, compK, srcItems, wipeL, Sto.seq, LIM, ev_var, varK, bnd_ok, E.isNop]
        simp at cm
        rw [cm]
        rfl
      by_cases hw : isW a = true ∧ isW b = true ∧ isW c = true
      · obtain ⟨h1, h2, h3⟩ := hw
        cases a <;> first | (simp [isW] at h1; done) | skip
        cases b <;> first | (simp [isW] at h2; done) | skip
        cases c <;> first | (simp [isW] at h3; done) | skip
        rename_i a b c
        simp [fn_app, ex_nil, ex_skip, ex_seq, ex_expr, ex_asg, ex_par, ex_setI, ex_aug, ex_ret, ex_retN, ex_ite, bndS_ok, bndS_ite, tstS_ok, tstS_ite, thn_nx, thn_rt, thn_er, thn_none, thn_ite, fnK_rt, fnK_nx, fnK_er, fnK_ite, asgK_some, asgTg_name, asgTg_tup, asgTup_cons, asgTup_nil, putK_some, augK_int, augV_int, parK_l, ev_var, ev_gc, ev_int, ev_str, ev_bl, ev_non, ev_bin, ev_neg, ev_not, ev_cmp, ev_chain, ev_inr, ev_and, ev_or, ev_one, ev_ite, ev_nil, ev_cons, ev_tup, ev_lst, ev_dnew, ev_idx, ev_sl, ev_rev, ev_call, ev_bi, ev_isi, ev_meth, bnd_ok, bnd_none, bnd_ite, tstE_ok, tstE_ite, mrg_bl, mrg_int, notK_bl, negK_int, outB_some, outV_some, outK_val, outK_fr, outK_new, outK_ite, chainK_some, lstK_l, partK_int, nop_t, nonop_int, nonop_var, nonop_bin, nonop_neg, inrK_int, mtK_some, callK_t, varK_s, slK_nn, slK_ni, slK_in, slK_ii, b_add, b_sub, b_mul, b_fdiv, b_mod, b_pow, c_eq, c_ne, c_lt, c_le, c_gt, c_ge, bi_len, bi_abs, bi_max2, bi_min2, bi_max1, bi_min1, bi_sum, bi_all, bi_tuple, bi_list, bi_sorted, bi_int, bi_intb, bi_str, len_tup, len_lst, len_scr, rb1, rb2, List.map_cons, List.map_nil, List.length_cons, List.length_nil, List.replicate, List.cons_append, List.nil_append, List.getElem?_cons_succ, List.getElem?_cons_zero, List.set_cons_succ, List.set_cons_zero, if_true, if_false, Bool.false_eq_true, Bool.not_true, Bool.not_false, isiF, Sto.ty, isTy, lenF, Sto.seq, hcomp, isW, allF, Sto.lseq, T.bools, LIM, idxF, L2.atI, L2.ixN, absF, arrowB]
        have e : decide ((if c < 0 then -c else c) ≤ 1000000000000000000000000000000) = (decide (-1000000000000000000000000000000 ≤ c) && decide (c ≤ 1000000000000000000000000000000)) := by
          rw [Bool.eq_iff_iff]
          simp only [Bool.and_eq_true, decide_eq_true_eq]
          split <;> omega
        rw [e]
      · rw [key a b c (by cases h1 : isW a <;> cases h2 : isW b <;> cases h3 : isW c <;> simp_all)]
        have hn : (isW a && (isW b && isW c)) = false := by cases h1 : isW a <;> cases h2 : isW b <;> cases h3 : isW c <;> simp_all
        simp [fn_app, ex_nil, ex_skip, ex_seq, ex_expr, ex_asg, ex_par, ex_setI, ex_aug, ex_ret, ex_retN, ex_ite, bndS_ok, bndS_ite, tstS_ok, tstS_ite, thn_nx, thn_rt, thn_er, thn_none, thn_ite, fnK_rt, fnK_nx, fnK_er, fnK_ite, asgK_some, asgTg_name, asgTg_tup, asgTup_cons, asgTup_nil, putK_some, augK_int, augV_int, parK_l, ev_var, ev_gc, ev_int, ev_str, ev_bl, ev_non, ev_bin, ev_neg, ev_not, ev_cmp, ev_chain, ev_inr, ev_and, ev_or, ev_one, ev_ite, ev_nil, ev_cons, ev_tup, ev_lst, ev_dnew, ev_idx, ev_sl, ev_rev, ev_call, ev_bi, ev_isi, ev_meth, bnd_ok, bnd_none, bnd_ite, tstE_ok, tstE_ite, mrg_bl, mrg_int, notK_bl, negK_int, outB_some, outV_some, outK_val, outK_fr, outK_new, outK_ite, chainK_some, lstK_l, partK_int, nop_t, nonop_int, nonop_var, nonop_bin, nonop_neg, inrK_int, mtK_some, callK_t, varK_s, slK_nn, slK_ni, slK_in, slK_ii, b_add, b_sub, b_mul, b_fdiv, b_mod, b_pow, c_eq, c_ne, c_lt, c_le, c_gt, c_ge, bi_len, bi_abs, bi_max2, bi_min2, bi_max1, bi_min1, bi_sum, bi_all, bi_tuple, bi_list, bi_sorted, bi_int, bi_intb, bi_str, len_tup, len_lst, len_scr, rb1, rb2, List.map_cons, List.map_nil, List.length_cons, List.length_nil, List.replicate, List.cons_append, List.nil_append, List.getElem?_cons_succ, List.getElem?_cons_zero, List.set_cons_succ, List.set_cons_zero, if_true, if_false, Bool.false_eq_true, Bool.not_true, Bool.not_false, isiF, Sto.ty, isTy, lenF, Sto.seq, hcomp, allF, Sto.lseq, T.bools, LIM, hn]
    | a :: b :: c :: d :: r, h =>
      have e : ¬ ((r.length : Int) + 1 + 1 + 1 + 1 = 3) := by omega
      simp [fn_app, ex_nil, ex_skip, ex_seq, ex_expr, ex_asg, ex_par, ex_setI, ex_aug, ex_ret, ex_retN, ex_ite, bndS_ok, bndS_ite, tstS_ok, tstS_ite, thn_nx, thn_rt, thn_er, thn_none, thn_ite, fnK_rt, fnK_nx, fnK_er, fnK_ite, asgK_some, asgTg_name, asgTg_tup, asgTup_cons, asgTup_nil, putK_some, augK_int, augV_int, parK_l, ev_var, ev_gc, ev_int, ev_str, ev_bl, ev_non, ev_bin, ev_neg, ev_not, ev_cmp, ev_chain, ev_inr, ev_and, ev_or, ev_one, ev_ite, ev_nil, ev_cons, ev_tup, ev_lst, ev_dnew, ev_idx, ev_sl, ev_rev, ev_call, ev_bi, ev_isi, ev_meth, bnd_ok, bnd_none, bnd_ite, tstE_ok, tstE_ite, mrg_bl, mrg_int, notK_bl, negK_int, outB_some, outV_some, outK_val, outK_fr, outK_new, outK_ite, chainK_some, lstK_l, partK_int, nop_t, nonop_int, nonop_var, nonop_bin, nonop_neg, inrK_int, mtK_some, callK_t, varK_s, slK_nn, slK_ni, slK_in, slK_ii, b_add, b_sub, b_mul, b_fdiv, b_mod, b_pow, c_eq, c_ne, c_lt, c_le, c_gt, c_ge, bi_len, bi_abs, bi_max2, bi_min2, bi_max1, bi_min1, bi_sum, bi_all, bi_tuple, bi_list, bi_sorted, bi_int, bi_intb, bi_str, len_tup, len_lst, len_scr, rb1, rb2, List.map_cons, List.map_nil, List.length_cons, List.length_nil, List.replicate, List.cons_append, List.nil_append, List.getElem?_cons_succ, List.getElem?_cons_zero, List.set_cons_succ, List.set_cons_zero, if_true, if_false, Bool.false_eq_true, Bool.not_true, Bool.not_false, isiF, Sto.ty, isTy, lenF, Sto.seq, arrowB, e]
  | ref _ => simp [pl] at h
  | scr _ => simp [pl] at h
  | _ => simp [fn_app, ex_nil, ex_skip, ex_seq, ex_expr, ex_asg, ex_par, ex_setI, ex_aug, ex_ret, ex_retN, ex_ite, bndS_ok, bndS_ite, tstS_ok, tstS_ite, thn_nx, thn_rt, thn_er, thn_none, thn_ite, fnK_rt, fnK_nx, fnK_er, fnK_ite, asgK_some, asgTg_name, asgTg_tup, asgTup_cons, asgTup_nil, putK_some, augK_int, augV_int, parK_l, ev_var, ev_gc, ev_int, ev_str, ev_bl, ev_non, ev_bin, ev_neg, ev_not, ev_cmp, ev_chain, ev_inr, ev_and, ev_or, ev_one, ev_ite, ev_nil, ev_cons, ev_tup, ev_lst, ev_dnew, ev_idx, ev_sl, ev_rev, ev_call, ev_bi, ev_isi, ev_meth, bnd_ok, bnd_none, bnd_ite, tstE_ok, tstE_ite, mrg_bl, mrg_int, notK_bl, negK_int, outB_some, outV_some, outK_val, outK_fr, outK_new, outK_ite, chainK_some, lstK_l, partK_int, nop_t, nonop_int, nonop_var, nonop_bin, nonop_neg, inrK_int, mtK_some, callK_t, varK_s, slK_nn, slK_ni, slK_in, slK_ii, b_add, b_sub, b_mul, b_fdiv, b_mod, b_pow, c_eq, c_ne, c_lt, c_le, c_gt, c_ge, bi_len, bi_abs, bi_max2, bi_min2, bi_max1, bi_min1, bi_sum, bi_all, bi_tuple, bi_list, bi_sorted, bi_int, bi_intb, bi_str, len_tup, len_lst, len_scr, rb1, rb2, List.map_cons, List.map_nil, List.length_cons, List.length_nil, List.replicate, List.cons_append, List.nil_append, List.getElem?_cons_succ, List.getElem?_cons_zero, List.set_cons_succ, List.set_cons_zero, if_true, if_false, Bool.false_eq_true, Bool.not_true, Bool.not_false, isiF, Sto.ty, isTy, arrowB]
theorem law_arrow_good_eq (m : Int) (hm : 0 ≤ m ∧ m < 2 ^ 62) (t : T) (S : Sto) (h : pl t = true) : F__law_arrow_good [.int m, t] S = some (.ok (.bl (arrowB m t)), S) := by
  have hr : -4611686018427387904 ≤ m ∧ m < 4611686018427387904 := by omega
  unfold F__law_arrow_good B__law_arrow_good
  cases t with
  | tup xs =>
    match xs, h with
    | [], h => simp [fn_app, ex_nil, ex_skip, ex_seq, ex_expr, ex_asg, ex_par, ex_setI, ex_aug, ex_ret, ex_retN, ex_ite, bndS_ok, bndS_ite, tstS_ok, tstS_ite, thn_nx, thn_rt, thn_er, thn_none, thn_ite, fnK_rt, fnK_nx, fnK_er, fnK_ite, asgK_some, asgTg_name, asgTg_tup, asgTup_cons, asgTup_nil, putK_some, augK_int, augV_int, parK_l, ev_var, ev_gc, ev_int, ev_str, ev_bl, ev_non, ev_bin, ev_neg, ev_not, ev_cmp, ev_chain, ev_inr, ev_and, ev_or, ev_one, ev_ite, ev_nil, ev_cons, ev_tup, ev_lst, ev_dnew, ev_idx, ev_sl, ev_rev, ev_call, ev_bi, ev_isi, ev_meth, bnd_ok, bnd_none, bnd_ite, tstE_ok, tstE_ite, mrg_bl, mrg_int, notK_bl, negK_int, outB_some, outV_some, outK_val, outK_fr, outK_new, outK_ite, chainK_some, lstK_l, partK_int, nop_t, nonop_int, nonop_var, nonop_bin, nonop_neg, inrK_int, mtK_some, callK_t, varK_s, slK_nn, slK_ni, slK_in, slK_ii, b_add, b_sub, b_mul, b_fdiv, b_mod, b_pow, c_eq, c_ne, c_lt, c_le, c_gt, c_ge, bi_len, bi_abs, bi_max2, bi_min2, bi_max1, bi_min1, bi_sum, bi_all, bi_tuple, bi_list, bi_sorted, bi_int, bi_intb, bi_str, len_tup, len_lst, len_scr, rb1, rb2, List.map_cons, List.map_nil, List.length_cons, List.length_nil, List.replicate, List.cons_append, List.nil_append, List.getElem?_cons_succ, List.getElem?_cons_zero, List.set_cons_succ, List.set_cons_zero, if_true, if_false, Bool.false_eq_true, Bool.not_true, Bool.not_false, isiF, Sto.ty, isTy, lenF, Sto.seq, arrowB]
    | [a], h => simp [fn_app, ex_nil, ex_skip, ex_seq, ex_expr, ex_asg, ex_par, ex_setI, ex_aug, ex_ret, ex_retN, ex_ite, bndS_ok, bndS_ite, tstS_ok, tstS_ite, thn_nx, thn_rt, thn_er, thn_none, thn_ite, fnK_rt, fnK_nx, fnK_er, fnK_ite, asgK_some, asgTg_name, asgTg_tup, asgTup_cons, asgTup_nil, putK_some, augK_int, augV_int, parK_l, ev_var, ev_gc, ev_int, ev_str, ev_bl, ev_non, ev_bin, ev_neg, ev_not, ev_cmp, ev_chain, ev_inr, ev_and, ev_or, ev_one, ev_ite, ev_nil, ev_cons, ev_tup, ev_lst, ev_dnew, ev_idx, ev_sl, ev_rev, ev_call, ev_bi, ev_isi, ev_meth, bnd_ok, bnd_none, bnd_ite, tstE_ok, tstE_ite, mrg_bl, mrg_int, notK_bl, negK_int, outB_some, outV_some, outK_val, outK_fr, outK_new, outK_ite, chainK_some, lstK_l, partK_int, nop_t, nonop_int, nonop_var, nonop_bin, nonop_neg, inrK_int, mtK_some, callK_t, varK_s, slK_nn, slK_ni, slK_in, slK_ii, b_add, b_sub, b_mul, b_fdiv, b_mod, b_pow, c_eq, c_ne, c_lt, c_le, c_gt, c_ge, bi_len, bi_abs, bi_max2, bi_min2, bi_max1, bi_min1, bi_sum, bi_all, bi_tuple, bi_list, bi_sorted, bi_int, bi_intb, bi_str, len_tup, len_lst, len_scr, rb1, rb2, List.map_cons, List.map_nil, List.length_cons, List.length_nil, List.replicate, List.cons_append, List.nil_append, List.getElem?_cons_succ, List.getElem?_cons_zero, List.set_cons_succ, List.set_cons_zero, if_true, if_false, Bool.false_eq_true, Bool.not_true, Bool.not_false, isiF, Sto.ty, isTy, lenF, Sto.seq, arrowB]
    | [a, b], h => simp [fn_app, ex_nil, ex_skip, ex_seq, ex_expr, ex_asg, ex_par, ex_setI, ex_aug, ex_ret, ex_retN, ex_ite, bndS_ok, bndS_ite, tstS_ok, tstS_ite, thn_nx, thn_rt, thn_er, thn_none, thn_ite, fnK_rt, fnK_nx, fnK_er, fnK_ite, asgK_some, asgTg_name, asgTg_tup, asgTup_cons, asgTup_nil, putK_some, augK_int, augV_int, parK_l, ev_var, ev_gc, ev_int, ev_str, ev_bl, ev_non, ev_bin, ev_neg, ev_not, ev_cmp, ev_chain, ev_inr, ev_and, ev_or, ev_one, ev_ite, ev_nil, ev_cons, ev_tup, ev_lst, ev_dnew, ev_idx, ev_sl, ev_rev, ev_call, ev_bi, ev_isi, ev_meth, bnd_ok, bnd_none, bnd_ite, tstE_ok, tstE_ite, mrg_bl, mrg_int, notK_bl, negK_int, outB_some, outV_some, outK_val, outK_fr, outK_new, outK_ite, chainK_some, lstK_l, partK_int, nop_t, nonop_int, nonop_var, nonop_bin, nonop_neg, inrK_int, mtK_some, callK_t, varK_s, slK_nn, slK_ni, slK_in, slK_ii, b_add, b_sub, b_mul, b_fdiv, b_mod, b_pow, c_eq, c_ne, c_lt, c_le, c_gt, c_ge, bi_len, bi_abs, bi_max2, bi_min2, bi_max1, bi_min1, bi_sum, bi_all, bi_tuple, bi_list, bi_sorted, bi_int, bi_intb, bi_str, len_tup, len_lst, len_scr, rb1, rb2, List.map_cons, List.map_nil, List.length_cons, List.length_nil, List.replicate, List.cons_append, List.nil_append, List.getElem?_cons_succ, List.getElem?_cons_zero, List.set_cons_succ, List.set_cons_zero, if_true, if_false, Bool.false_eq_true, Bool.not_true, Bool.not_false, isiF, Sto.ty, isTy, lenF, Sto.seq, arrowB]
    | [a, b, c], h =>
      simp only [pl, pls, Bool.and_true, Bool.and_eq_true] at h
      obtain ⟨ha, hb, hc⟩ := h
      have ea := law_whole_eq a S ha
      have eb := law_whole_eq b S hb
      have ec := law_whole_eq c S hc
      have key : ∀ x y z : T, isW x = false ∨ isW y = false ∨ isW z = false → arrowB m (.tup [x, y, z]) = false := by
        intro x y z h
        unfold arrowB
        split
        · rename_i e
          cases e
          simp [isW] at h
        · rfl
      have cm := compL_map (i := 2) (c := ev .nop) (elt := ev (.call true "_law_whole" F__law_whole (.cons (.var 2) .nil))) (d := .tup [.int 0, .tup [a, b, c]]) (items := [a, b, c]) (l0 := [some (.int m), some (.tup [a, b, c]), none]) (S := S) (rest := [a, b, c]) (fun t => .bl (isW t)) rfl (by
        intro t ht
        have hp : pl t = true := by simp at ht; rcases ht with rfl | rfl | rfl <;> assumption
        simp [fn_app, ex_nil, ex_skip, ex_seq, ex_expr, ex_asg, ex_par, ex_setI, ex_aug, ex_ret, ex_retN, ex_ite, bndS_ok, bndS_ite, tstS_ok, tstS_ite, thn_nx, thn_rt, thn_er, thn_none, thn_ite, fnK_rt, fnK_nx, fnK_er, fnK_ite, asgK_some, asgTg_name, asgTg_tup, asgTup_cons, asgTup_nil, putK_some, augK_int, augV_int, parK_l, ev_var, ev_gc, ev_int, ev_str, ev_bl, ev_non, ev_bin, ev_neg, ev_not, ev_cmp, ev_chain, ev_inr, ev_and, ev_or, ev_one, ev_ite, ev_nil, ev_cons, ev_tup, ev_lst, ev_dnew, ev_idx, ev_sl, ev_rev, ev_call, ev_bi, ev_isi, ev_meth, bnd_ok, bnd_none, bnd_ite, tstE_ok, tstE_ite, mrg_bl, mrg_int, notK_bl, negK_int, outB_some, outV_some, outK_val, outK_fr, outK_new, outK_ite, chainK_some, lstK_l, partK_int, nop_t, nonop_int, nonop_var, nonop_bin, nonop_neg, inrK_int, mtK_some, callK_t, varK_s, slK_nn, slK_ni, slK_in, slK_ii, b_add, b_sub, b_mul, b_fdiv, b_mod, b_pow, c_eq, c_ne, c_lt, c_le, c_gt, c_ge, bi_len, bi_abs, bi_max2, bi_min2, bi_max1, bi_min1, bi_sum, bi_all, bi_tuple, bi_list, bi_sorted, bi_int, bi_intb, bi_str, len_tup, len_lst, len_scr, rb1, rb2, List.map_cons, List.map_nil, List.length_cons, List.length_nil, List.replicate, List.cons_append, List.nil_append, List.getElem?_cons_succ, List.getElem?_cons_zero, List.set_cons_succ, List.set_cons_zero, if_true, if_false, Bool.false_eq_true, Bool.not_true, Bool.not_false, law_whole_eq t S hp])
      have hcomp : ev (.comp false [("_law_one", 2)] (.name 2) (.seq (.var 1)) .nop (.call true "_law_whole" F__law_whole (.cons (.var 2) .nil))) [some (.int m), some (.tup [a, b, c]), none] S = some (.ok (.lst [.bl (isW a), .bl (isW b), .bl (isW c)]), S) := by
        simp [ev_comp, ev_seq, compK, srcItems, wipeL, Sto.seq, LIM, ev_var, varK, bnd_ok, E.isNop]
        simp at cm
        rw [cm]
        rfl
      by_cases hw : isW a = true ∧ isW b = true ∧ isW c = true
      · obtain ⟨h1, h2, h3⟩ := hw
        cases a <;> first | (simp [isW] at h1; done) | skip
        cases b <;> first | (simp [isW] at h2; done) | skip
        cases c <;> first | (simp [isW] at h3; done) | skip
        rename_i a b c
        simp [fn_app, ex_nil, ex_skip, ex_seq, ex_expr, ex_asg, ex_par, ex_setI, ex_aug, ex_ret, ex_retN, ex_ite, bndS_ok, bndS_ite, tstS_ok, tstS_ite, thn_nx, thn_rt, thn_er, thn_none, thn_ite, fnK_rt, fnK_nx, fnK_er, fnK_ite, asgK_some, asgTg_name, asgTg_tup, asgTup_cons, asgTup_nil, putK_some, augK_int, augV_int, parK_l, ev_var, ev_gc, ev_int, ev_str, ev_bl, ev_non, ev_bin, ev_neg, ev_not, ev_cmp, ev_chain, ev_inr, ev_and, ev_or, ev_one, ev_ite, ev_nil, ev_cons, ev_tup, ev_lst, ev_dnew, ev_idx, ev_sl, ev_rev, ev_call, ev_bi, ev_isi, ev_meth, bnd_ok, bnd_none, bnd_ite, tstE_ok, tstE_ite, mrg_bl, mrg_int, notK_bl, negK_int, outB_some, outV_some, outK_val, outK_fr, outK_new, outK_ite, chainK_some, lstK_l, partK_int, nop_t, nonop_int, nonop_var, nonop_bin, nonop_neg, inrK_int, mtK_some, callK_t, varK_s, slK_nn, slK_ni, slK_in, slK_ii, b_add, b_sub, b_mul, b_fdiv, b_mod, b_pow, c_eq, c_ne, c_lt, c_le, c_gt, c_ge, bi_len, bi_abs, bi_max2, bi_min2, bi_max1, bi_min1, bi_sum, bi_all, bi_tuple, bi_list, bi_sorted, bi_int, bi_intb, bi_str, len_tup, len_lst, len_scr, rb1, rb2, List.map_cons, List.map_nil, List.length_cons, List.length_nil, List.replicate, List.cons_append, List.nil_append, List.getElem?_cons_succ, List.getElem?_cons_zero, List.set_cons_succ, List.set_cons_zero, if_true, if_false, Bool.false_eq_true, Bool.not_true, Bool.not_false, isiF, Sto.ty, isTy, lenF, Sto.seq, hcomp, isW, allF, Sto.lseq, T.bools, LIM, idxF, L2.atI, L2.ixN, absF, arrowB, hr]
      · rw [key a b c (by cases h1 : isW a <;> cases h2 : isW b <;> cases h3 : isW c <;> simp_all)]
        have hn : (isW a && (isW b && isW c)) = false := by cases h1 : isW a <;> cases h2 : isW b <;> cases h3 : isW c <;> simp_all
        simp [fn_app, ex_nil, ex_skip, ex_seq, ex_expr, ex_asg, ex_par, ex_setI, ex_aug, ex_ret, ex_retN, ex_ite, bndS_ok, bndS_ite, tstS_ok, tstS_ite, thn_nx, thn_rt, thn_er, thn_none, thn_ite, fnK_rt, fnK_nx, fnK_er, fnK_ite, asgK_some, asgTg_name, asgTg_tup, asgTup_cons, asgTup_nil, putK_some, augK_int, augV_int, parK_l, ev_var, ev_gc, ev_int, ev_str, ev_bl, ev_non, ev_bin, ev_neg, ev_not, ev_cmp, ev_chain, ev_inr, ev_and, ev_or, ev_one, ev_ite, ev_nil, ev_cons, ev_tup, ev_lst, ev_dnew, ev_idx, ev_sl, ev_rev, ev_call, ev_bi, ev_isi, ev_meth, bnd_ok, bnd_none, bnd_ite, tstE_ok, tstE_ite, mrg_bl, mrg_int, notK_bl, negK_int, outB_some, outV_some, outK_val, outK_fr, outK_new, outK_ite, chainK_some, lstK_l, partK_int, nop_t, nonop_int, nonop_var, nonop_bin, nonop_neg, inrK_int, mtK_some, callK_t, varK_s, slK_nn, slK_ni, slK_in, slK_ii, b_add, b_sub, b_mul, b_fdiv, b_mod, b_pow, c_eq, c_ne, c_lt, c_le, c_gt, c_ge, bi_len, bi_abs, bi_max2, bi_min2, bi_max1, bi_min1, bi_sum, bi_all, bi_tuple, bi_list, bi_sorted, bi_int, bi_intb, bi_str, len_tup, len_lst, len_scr, rb1, rb2, List.map_cons, List.map_nil, List.length_cons, List.length_nil, List.replicate, List.cons_append, List.nil_append, List.getElem?_cons_succ, List.getElem?_cons_zero, List.set_cons_succ, List.set_cons_zero, if_true, if_false, Bool.false_eq_true, Bool.not_true, Bool.not_false, isiF, Sto.ty, isTy, lenF, Sto.seq, hcomp, allF, Sto.lseq, T.bools, LIM, hn]
    | a :: b :: c :: d :: r, h =>
      have e : ¬ ((r.length : Int) + 1 + 1 + 1 + 1 = 3) := by omega
      simp [fn_app, ex_nil, ex_skip, ex_seq, ex_expr, ex_asg, ex_par, ex_setI, ex_aug, ex_ret, ex_retN, ex_ite, bndS_ok, bndS_ite, tstS_ok, tstS_ite, thn_nx, thn_rt, thn_er, thn_none, thn_ite, fnK_rt, fnK_nx, fnK_er, fnK_ite, asgK_some, asgTg_name, asgTg_tup, asgTup_cons, asgTup_nil, putK_some, augK_int, augV_int, parK_l, ev_var, ev_gc, ev_int, ev_str, ev_bl, ev_non, ev_bin, ev_neg, ev_not, ev_cmp, ev_chain, ev_inr, ev_and, ev_or, ev_one, ev_ite, ev_nil, ev_cons, ev_tup, ev_lst, ev_dnew, ev_idx, ev_sl, ev_rev, ev_call, ev_bi, ev_isi, ev_meth, bnd_ok, bnd_none, bnd_ite, tstE_ok, tstE_ite, mrg_bl, mrg_int, notK_bl, negK_int, outB_some, outV_some, outK_val, outK_fr, outK_new, outK_ite, chainK_some, lstK_l, partK_int, nop_t, nonop_int, nonop_var, nonop_bin, nonop_neg, inrK_int, mtK_some, callK_t, varK_s, slK_nn, slK_ni, slK_in, slK_ii, b_add, b_sub, b_mul, b_fdiv, b_mod, b_pow, c_eq, c_ne, c_lt, c_le, c_gt, c_ge, bi_len, bi_abs, bi_max2, bi_min2, bi_max1, bi_min1, bi_sum, bi_all, bi_tuple, bi_list, bi_sorted, bi_int, bi_intb, bi_str, len_tup, len_lst, len_scr, rb1, rb2, List.map_cons, List.map_nil, List.length_cons, List.length_nil, List.replicate, List.cons_append, List.nil_append, List.getElem?_cons_succ, List.getElem?_cons_zero, List.set_cons_succ, List.set_cons_zero, if_true, if_false, Bool.false_eq_true, Bool.not_true, Bool.not_false, isiF, Sto.ty, isTy, lenF, Sto.seq, arrowB, e]
  | ref _ => simp [pl] at h
  | scr _ => simp [pl] at h
  | _ => simp [fn_app, ex_nil, ex_skip, ex_seq, ex_expr, ex_asg, ex_par, ex_setI, ex_aug, ex_ret, ex_retN, ex_ite, bndS_ok, bndS_ite, tstS_ok, tstS_ite, thn_nx, thn_rt, thn_er, thn_none, thn_ite, fnK_rt, fnK_nx, fnK_er, fnK_ite, asgK_some, asgTg_name, asgTg_tup, asgTup_cons, asgTup_nil, putK_some, augK_int, augV_int, parK_l, ev_var, ev_gc, ev_int, ev_str, ev_bl, ev_non, ev_bin, ev_neg, ev_not, ev_cmp, ev_chain, ev_inr, ev_and, ev_or, ev_one, ev_ite, ev_nil, ev_cons, ev_tup, ev_lst, ev_dnew, ev_idx, ev_sl, ev_rev, ev_call, ev_bi, ev_isi, ev_meth, bnd_ok, bnd_none, bnd_ite, tstE_ok, tstE_ite, mrg_bl, mrg_int, notK_bl, negK_int, outB_some, outV_some, outK_val, outK_fr, outK_new, outK_ite, chainK_some, lstK_l, partK_int, nop_t, nonop_int, nonop_var, nonop_bin, nonop_neg, inrK_int, mtK_some, callK_t, varK_s, slK_nn, slK_ni, slK_in, slK_ii, b_add, b_sub, b_mul, b_fdiv, b_mod, b_pow, c_eq, c_ne, c_lt, c_le, c_gt, c_ge, bi_len, bi_abs, bi_max2, bi_min2, bi_max1, bi_min1, bi_sum, bi_all, bi_tuple, bi_list, bi_sorted, bi_int, bi_intb, bi_str, len_tup, len_lst, len_scr, rb1, rb2, List.map_cons, List.map_nil, List.length_cons, List.length_nil, List.replicate, List.cons_append, List.nil_append, List.getElem?_cons_succ, List.getElem?_cons_zero, List.set_cons_succ, List.set_cons_zero, if_true, if_false, Bool.false_eq_true, Bool.not_true, Bool.not_false, isiF, Sto.ty, isTy, arrowB]

def ltB : T → T → Bool
  | .tup [.int a, .int b, _], .tup [.int c, .int d, _] => decide (a < c ∨ (a = c ∧ b < d))
  | _, _ => false
def webC (n : Int) : Option T → List T → Bool
  | _, [] => true
  | none, t :: r => arrowB n t && webC n (some t) r
  | some p, t :: r => arrowB n t && (ltB p t && webC n (some t) r)
def webB : T → Bool
  | .tup [.int n, .tup arrows] => decide (1 ≤ n ∧ n ≤ 8) && (decide (arrows.length ≤ 24) && webC n none arrows)
  | _ => false
theorem arrowB_form {n : Int} {t : T} (h : arrowB n t = true) : ∃ a b c, t = .tup [.int a, .int b, .int c] := by
  unfold arrowB at h
  split at h
  · exact ⟨_, _, _, rfl⟩
  · cases h
theorem lexGe2 (a b c d : Int) : lexGe [a, b] [c, d] = !decide (a < c ∨ (a = c ∧ b < d)) := by
  unfold lexGe
  simp only [List.length_cons, List.length_nil, Ob.lexAt]
  by_cases h1 : a = c
  · subst h1
    by_cases h2 : b = d
    · subst h2; simp [Ob.lexAt]
    · rw [Bool.eq_iff_iff]; simp [Ob.lexAt, h2]
  · rw [Bool.eq_iff_iff]; simp [Ob.lexAt, h1]
theorem lexLt2 (a b c d : Int) : HT.lexLt [a, b] [c, d] = decide (a < c ∨ (a = c ∧ b < d)) := by
  simp only [HT.lexLt]
  by_cases h1 : a = c
  · subst h1
    by_cases h2 : b = d
    · subst h2; simp
    · simp [h2]
  · simp [h1]

theorem sl2 (a b c : Int) (S : Sto) : slF (.tup [.int a, .int b, .int c]) none (some 2) S = some (.val (.tup [.int a, .int b])) := by
  have e1 : HT.sIx 3 0 none = 0 := HT.sIx_none ..
  have e2 : HT.sIx 3 3 (some 2) = 2 := by have := HT.sIx_nat 3 3 2; simpa using this
  simp [slF, cutT, e1, e2]
theorem webL (n : Int) (S : Sto) (th : T) (arrows : List T) (hpl : pls arrows = true) : ∀ (pre rest : List T) (x3 x4 : Option T), arrows = pre ++ rest → (∀ p ∈ pre, arrowB n p = true) →
    ∃ l', loopL (.tup [3, 4]) (ex (.seq (.ite (.or (.not (.call true "arrow_good" F_arrow_good (.cons (.var 1) (.cons (.var 4) .nil)))) (.one (.and (.cmp .Gt (.var 3) (.int 0)) (.one (.cmp .GtE (.sl false (.idx (.var 2) (.bin false .Sub (.var 3) (.int 1))) .nop (.int 2)) (.sl false (.var 4) .nop (.int 2))))))) (.seq (.ret (.bl false)) .nil) .nil) .nil)) (.tup [.bl false, .tup arrows]) (enumT 0 arrows) (enumT pre.length rest) [some th, some (.int n), some (.tup arrows), x3, x4] S
      = cond (webC n pre.getLast? rest) (some (.nx l', S)) (some (.rt (.bl false), S)) := by
  intro pre rest
  induction rest generalizing pre with
  | nil =>
    intro x3 x4 e hp
    exact ⟨[some th, some (.int n), some (.tup arrows), x3, x4], by simp [enumT, loop_nil, okSrc, srcRef, isRefT, webC]⟩
  | cons t r ih =>
    intro x3 x4 e hp
    have ht : pl t = true := by
      have : ∀ (xs ys : List T), pls (xs ++ t :: ys) = true → pl t = true := by
        intro xs
        induction xs with
        | nil => intro ys h; exact (pls_cons h).1
        | cons x xs ih => intro ys h; exact ih ys (pls_cons h).2
      exact this pre r (by rw [← e]; exact hpl)
    have ea := arrow_good_eq n t S ht
    simp only [enumT, loop_cons, okSrc, srcRef, isRefT, asgTg, asgTup]
    by_cases hb : arrowB n t = true
    · obtain ⟨c, d, w, rfl⟩ := arrowB_form hb
      obtain ⟨l', ih⟩ := ih (pre ++ [.tup [.int c, .int d, .int w]]) (some (.int pre.length)) (some (.tup [.int c, .int d, .int w])) (by simp [e]) (by
        intro p hp'
        rcases List.mem_append.mp hp' with h | h
        · exact hp p h
        · simp at h; subst h; exact hb)
      refine ⟨l', ?_⟩
      rw [List.length_append, List.length_singleton] at ih
      cases hg : pre.getLast? with
      | none =>
        have hpre : pre = [] := List.getLast?_eq_none_iff.mp hg
        subst hpre
        simp only [List.length_nil, List.nil_append, List.getLast?_singleton] at ih
        simp [fn_app, ex_nil, ex_skip, ex_seq, ex_expr, ex_asg, ex_par, ex_setI, ex_aug, ex_ret, ex_retN, ex_ite, bndS_ok, bndS_ite, tstS_ok, tstS_ite, thn_nx, thn_rt, thn_er, thn_none, thn_ite, fnK_rt, fnK_nx, fnK_er, fnK_ite, asgK_some, asgTg_name, asgTg_tup, asgTup_cons, asgTup_nil, putK_some, augK_int, augV_int, parK_l, ev_var, ev_gc, ev_int, ev_str, ev_bl, ev_non, ev_bin, ev_neg, ev_not, ev_cmp, ev_chain, ev_inr, ev_and, ev_or, ev_one, ev_ite, ev_nil, ev_cons, ev_tup, ev_lst, ev_dnew, ev_idx, ev_sl, ev_rev, ev_call, ev_bi, ev_isi, ev_meth, bnd_ok, bnd_none, bnd_ite, tstE_ok, tstE_ite, mrg_bl, mrg_int, notK_bl, negK_int, outB_some, outV_some, outK_val, outK_fr, outK_new, outK_ite, chainK_some, lstK_l, partK_int, nop_t, nonop_int, nonop_var, nonop_bin, nonop_neg, inrK_int, mtK_some, callK_t, varK_s, slK_nn, slK_ni, slK_in, slK_ii, b_add, b_sub, b_mul, b_fdiv, b_mod, b_pow, c_eq, c_ne, c_lt, c_le, c_gt, c_ge, bi_len, bi_abs, bi_max2, bi_min2, bi_max1, bi_min1, bi_sum, bi_all, bi_tuple, bi_list, bi_sorted, bi_int, bi_intb, bi_str, len_tup, len_lst, len_scr, rb1, rb2, List.map_cons, List.map_nil, List.length_cons, List.length_nil, List.replicate, List.cons_append, List.nil_append, List.getElem?_cons_succ, List.getElem?_cons_zero, List.set_cons_succ, List.set_cons_zero, if_true, if_false, Bool.false_eq_true, Bool.not_true, Bool.not_false, ea, hb, sl2, webC]
        exact ih
      | some p =>
        obtain ⟨ps, rfl⟩ : ∃ ps, pre = ps ++ [p] := by
          obtain ⟨ps, h⟩ := List.getLast?_eq_some_iff.mp hg
          exact ⟨ps, h⟩
        obtain ⟨a1, b1, c1, rfl⟩ := arrowB_form (hp p (by simp))
        have hidx : idxF (.tup arrows) (.int (ps.length : Int)) S = some (.tup [.int a1, .int b1, .int c1]) := by
          subst e
          simp only [idxF, Sto.seq, L2.atI, L2.ixN]
          rw [if_pos (by omega), if_pos (by simp; omega)]
          simp
        have hpos : (0 : Int) < (ps.length : Int) + 1 := by omega
        simp only [List.length_append, List.length_singleton, List.getLast?_append, List.getLast?_singleton] at ih
        have ec : cmpB .GtE (.tup [.int a1, .int b1]) (.tup [.int c, .int d]) S = some (!(ltB (.tup [.int a1, .int b1, .int c1]) (.tup [.int c, .int d, .int w]))) := by
          simp only [cmpB, ordF, T.ints, Option.map_some, lexGe2, ltB]
        simp [fn_app, ex_nil, ex_skip, ex_seq, ex_expr, ex_asg, ex_par, ex_setI, ex_aug, ex_ret, ex_retN, ex_ite, bndS_ok, bndS_ite, tstS_ok, tstS_ite, thn_nx, thn_rt, thn_er, thn_none, thn_ite, fnK_rt, fnK_nx, fnK_er, fnK_ite, asgK_some, asgTg_name, asgTg_tup, asgTup_cons, asgTup_nil, putK_some, augK_int, augV_int, parK_l, ev_var, ev_gc, ev_int, ev_str, ev_bl, ev_non, ev_bin, ev_neg, ev_not, ev_cmp, ev_chain, ev_inr, ev_and, ev_or, ev_one, ev_ite, ev_nil, ev_cons, ev_tup, ev_lst, ev_dnew, ev_idx, ev_sl, ev_rev, ev_call, ev_bi, ev_isi, ev_meth, bnd_ok, bnd_none, bnd_ite, tstE_ok, tstE_ite, mrg_bl, mrg_int, notK_bl, negK_int, outB_some, outV_some, outK_val, outK_fr, outK_new, outK_ite, chainK_some, lstK_l, partK_int, nop_t, nonop_int, nonop_var, nonop_bin, nonop_neg, inrK_int, mtK_some, callK_t, varK_s, slK_nn, slK_ni, slK_in, slK_ii, b_add, b_sub, b_mul, b_fdiv, b_mod, b_pow, c_eq, c_ne, c_lt, c_le, c_gt, c_ge, bi_len, bi_abs, bi_max2, bi_min2, bi_max1, bi_min1, bi_sum, bi_all, bi_tuple, bi_list, bi_sorted, bi_int, bi_intb, bi_str, len_tup, len_lst, len_scr, rb1, rb2, List.map_cons, List.map_nil, List.length_cons, List.length_nil, List.replicate, List.cons_append, List.nil_append, List.getElem?_cons_succ, List.getElem?_cons_zero, List.set_cons_succ, List.set_cons_zero, if_true, if_false, Bool.false_eq_true, Bool.not_true, Bool.not_false, ea, hb, sl2, webC, hidx, hpos, partF, slK, ec]
        cases hl : ltB (.tup [.int a1, .int b1, .int c1]) (.tup [.int c, .int d, .int w]) with
        | false => simp [fn_app, ex_nil, ex_skip, ex_seq, ex_expr, ex_asg, ex_par, ex_setI, ex_aug, ex_ret, ex_retN, ex_ite, bndS_ok, bndS_ite, tstS_ok, tstS_ite, thn_nx, thn_rt, thn_er, thn_none, thn_ite, fnK_rt, fnK_nx, fnK_er, fnK_ite, asgK_some, asgTg_name, asgTg_tup, asgTup_cons, asgTup_nil, putK_some, augK_int, augV_int, parK_l, ev_var, ev_gc, ev_int, ev_str, ev_bl, ev_non, ev_bin, ev_neg, ev_not, ev_cmp, ev_chain, ev_inr, ev_and, ev_or, ev_one, ev_ite, ev_nil, ev_cons, ev_tup, ev_lst, ev_dnew, ev_idx, ev_sl, ev_rev, ev_call, ev_bi, ev_isi, ev_meth, bnd_ok, bnd_none, bnd_ite, tstE_ok, tstE_ite, mrg_bl, mrg_int, notK_bl, negK_int, outB_some, outV_some, outK_val, outK_fr, outK_new, outK_ite, chainK_some, lstK_l, partK_int, nop_t, nonop_int, nonop_var, nonop_bin, nonop_neg, inrK_int, mtK_some, callK_t, varK_s, slK_nn, slK_ni, slK_in, slK_ii, b_add, b_sub, b_mul, b_fdiv, b_mod, b_pow, c_eq, c_ne, c_lt, c_le, c_gt, c_ge, bi_len, bi_abs, bi_max2, bi_min2, bi_max1, bi_min1, bi_sum, bi_all, bi_tuple, bi_list, bi_sorted, bi_int, bi_intb, bi_str, len_tup, len_lst, len_scr, rb1, rb2, List.map_cons, List.map_nil, List.length_cons, List.length_nil, List.replicate, List.cons_append, List.nil_append, List.getElem?_cons_succ, List.getElem?_cons_zero, List.set_cons_succ, List.set_cons_zero, if_true, if_false, Bool.false_eq_true, Bool.not_true, Bool.not_false]
        | true =>
          cases hw : webC n (some (.tup [.int c, .int d, .int w])) r with
          | true => simp [fn_app, ex_nil, ex_skip, ex_seq, ex_expr, ex_asg, ex_par, ex_setI, ex_aug, ex_ret, ex_retN, ex_ite, bndS_ok, bndS_ite, tstS_ok, tstS_ite, thn_nx, thn_rt, thn_er, thn_none, thn_ite, fnK_rt, fnK_nx, fnK_er, fnK_ite, asgK_some, asgTg_name, asgTg_tup, asgTup_cons, asgTup_nil, putK_some, augK_int, augV_int, parK_l, ev_var, ev_gc, ev_int, ev_str, ev_bl, ev_non, ev_bin, ev_neg, ev_not, ev_cmp, ev_chain, ev_inr, ev_and, ev_or, ev_one, ev_ite, ev_nil, ev_cons, ev_tup, ev_lst, ev_dnew, ev_idx, ev_sl, ev_rev, ev_call, ev_bi, ev_isi, ev_meth, bnd_ok, bnd_none, bnd_ite, tstE_ok, tstE_ite, mrg_bl, mrg_int, notK_bl, negK_int, outB_some, outV_some, outK_val, outK_fr, outK_new, outK_ite, chainK_some, lstK_l, partK_int, nop_t, nonop_int, nonop_var, nonop_bin, nonop_neg, inrK_int, mtK_some, callK_t, varK_s, slK_nn, slK_ni, slK_in, slK_ii, b_add, b_sub, b_mul, b_fdiv, b_mod, b_pow, c_eq, c_ne, c_lt, c_le, c_gt, c_ge, bi_len, bi_abs, bi_max2, bi_min2, bi_max1, bi_min1, bi_sum, bi_all, bi_tuple, bi_list, bi_sorted, bi_int, bi_intb, bi_str, len_tup, len_lst, len_scr, rb1, rb2, List.map_cons, List.map_nil, List.length_cons, List.length_nil, List.replicate, List.cons_append, List.nil_append, List.getElem?_cons_succ, List.getElem?_cons_zero, List.set_cons_succ, List.set_cons_zero, if_true, if_false, Bool.false_eq_true, Bool.not_true, Bool.not_false]; simpa [hw] using ih
          | false => simp [fn_app, ex_nil, ex_skip, ex_seq, ex_expr, ex_asg, ex_par, ex_setI, ex_aug, ex_ret, ex_retN, ex_ite, bndS_ok, bndS_ite, tstS_ok, tstS_ite, thn_nx, thn_rt, thn_er, thn_none, thn_ite, fnK_rt, fnK_nx, fnK_er, fnK_ite, asgK_some, asgTg_name, asgTg_tup, asgTup_cons, asgTup_nil, putK_some, augK_int, augV_int, parK_l, ev_var, ev_gc, ev_int, ev_str, ev_bl, ev_non, ev_bin, ev_neg, ev_not, ev_cmp, ev_chain, ev_inr, ev_and, ev_or, ev_one, ev_ite, ev_nil, ev_cons, ev_tup, ev_lst, ev_dnew, ev_idx, ev_sl, ev_rev, ev_call, ev_bi, ev_isi, ev_meth, bnd_ok, bnd_none, bnd_ite, tstE_ok, tstE_ite, mrg_bl, mrg_int, notK_bl, negK_int, outB_some, outV_some, outK_val, outK_fr, outK_new, outK_ite, chainK_some, lstK_l, partK_int, nop_t, nonop_int, nonop_var, nonop_bin, nonop_neg, inrK_int, mtK_some, callK_t, varK_s, slK_nn, slK_ni, slK_in, slK_ii, b_add, b_sub, b_mul, b_fdiv, b_mod, b_pow, c_eq, c_ne, c_lt, c_le, c_gt, c_ge, bi_len, bi_abs, bi_max2, bi_min2, bi_max1, bi_min1, bi_sum, bi_all, bi_tuple, bi_list, bi_sorted, bi_int, bi_intb, bi_str, len_tup, len_lst, len_scr, rb1, rb2, List.map_cons, List.map_nil, List.length_cons, List.length_nil, List.replicate, List.cons_append, List.nil_append, List.getElem?_cons_succ, List.getElem?_cons_zero, List.set_cons_succ, List.set_cons_zero, if_true, if_false, Bool.false_eq_true, Bool.not_true, Bool.not_false]; simpa [hw] using ih
    · refine ⟨[some th, some (.int n), some (.tup arrows), some (.int pre.length), some t], ?_⟩
      have hb : arrowB n t = false := by simpa using hb
      cases hg : pre.getLast? <;> simp [fn_app, ex_nil, ex_skip, ex_seq, ex_expr, ex_asg, ex_par, ex_setI, ex_aug, ex_ret, ex_retN, ex_ite, bndS_ok, bndS_ite, tstS_ok, tstS_ite, thn_nx, thn_rt, thn_er, thn_none, thn_ite, fnK_rt, fnK_nx, fnK_er, fnK_ite, asgK_some, asgTg_name, asgTg_tup, asgTup_cons, asgTup_nil, putK_some, augK_int, augV_int, parK_l, ev_var, ev_gc, ev_int, ev_str, ev_bl, ev_non, ev_bin, ev_neg, ev_not, ev_cmp, ev_chain, ev_inr, ev_and, ev_or, ev_one, ev_ite, ev_nil, ev_cons, ev_tup, ev_lst, ev_dnew, ev_idx, ev_sl, ev_rev, ev_call, ev_bi, ev_isi, ev_meth, bnd_ok, bnd_none, bnd_ite, tstE_ok, tstE_ite, mrg_bl, mrg_int, notK_bl, negK_int, outB_some, outV_some, outK_val, outK_fr, outK_new, outK_ite, chainK_some, lstK_l, partK_int, nop_t, nonop_int, nonop_var, nonop_bin, nonop_neg, inrK_int, mtK_some, callK_t, varK_s, slK_nn, slK_ni, slK_in, slK_ii, b_add, b_sub, b_mul, b_fdiv, b_mod, b_pow, c_eq, c_ne, c_lt, c_le, c_gt, c_ge, bi_len, bi_abs, bi_max2, bi_min2, bi_max1, bi_min1, bi_sum, bi_all, bi_tuple, bi_list, bi_sorted, bi_int, bi_intb, bi_str, len_tup, len_lst, len_scr, rb1, rb2, List.map_cons, List.map_nil, List.length_cons, List.length_nil, List.replicate, List.cons_append, List.nil_append, List.getElem?_cons_succ, List.getElem?_cons_zero, List.set_cons_succ, List.set_cons_zero, if_true, if_false, Bool.false_eq_true, Bool.not_true, Bool.not_false, ea, hb, webC]

theorem webB_form {t : T} (h : webB t = true) : ∃ n arrows, t = .tup [.int n, .tup arrows] ∧ 1 ≤ n ∧ n ≤ 8 ∧ arrows.length ≤ 24 ∧ webC n none arrows = true := by
  unfold webB at h
  split at h
  · rename_i n arrows
    simp only [Bool.and_eq_true, decide_eq_true_eq] at h
    exact ⟨n, arrows, rfl, h.1.1, h.1.2, h.2.1, h.2.2⟩
  · cases h
theorem webB_no {a b : T} (h : isW a = false) : webB (.tup [a, b]) = false := by
  unfold webB
  split
  · rename_i e; cases e; simp [isW] at h
  · rfl
theorem web_good_eq (t : T) (S : Sto) (h : pl t = true) : F_web_good [t] S = some (.ok (.bl (webB t)), S) := by
  unfold F_web_good B_web_good
  cases t with
  | tup xs =>
    match xs, h with
    | [], h => simp [fn_app, ex_nil, ex_skip, ex_seq, ex_expr, ex_asg, ex_par, ex_setI, ex_aug, ex_ret, ex_retN, ex_ite, bndS_ok, bndS_ite, tstS_ok, tstS_ite, thn_nx, thn_rt, thn_er, thn_none, thn_ite, fnK_rt, fnK_nx, fnK_er, fnK_ite, asgK_some, asgTg_name, asgTg_tup, asgTup_cons, asgTup_nil, putK_some, augK_int, augV_int, parK_l, ev_var, ev_gc, ev_int, ev_str, ev_bl, ev_non, ev_bin, ev_neg, ev_not, ev_cmp, ev_chain, ev_inr, ev_and, ev_or, ev_one, ev_ite, ev_nil, ev_cons, ev_tup, ev_lst, ev_dnew, ev_idx, ev_sl, ev_rev, ev_call, ev_bi, ev_isi, ev_meth, bnd_ok, bnd_none, bnd_ite, tstE_ok, tstE_ite, mrg_bl, mrg_int, notK_bl, negK_int, outB_some, outV_some, outK_val, outK_fr, outK_new, outK_ite, chainK_some, lstK_l, partK_int, nop_t, nonop_int, nonop_var, nonop_bin, nonop_neg, inrK_int, mtK_some, callK_t, varK_s, slK_nn, slK_ni, slK_in, slK_ii, b_add, b_sub, b_mul, b_fdiv, b_mod, b_pow, c_eq, c_ne, c_lt, c_le, c_gt, c_ge, bi_len, bi_abs, bi_max2, bi_min2, bi_max1, bi_min1, bi_sum, bi_all, bi_tuple, bi_list, bi_sorted, bi_int, bi_intb, bi_str, len_tup, len_lst, len_scr, rb1, rb2, List.map_cons, List.map_nil, List.length_cons, List.length_nil, List.replicate, List.cons_append, List.nil_append, List.getElem?_cons_succ, List.getElem?_cons_zero, List.set_cons_succ, List.set_cons_zero, if_true, if_false, Bool.false_eq_true, Bool.not_true, Bool.not_false, isiF, Sto.ty, isTy, lenF, Sto.seq, webB]
    | [a], h => simp [fn_app, ex_nil, ex_skip, ex_seq, ex_expr, ex_asg, ex_par, ex_setI, ex_aug, ex_ret, ex_retN, ex_ite, bndS_ok, bndS_ite, tstS_ok, tstS_ite, thn_nx, thn_rt, thn_er, thn_none, thn_ite, fnK_rt, fnK_nx, fnK_er, fnK_ite, asgK_some, asgTg_name, asgTg_tup, asgTup_cons, asgTup_nil, putK_some, augK_int, augV_int, parK_l, ev_var, ev_gc, ev_int, ev_str, ev_bl, ev_non, ev_bin, ev_neg, ev_not, ev_cmp, ev_chain, ev_inr, ev_and, ev_or, ev_one, ev_ite, ev_nil, ev_cons, ev_tup, ev_lst, ev_dnew, ev_idx, ev_sl, ev_rev, ev_call, ev_bi, ev_isi, ev_meth, bnd_ok, bnd_none, bnd_ite, tstE_ok, tstE_ite, mrg_bl, mrg_int, notK_bl, negK_int, outB_some, outV_some, outK_val, outK_fr, outK_new, outK_ite, chainK_some, lstK_l, partK_int, nop_t, nonop_int, nonop_var, nonop_bin, nonop_neg, inrK_int, mtK_some, callK_t, varK_s, slK_nn, slK_ni, slK_in, slK_ii, b_add, b_sub, b_mul, b_fdiv, b_mod, b_pow, c_eq, c_ne, c_lt, c_le, c_gt, c_ge, bi_len, bi_abs, bi_max2, bi_min2, bi_max1, bi_min1, bi_sum, bi_all, bi_tuple, bi_list, bi_sorted, bi_int, bi_intb, bi_str, len_tup, len_lst, len_scr, rb1, rb2, List.map_cons, List.map_nil, List.length_cons, List.length_nil, List.replicate, List.cons_append, List.nil_append, List.getElem?_cons_succ, List.getElem?_cons_zero, List.set_cons_succ, List.set_cons_zero, if_true, if_false, Bool.false_eq_true, Bool.not_true, Bool.not_false, isiF, Sto.ty, isTy, lenF, Sto.seq, webB]
    | [a, b], h =>
      simp only [pl, pls, Bool.and_true, Bool.and_eq_true] at h
      obtain ⟨ha, hb⟩ := h
      have ea := is_whole_eq a S ha
      by_cases hw : isW a = true
      · cases a <;> first | (simp [isW] at hw; done) | skip
        rename_i n
        have e0 : idxF (.tup [.int n, b]) (.int 0) S = some (.int n) := by simp [idxF, Sto.seq, L2.atI, L2.ixN]
        cases b with
        | tup arrows =>
          obtain ⟨l', hl⟩ := webL n S (.tup [.int n, .tup arrows]) arrows (by simpa [pl] using hb) [] arrows none none rfl (by simp)
          simp only [List.length_nil, List.getLast?_nil] at hl
          by_cases h1 : n < 1
          · have : ¬ (1 ≤ n) := by omega
            simp [fn_app, ex_nil, ex_skip, ex_seq, ex_expr, ex_asg, ex_par, ex_setI, ex_aug, ex_ret, ex_retN, ex_ite, bndS_ok, bndS_ite, tstS_ok, tstS_ite, thn_nx, thn_rt, thn_er, thn_none, thn_ite, fnK_rt, fnK_nx, fnK_er, fnK_ite, asgK_some, asgTg_name, asgTg_tup, asgTup_cons, asgTup_nil, putK_some, augK_int, augV_int, parK_l, ev_var, ev_gc, ev_int, ev_str, ev_bl, ev_non, ev_bin, ev_neg, ev_not, ev_cmp, ev_chain, ev_inr, ev_and, ev_or, ev_one, ev_ite, ev_nil, ev_cons, ev_tup, ev_lst, ev_dnew, ev_idx, ev_sl, ev_rev, ev_call, ev_bi, ev_isi, ev_meth, bnd_ok, bnd_none, bnd_ite, tstE_ok, tstE_ite, mrg_bl, mrg_int, notK_bl, negK_int, outB_some, outV_some, outK_val, outK_fr, outK_new, outK_ite, chainK_some, lstK_l, partK_int, nop_t, nonop_int, nonop_var, nonop_bin, nonop_neg, inrK_int, mtK_some, callK_t, varK_s, slK_nn, slK_ni, slK_in, slK_ii, b_add, b_sub, b_mul, b_fdiv, b_mod, b_pow, c_eq, c_ne, c_lt, c_le, c_gt, c_ge, bi_len, bi_abs, bi_max2, bi_min2, bi_max1, bi_min1, bi_sum, bi_all, bi_tuple, bi_list, bi_sorted, bi_int, bi_intb, bi_str, len_tup, len_lst, len_scr, rb1, rb2, List.map_cons, List.map_nil, List.length_cons, List.length_nil, List.replicate, List.cons_append, List.nil_append, List.getElem?_cons_succ, List.getElem?_cons_zero, List.set_cons_succ, List.set_cons_zero, if_true, if_false, Bool.false_eq_true, Bool.not_true, Bool.not_false, isiF, Sto.ty, isTy, lenF, Sto.seq, ea, isW, e0, h1, webB, this]
          · by_cases h2 : 8 < n
            · have : ¬ (n ≤ 8) := by omega
              simp [fn_app, ex_nil, ex_skip, ex_seq, ex_expr, ex_asg, ex_par, ex_setI, ex_aug, ex_ret, ex_retN, ex_ite, bndS_ok, bndS_ite, tstS_ok, tstS_ite, thn_nx, thn_rt, thn_er, thn_none, thn_ite, fnK_rt, fnK_nx, fnK_er, fnK_ite, asgK_some, asgTg_name, asgTg_tup, asgTup_cons, asgTup_nil, putK_some, augK_int, augV_int, parK_l, ev_var, ev_gc, ev_int, ev_str, ev_bl, ev_non, ev_bin, ev_neg, ev_not, ev_cmp, ev_chain, ev_inr, ev_and, ev_or, ev_one, ev_ite, ev_nil, ev_cons, ev_tup, ev_lst, ev_dnew, ev_idx, ev_sl, ev_rev, ev_call, ev_bi, ev_isi, ev_meth, bnd_ok, bnd_none, bnd_ite, tstE_ok, tstE_ite, mrg_bl, mrg_int, notK_bl, negK_int, outB_some, outV_some, outK_val, outK_fr, outK_new, outK_ite, chainK_some, lstK_l, partK_int, nop_t, nonop_int, nonop_var, nonop_bin, nonop_neg, inrK_int, mtK_some, callK_t, varK_s, slK_nn, slK_ni, slK_in, slK_ii, b_add, b_sub, b_mul, b_fdiv, b_mod, b_pow, c_eq, c_ne, c_lt, c_le, c_gt, c_ge, bi_len, bi_abs, bi_max2, bi_min2, bi_max1, bi_min1, bi_sum, bi_all, bi_tuple, bi_list, bi_sorted, bi_int, bi_intb, bi_str, len_tup, len_lst, len_scr, rb1, rb2, List.map_cons, List.map_nil, List.length_cons, List.length_nil, List.replicate, List.cons_append, List.nil_append, List.getElem?_cons_succ, List.getElem?_cons_zero, List.set_cons_succ, List.set_cons_zero, if_true, if_false, Bool.false_eq_true, Bool.not_true, Bool.not_false, isiF, Sto.ty, isTy, lenF, Sto.seq, ea, isW, e0, h1, h2, webB, this]
            · by_cases h3 : (24 : Int) < arrows.length
              · have : ¬ (arrows.length ≤ 24) := by omega
                simp [fn_app, ex_nil, ex_skip, ex_seq, ex_expr, ex_asg, ex_par, ex_setI, ex_aug, ex_ret, ex_retN, ex_ite, bndS_ok, bndS_ite, tstS_ok, tstS_ite, thn_nx, thn_rt, thn_er, thn_none, thn_ite, fnK_rt, fnK_nx, fnK_er, fnK_ite, asgK_some, asgTg_name, asgTg_tup, asgTup_cons, asgTup_nil, putK_some, augK_int, augV_int, parK_l, ev_var, ev_gc, ev_int, ev_str, ev_bl, ev_non, ev_bin, ev_neg, ev_not, ev_cmp, ev_chain, ev_inr, ev_and, ev_or, ev_one, ev_ite, ev_nil, ev_cons, ev_tup, ev_lst, ev_dnew, ev_idx, ev_sl, ev_rev, ev_call, ev_bi, ev_isi, ev_meth, bnd_ok, bnd_none, bnd_ite, tstE_ok, tstE_ite, mrg_bl, mrg_int, notK_bl, negK_int, outB_some, outV_some, outK_val, outK_fr, outK_new, outK_ite, chainK_some, lstK_l, partK_int, nop_t, nonop_int, nonop_var, nonop_bin, nonop_neg, inrK_int, mtK_some, callK_t, varK_s, slK_nn, slK_ni, slK_in, slK_ii, b_add, b_sub, b_mul, b_fdiv, b_mod, b_pow, c_eq, c_ne, c_lt, c_le, c_gt, c_ge, bi_len, bi_abs, bi_max2, bi_min2, bi_max1, bi_min1, bi_sum, bi_all, bi_tuple, bi_list, bi_sorted, bi_int, bi_intb, bi_str, len_tup, len_lst, len_scr, rb1, rb2, List.map_cons, List.map_nil, List.length_cons, List.length_nil, List.replicate, List.cons_append, List.nil_append, List.getElem?_cons_succ, List.getElem?_cons_zero, List.set_cons_succ, List.set_cons_zero, if_true, if_false, Bool.false_eq_true, Bool.not_true, Bool.not_false, isiF, Sto.ty, isTy, lenF, Sto.seq, ea, isW, e0, h1, h2, h3, webB, this]
              · have q1 : 1 ≤ n := by omega
                have q2 : n ≤ 8 := by omega
                have q3 : arrows.length ≤ 24 := by omega
                simp [fn_app, ex_nil, ex_skip, ex_seq, ex_expr, ex_asg, ex_par, ex_setI, ex_aug, ex_ret, ex_retN, ex_ite, bndS_ok, bndS_ite, tstS_ok, tstS_ite, thn_nx, thn_rt, thn_er, thn_none, thn_ite, fnK_rt, fnK_nx, fnK_er, fnK_ite, asgK_some, asgTg_name, asgTg_tup, asgTup_cons, asgTup_nil, putK_some, augK_int, augV_int, parK_l, ev_var, ev_gc, ev_int, ev_str, ev_bl, ev_non, ev_bin, ev_neg, ev_not, ev_cmp, ev_chain, ev_inr, ev_and, ev_or, ev_one, ev_ite, ev_nil, ev_cons, ev_tup, ev_lst, ev_dnew, ev_idx, ev_sl, ev_rev, ev_call, ev_bi, ev_isi, ev_meth, bnd_ok, bnd_none, bnd_ite, tstE_ok, tstE_ite, mrg_bl, mrg_int, notK_bl, negK_int, outB_some, outV_some, outK_val, outK_fr, outK_new, outK_ite, chainK_some, lstK_l, partK_int, nop_t, nonop_int, nonop_var, nonop_bin, nonop_neg, inrK_int, mtK_some, callK_t, varK_s, slK_nn, slK_ni, slK_in, slK_ii, b_add, b_sub, b_mul, b_fdiv, b_mod, b_pow, c_eq, c_ne, c_lt, c_le, c_gt, c_ge, bi_len, bi_abs, bi_max2, bi_min2, bi_max1, bi_min1, bi_sum, bi_all, bi_tuple, bi_list, bi_sorted, bi_int, bi_intb, bi_str, len_tup, len_lst, len_scr, rb1, rb2, List.map_cons, List.map_nil, List.length_cons, List.length_nil, List.replicate, List.cons_append, List.nil_append, List.getElem?_cons_succ, List.getElem?_cons_zero, List.set_cons_succ, List.set_cons_zero, if_true, if_false, Bool.false_eq_true, Bool.not_true, Bool.not_false, isiF, Sto.ty, isTy, lenF, Sto.seq, ea, isW, e0, h1, h2, h3, ex_loop, ev_enum, srcK, srcItems, webB, q1, q2, q3]
                rw [hl]
                cases webC n none arrows <;> rfl
        | ref _ => simp [pl] at hb
        | scr _ => simp [pl] at hb
        | _ =>
          by_cases h1 : n < 1 <;> by_cases h2 : 8 < n <;> simp [fn_app, ex_nil, ex_skip, ex_seq, ex_expr, ex_asg, ex_par, ex_setI, ex_aug, ex_ret, ex_retN, ex_ite, bndS_ok, bndS_ite, tstS_ok, tstS_ite, thn_nx, thn_rt, thn_er, thn_none, thn_ite, fnK_rt, fnK_nx, fnK_er, fnK_ite, asgK_some, asgTg_name, asgTg_tup, asgTup_cons, asgTup_nil, putK_some, augK_int, augV_int, parK_l, ev_var, ev_gc, ev_int, ev_str, ev_bl, ev_non, ev_bin, ev_neg, ev_not, ev_cmp, ev_chain, ev_inr, ev_and, ev_or, ev_one, ev_ite, ev_nil, ev_cons, ev_tup, ev_lst, ev_dnew, ev_idx, ev_sl, ev_rev, ev_call, ev_bi, ev_isi, ev_meth, bnd_ok, bnd_none, bnd_ite, tstE_ok, tstE_ite, mrg_bl, mrg_int, notK_bl, negK_int, outB_some, outV_some, outK_val, outK_fr, outK_new, outK_ite, chainK_some, lstK_l, partK_int, nop_t, nonop_int, nonop_var, nonop_bin, nonop_neg, inrK_int, mtK_some, callK_t, varK_s, slK_nn, slK_ni, slK_in, slK_ii, b_add, b_sub, b_mul, b_fdiv, b_mod, b_pow, c_eq, c_ne, c_lt, c_le, c_gt, c_ge, bi_len, bi_abs, bi_max2, bi_min2, bi_max1, bi_min1, bi_sum, bi_all, bi_tuple, bi_list, bi_sorted, bi_int, bi_intb, bi_str, len_tup, len_lst, len_scr, rb1, rb2, List.map_cons, List.map_nil, List.length_cons, List.length_nil, List.replicate, List.cons_append, List.nil_append, List.getElem?_cons_succ, List.getElem?_cons_zero, List.set_cons_succ, List.set_cons_zero, if_true, if_false, Bool.false_eq_true, Bool.not_true, Bool.not_false, isiF, Sto.ty, isTy, lenF, Sto.seq, ea, isW, e0, h1, h2, webB]
      · have hw : isW a = false := by simpa using hw
        have e0 : idxF (.tup [a, b]) (.int 0) S = some a := by simp [idxF, Sto.seq, L2.atI, L2.ixN]
        rw [webB_no hw]
        simp [fn_app, ex_nil, ex_skip, ex_seq, ex_expr, ex_asg, ex_par, ex_setI, ex_aug, ex_ret, ex_retN, ex_ite, bndS_ok, bndS_ite, tstS_ok, tstS_ite, thn_nx, thn_rt, thn_er, thn_none, thn_ite, fnK_rt, fnK_nx, fnK_er, fnK_ite, asgK_some, asgTg_name, asgTg_tup, asgTup_cons, asgTup_nil, putK_some, augK_int, augV_int, parK_l, ev_var, ev_gc, ev_int, ev_str, ev_bl, ev_non, ev_bin, ev_neg, ev_not, ev_cmp, ev_chain, ev_inr, ev_and, ev_or, ev_one, ev_ite, ev_nil, ev_cons, ev_tup, ev_lst, ev_dnew, ev_idx, ev_sl, ev_rev, ev_call, ev_bi, ev_isi, ev_meth, bnd_ok, bnd_none, bnd_ite, tstE_ok, tstE_ite, mrg_bl, mrg_int, notK_bl, negK_int, outB_some, outV_some, outK_val, outK_fr, outK_new, outK_ite, chainK_some, lstK_l, partK_int, nop_t, nonop_int, nonop_var, nonop_bin, nonop_neg, inrK_int, mtK_some, callK_t, varK_s, slK_nn, slK_ni, slK_in, slK_ii, b_add, b_sub, b_mul, b_fdiv, b_mod, b_pow, c_eq, c_ne, c_lt, c_le, c_gt, c_ge, bi_len, bi_abs, bi_max2, bi_min2, bi_max1, bi_min1, bi_sum, bi_all, bi_tuple, bi_list, bi_sorted, bi_int, bi_intb, bi_str, len_tup, len_lst, len_scr, rb1, rb2, List.map_cons, List.map_nil, List.length_cons, List.length_nil, List.replicate, List.cons_append, List.nil_append, List.getElem?_cons_succ, List.getElem?_cons_zero, List.set_cons_succ, List.set_cons_zero, if_true, if_false, Bool.false_eq_true, Bool.not_true, Bool.not_false, isiF, Sto.ty, isTy, lenF, Sto.seq, e0, ea, hw]
    | a :: b :: c :: r, h =>
      have e : ¬ ((r.length : Int) + 1 + 1 + 1 = 2) := by omega
      simp [fn_app, ex_nil, ex_skip, ex_seq, ex_expr, ex_asg, ex_par, ex_setI, ex_aug, ex_ret, ex_retN, ex_ite, bndS_ok, bndS_ite, tstS_ok, tstS_ite, thn_nx, thn_rt, thn_er, thn_none, thn_ite, fnK_rt, fnK_nx, fnK_er, fnK_ite, asgK_some, asgTg_name, asgTg_tup, asgTup_cons, asgTup_nil, putK_some, augK_int, augV_int, parK_l, ev_var, ev_gc, ev_int, ev_str, ev_bl, ev_non, ev_bin, ev_neg, ev_not, ev_cmp, ev_chain, ev_inr, ev_and, ev_or, ev_one, ev_ite, ev_nil, ev_cons, ev_tup, ev_lst, ev_dnew, ev_idx, ev_sl, ev_rev, ev_call, ev_bi, ev_isi, ev_meth, bnd_ok, bnd_none, bnd_ite, tstE_ok, tstE_ite, mrg_bl, mrg_int, notK_bl, negK_int, outB_some, outV_some, outK_val, outK_fr, outK_new, outK_ite, chainK_some, lstK_l, partK_int, nop_t, nonop_int, nonop_var, nonop_bin, nonop_neg, inrK_int, mtK_some, callK_t, varK_s, slK_nn, slK_ni, slK_in, slK_ii, b_add, b_sub, b_mul, b_fdiv, b_mod, b_pow, c_eq, c_ne, c_lt, c_le, c_gt, c_ge, bi_len, bi_abs, bi_max2, bi_min2, bi_max1, bi_min1, bi_sum, bi_all, bi_tuple, bi_list, bi_sorted, bi_int, bi_intb, bi_str, len_tup, len_lst, len_scr, rb1, rb2, List.map_cons, List.map_nil, List.length_cons, List.length_nil, List.replicate, List.cons_append, List.nil_append, List.getElem?_cons_succ, List.getElem?_cons_zero, List.set_cons_succ, List.set_cons_zero, if_true, if_false, Bool.false_eq_true, Bool.not_true, Bool.not_false, isiF, Sto.ty, isTy, lenF, Sto.seq, webB, e]
  | ref _ => simp [pl] at h
  | scr _ => simp [pl] at h
  | _ => simp [fn_app, ex_nil, ex_skip, ex_seq, ex_expr, ex_asg, ex_par, ex_setI, ex_aug, ex_ret, ex_retN, ex_ite, bndS_ok, bndS_ite, tstS_ok, tstS_ite, thn_nx, thn_rt, thn_er, thn_none, thn_ite, fnK_rt, fnK_nx, fnK_er, fnK_ite, asgK_some, asgTg_name, asgTg_tup, asgTup_cons, asgTup_nil, putK_some, augK_int, augV_int, parK_l, ev_var, ev_gc, ev_int, ev_str, ev_bl, ev_non, ev_bin, ev_neg, ev_not, ev_cmp, ev_chain, ev_inr, ev_and, ev_or, ev_one, ev_ite, ev_nil, ev_cons, ev_tup, ev_lst, ev_dnew, ev_idx, ev_sl, ev_rev, ev_call, ev_bi, ev_isi, ev_meth, bnd_ok, bnd_none, bnd_ite, tstE_ok, tstE_ite, mrg_bl, mrg_int, notK_bl, negK_int, outB_some, outV_some, outK_val, outK_fr, outK_new, outK_ite, chainK_some, lstK_l, partK_int, nop_t, nonop_int, nonop_var, nonop_bin, nonop_neg, inrK_int, mtK_some, callK_t, varK_s, slK_nn, slK_ni, slK_in, slK_ii, b_add, b_sub, b_mul, b_fdiv, b_mod, b_pow, c_eq, c_ne, c_lt, c_le, c_gt, c_ge, bi_len, bi_abs, bi_max2, bi_min2, bi_max1, bi_min1, bi_sum, bi_all, bi_tuple, bi_list, bi_sorted, bi_int, bi_intb, bi_str, len_tup, len_lst, len_scr, rb1, rb2, List.map_cons, List.map_nil, List.length_cons, List.length_nil, List.replicate, List.cons_append, List.nil_append, List.getElem?_cons_succ, List.getElem?_cons_zero, List.set_cons_succ, List.set_cons_zero, if_true, if_false, Bool.false_eq_true, Bool.not_true, Bool.not_false, isiF, Sto.ty, isTy, webB]
end H

namespace H
open PySem PySem.Spec L2 TL
theorem pls_mem {xs : List T} (h : pls xs = true) : ∀ t ∈ xs, pl t = true := by
  induction xs with
  | nil => intro t ht; cases ht
  | cons x xs ih =>
    obtain ⟨a, b⟩ := pls_cons h
    intro t ht
    rcases List.mem_cons.mp ht with rfl | ht
    · exact a
    · exact ih b t ht
def chainB : List T → Bool
  | a :: b :: r => ltB a b && chainB (b :: r)
  | _ => true
theorem webC_some (n : Int) : ∀ (p : T) (r : List T), webC n (some p) r = (r.all (arrowB n) && chainB (p :: r))
  | p, [] => rfl
  | p, t :: r => by
    simp only [webC, webC_some n t r, List.all_cons, chainB]
    cases arrowB n t <;> cases ltB p t <;> cases r.all (arrowB n) <;> cases chainB (t :: r) <;> rfl
theorem webC_none (n : Int) : ∀ (r : List T), webC n none r = (r.all (arrowB n) && chainB r)
  | [] => rfl
  | t :: r => by
    simp only [webC, webC_some n t r, List.all_cons]
    rw [Bool.and_assoc]
/-- the pairs in order -/
theorem chain_pairs : ∀ (xs : List T), ((List.range (xs.length - 1)).map fun i => ltB (xs.getD i .non) (xs.getD (i + 1) .non)).all id = chainB xs
  | [] => rfl
  | [_] => rfl
  | a :: b :: r => by
    have ih := chain_pairs (b :: r)
    simp only [List.length_cons, Nat.add_sub_cancel] at ih ⊢
    rw [List.range_succ_eq_map, List.map_cons, List.all_cons, List.map_map]
    simp only [chainB]
    rw [← ih]
    rfl
theorem lw_all (n : Int) (hr : 1 ≤ n ∧ n < 9) (arrows : List T) (S : Sto) (hpl : pls arrows = true) (q3 : arrows.length ≤ 24) :
    ev (.comp false [("_law_arrow", 2)] (.name 2) (.seq (.idx (.var 0) (.int 1))) .nop (.call true "_law_arrow_good" F__law_arrow_good (.cons (.idx (.var 0) (.int 0)) (.cons (.var 2) .nil)))) [some (.tup [.int n, .tup arrows]), none, none] S = some (.ok (.lst (arrows.map fun t => .bl (arrowB n t))), S) := by
  have e0 : idxF (.tup [.int n, .tup arrows]) (.int 0) S = some (.int n) := by simp [idxF, Sto.seq, L2.atI, L2.ixN]
  have e1 : idxF (.tup [.int n, .tup arrows]) (.int 1) S = some (.tup arrows) := by simp [idxF, Sto.seq, L2.atI, L2.ixN]
  have cm := compL_map (i := 2) (c := ev .nop) (elt := ev (.call true "_law_arrow_good" F__law_arrow_good (.cons (.idx (.var 0) (.int 0)) (.cons (.var 2) .nil)))) (d := .tup [.int 0, .tup arrows]) (items := arrows) (l0 := [some (.tup [.int n, .tup arrows]), none, none]) (S := S) (rest := arrows) (fun t => .bl (arrowB n t)) rfl (by
    intro t ht
    simp [fn_app, ex_nil, ex_skip, ex_seq, ex_expr, ex_asg, ex_par, ex_setI, ex_aug, ex_ret, ex_retN, ex_ite, bndS_ok, bndS_ite, tstS_ok, tstS_ite, thn_nx, thn_rt, thn_er, thn_none, thn_ite, fnK_rt, fnK_nx, fnK_er, fnK_ite, asgK_some, asgTg_name, asgTg_tup, asgTup_cons, asgTup_nil, putK_some, augK_int, augV_int, parK_l, ev_var, ev_gc, ev_int, ev_str, ev_bl, ev_non, ev_bin, ev_neg, ev_not, ev_cmp, ev_chain, ev_inr, ev_and, ev_or, ev_one, ev_ite, ev_nil, ev_cons, ev_tup, ev_lst, ev_dnew, ev_idx, ev_sl, ev_rev, ev_call, ev_bi, ev_isi, ev_meth, bnd_ok, bnd_none, bnd_ite, tstE_ok, tstE_ite, mrg_bl, mrg_int, notK_bl, negK_int, outB_some, outV_some, outK_val, outK_fr, outK_new, outK_ite, chainK_some, lstK_l, partK_int, nop_t, nonop_int, nonop_var, nonop_bin, nonop_neg, inrK_int, mtK_some, callK_t, varK_s, slK_nn, slK_ni, slK_in, slK_ii, b_add, b_sub, b_mul, b_fdiv, b_mod, b_pow, c_eq, c_ne, c_lt, c_le, c_gt, c_ge, bi_len, bi_abs, bi_max2, bi_min2, bi_max1, bi_min1, bi_sum, bi_all, bi_tuple, bi_list, bi_sorted, bi_int, bi_intb, bi_str, len_tup, len_lst, len_scr, rb1, rb2, List.map_cons, List.map_nil, List.length_cons, List.length_nil, List.replicate, List.cons_append, List.nil_append, List.getElem?_cons_succ, List.getElem?_cons_zero, List.set_cons_succ, List.set_cons_zero, if_true, if_false, Bool.false_eq_true, Bool.not_true, Bool.not_false, e0, law_arrow_good_eq n (by omega) t S (pls_mem hpl t ht)])
  have hlim : arrows.length ≤ LIM := by unfold LIM; omega
  simp [ev_comp, ev_seq, compK, srcItems, wipeL, Sto.seq, hlim, fn_app, ex_nil, ex_skip, ex_seq, ex_expr, ex_asg, ex_par, ex_setI, ex_aug, ex_ret, ex_retN, ex_ite, bndS_ok, bndS_ite, tstS_ok, tstS_ite, thn_nx, thn_rt, thn_er, thn_none, thn_ite, fnK_rt, fnK_nx, fnK_er, fnK_ite, asgK_some, asgTg_name, asgTg_tup, asgTup_cons, asgTup_nil, putK_some, augK_int, augV_int, parK_l, ev_var, ev_gc, ev_int, ev_str, ev_bl, ev_non, ev_bin, ev_neg, ev_not, ev_cmp, ev_chain, ev_inr, ev_and, ev_or, ev_one, ev_ite, ev_nil, ev_cons, ev_tup, ev_lst, ev_dnew, ev_idx, ev_sl, ev_rev, ev_call, ev_bi, ev_isi, ev_meth, bnd_ok, bnd_none, bnd_ite, tstE_ok, tstE_ite, mrg_bl, mrg_int, notK_bl, negK_int, outB_some, outV_some, outK_val, outK_fr, outK_new, outK_ite, chainK_some, lstK_l, partK_int, nop_t, nonop_int, nonop_var, nonop_bin, nonop_neg, inrK_int, mtK_some, callK_t, varK_s, slK_nn, slK_ni, slK_in, slK_ii, b_add, b_sub, b_mul, b_fdiv, b_mod, b_pow, c_eq, c_ne, c_lt, c_le, c_gt, c_ge, bi_len, bi_abs, bi_max2, bi_min2, bi_max1, bi_min1, bi_sum, bi_all, bi_tuple, bi_list, bi_sorted, bi_int, bi_intb, bi_str, len_tup, len_lst, len_scr, rb1, rb2, List.map_cons, List.map_nil, List.length_cons, List.length_nil, List.replicate, List.cons_append, List.nil_append, List.getElem?_cons_succ, List.getElem?_cons_zero, List.set_cons_succ, List.set_cons_zero, if_true, if_false, Bool.false_eq_true, Bool.not_true, Bool.not_false, e1]
  rw [cm]
theorem lw_pairs (n : Int) (arrows : List T) (S : Sto) (q3 : arrows.length ≤ 24) (hA : arrows.all (arrowB n) = true) :
    ∃ ys, ev (.comp false [("_law_k", 1)] (.name 1) (.rng (.cons (.int 1) (.cons (.bi false .len (.cons (.idx (.var 0) (.int 1)) .nil)) .nil))) .nop (.cmp .Lt (.sl false (.idx (.idx (.var 0) (.int 1)) (.bin false .Sub (.var 1) (.int 1))) .nop (.int 2)) (.sl false (.idx (.idx (.var 0) (.int 1)) (.var 1)) .nop (.int 2)))) [some (.tup [.int n, .tup arrows]), none, none] S = some (.ok (.lst ys), S) ∧ allF [.lst ys] S = some (.val (.bl (chainB arrows))) := by
  have e1 : idxF (.tup [.int n, .tup arrows]) (.int 1) S = some (.tup arrows) := by simp [idxF, Sto.seq, L2.atI, L2.ixN]
  have form : ∀ i, i < arrows.length → ∃ a b c, arrows[i]? = some (.tup [.int a, .int b, .int c]) := by
    intro i hi
    have hm : arrows[i] ∈ arrows := List.getElem_mem hi
    obtain ⟨a, b, c, e⟩ := arrowB_form (List.all_eq_true.mp hA _ hm)
    exact ⟨a, b, c, by rw [List.getElem?_eq_getElem hi, e]⟩
  have idx : ∀ (j : Int) (i : Nat) (x : T), j = (i : Int) → arrows[i]? = some x → idxF (.tup arrows) (.int j) S = some x := by
    intro j i x hj hx
    have hi := (List.getElem?_eq_some_iff.mp hx).1
    simp only [idxF, Sto.seq, L2.atI, L2.ixN]
    rw [if_pos (by omega), if_pos (by omega)]
    have : j.toNat = i := by omega
    simp [this, hx]
  have cm2 := compL_map (i := 1) (c := ev .nop) (elt := ev (.cmp .Lt (.sl false (.idx (.idx (.var 0) (.int 1)) (.bin false .Sub (.var 1) (.int 1))) .nop (.int 2)) (.sl false (.idx (.idx (.var 0) (.int 1)) (.var 1)) .nop (.int 2)))) (d := .tup [.non, .lst (intRange 1 arrows.length)]) (items := intRange 1 arrows.length) (l0 := [some (.tup [.int n, .tup arrows]), none, none]) (S := S) (rest := intRange 1 arrows.length)
    (fun t => match t with | .int j => .bl (ltB (arrows.getD (j - 1).toNat .non) (arrows.getD j.toNat .non)) | t => t) rfl (by
    intro t ht
    simp only [intRange, List.mem_map, List.mem_range] at ht
    obtain ⟨i, hi, rfl⟩ := ht
    have hi : i + 1 < arrows.length := by omega
    obtain ⟨a, b, c, x1⟩ := form i (by omega)
    obtain ⟨a', b', c', x2⟩ := form (i + 1) hi
    have y1 := idx (1 + (i : Int) - 1) i _ (by omega) x1
    have y2 := idx (1 + (i : Int)) (i + 1) _ (by omega) x2
    have z1 : arrows.getD (1 + (i : Int) - 1).toNat .non = .tup [.int a, .int b, .int c] := by
      have : (1 + (i : Int) - 1).toNat = i := by omega
      rw [this, List.getD_eq_getElem?_getD, x1]; rfl
    have z2 : arrows.getD (1 + (i : Int)).toNat .non = .tup [.int a', .int b', .int c'] := by
      have : (1 + (i : Int)).toNat = i + 1 := by omega
      rw [this, List.getD_eq_getElem?_getD, x2]; rfl
    have ec : cmpB .Lt (.tup [.int a, .int b]) (.tup [.int a', .int b']) S = some (ltB (.tup [.int a, .int b, .int c]) (.tup [.int a', .int b', .int c'])) := by
      simp only [cmpB, ordF, T.ints, Option.map_some, lexLt2, ltB]
    simp only [fn_app, ex_nil, ex_skip, ex_seq, ex_expr, ex_asg, ex_par, ex_setI, ex_aug, ex_ret, ex_retN, ex_ite, bndS_ok, bndS_ite, tstS_ok, tstS_ite, thn_nx, thn_rt, thn_er, thn_none, thn_ite, fnK_rt, fnK_nx, fnK_er, fnK_ite, asgK_some, asgTg_name, asgTg_tup, asgTup_cons, asgTup_nil, putK_some, augK_int, augV_int, parK_l, ev_var, ev_gc, ev_int, ev_str, ev_bl, ev_non, ev_bin, ev_neg, ev_not, ev_cmp, ev_chain, ev_inr, ev_and, ev_or, ev_one, ev_ite, ev_nil, ev_cons, ev_tup, ev_lst, ev_dnew, ev_idx, ev_sl, ev_rev, ev_call, ev_bi, ev_isi, ev_meth, bnd_ok, bnd_none, bnd_ite, tstE_ok, tstE_ite, mrg_bl, mrg_int, notK_bl, negK_int, outB_some, outV_some, outK_val, outK_fr, outK_new, outK_ite, chainK_some, lstK_l, partK_int, nop_t, nonop_int, nonop_var, nonop_bin, nonop_neg, inrK_int, mtK_some, callK_t, varK_s, slK_nn, slK_ni, slK_in, slK_ii, b_add, b_sub, b_mul, b_fdiv, b_mod, b_pow, c_eq, c_ne, c_lt, c_le, c_gt, c_ge, bi_len, bi_abs, bi_max2, bi_min2, bi_max1, bi_min1, bi_sum, bi_all, bi_tuple, bi_list, bi_sorted, bi_int, bi_intb, bi_str, len_tup, len_lst, len_scr, rb1, rb2, List.map_cons, List.map_nil, List.length_cons, List.length_nil, List.replicate, List.cons_append, List.nil_append, List.getElem?_cons_succ, List.getElem?_cons_zero, List.set_cons_succ, List.set_cons_zero, if_true, if_false, Bool.false_eq_true, Bool.not_true, Bool.not_false, e1, y1, y2, z1, z2, sl2, ec])
  have hlen : (intRange 1 arrows.length).length ≤ LIM := by simp [intRange, LIM]; omega
  have hb1 : -(2 ^ 62) ≤ (arrows.length : Int) ∧ (arrows.length : Int) < 2 ^ 62 := by omega
  have hcomp2 : ev (.comp false [("_law_k", 1)] (.name 1) (.rng (.cons (.int 1) (.cons (.bi false .len (.cons (.idx (.var 0) (.int 1)) .nil)) .nil))) .nop (.cmp .Lt (.sl false (.idx (.idx (.var 0) (.int 1)) (.bin false .Sub (.var 1) (.int 1))) .nop (.int 2)) (.sl false (.idx (.idx (.var 0) (.int 1)) (.var 1)) .nop (.int 2)))) [some (.tup [.int n, .tup arrows]), none, none] S
      = some (.ok (.lst ((intRange 1 arrows.length).map (fun t => match t with | .int j => .bl (ltB (arrows.getD (j - 1).toNat .non) (arrows.getD j.toNat .non)) | t => t))), S) := by
    have hrng : rngF [.int 1, .int (arrows.length : Int)] = some (intRange 1 arrows.length) := by
      simp only [rngF, rngBounds]
      rw [if_pos ⟨by omega, by omega, hb1.1, hb1.2⟩]
    refine comp_val (d := .tup [.non, .lst (intRange 1 arrows.length)]) (S1 := S) ?_ rfl hlen cm2
    simp only [ev_rng, rngK_some, fn_app, ex_nil, ex_skip, ex_seq, ex_expr, ex_asg, ex_par, ex_setI, ex_aug, ex_ret, ex_retN, ex_ite, bndS_ok, bndS_ite, tstS_ok, tstS_ite, thn_nx, thn_rt, thn_er, thn_none, thn_ite, fnK_rt, fnK_nx, fnK_er, fnK_ite, asgK_some, asgTg_name, asgTg_tup, asgTup_cons, asgTup_nil, putK_some, augK_int, augV_int, parK_l, ev_var, ev_gc, ev_int, ev_str, ev_bl, ev_non, ev_bin, ev_neg, ev_not, ev_cmp, ev_chain, ev_inr, ev_and, ev_or, ev_one, ev_ite, ev_nil, ev_cons, ev_tup, ev_lst, ev_dnew, ev_idx, ev_sl, ev_rev, ev_call, ev_bi, ev_isi, ev_meth, bnd_ok, bnd_none, bnd_ite, tstE_ok, tstE_ite, mrg_bl, mrg_int, notK_bl, negK_int, outB_some, outV_some, outK_val, outK_fr, outK_new, outK_ite, chainK_some, lstK_l, partK_int, nop_t, nonop_int, nonop_var, nonop_bin, nonop_neg, inrK_int, mtK_some, callK_t, varK_s, slK_nn, slK_ni, slK_in, slK_ii, b_add, b_sub, b_mul, b_fdiv, b_mod, b_pow, c_eq, c_ne, c_lt, c_le, c_gt, c_ge, bi_len, bi_abs, bi_max2, bi_min2, bi_max1, bi_min1, bi_sum, bi_all, bi_tuple, bi_list, bi_sorted, bi_int, bi_intb, bi_str, len_tup, len_lst, len_scr, rb1, rb2, List.map_cons, List.map_nil, List.length_cons, List.length_nil, List.replicate, List.cons_append, List.nil_append, List.getElem?_cons_succ, List.getElem?_cons_zero, List.set_cons_succ, List.set_cons_zero, if_true, if_false, Bool.false_eq_true, Bool.not_true, Bool.not_false, e1, hrng]
  have hall2 : allF [.lst ((intRange 1 arrows.length).map (fun t => match t with | .int j => .bl (ltB (arrows.getD (j - 1).toNat .non) (arrows.getD j.toNat .non)) | t => t))] S = some (.val (.bl (chainB arrows))) := by
    have q : (intRange 1 arrows.length).map (fun t => match t with | .int j => .bl (ltB (arrows.getD (j - 1).toNat .non) (arrows.getD j.toNat .non)) | t => t) = ((List.range (arrows.length - 1)).map fun i => ltB (arrows.getD i .non) (arrows.getD (i + 1) .non)).map T.bl := by
      simp only [intRange, List.map_map]
      have e9 : ((arrows.length : Int) - 1).toNat = arrows.length - 1 := by omega
      rw [e9]
      apply List.map_congr_left
      intro i hi
      have a1 : (1 + (i : Int) - 1).toNat = i := by omega
      have a2 : (1 + (i : Int)).toNat = i + 1 := by omega
      simp [a1, a2]
    have bm : ∀ bs : List Bool, T.bools (bs.map T.bl) = some bs := by
      intro bs
      induction bs with
      | nil => rfl
      | cons b bs ih => simp [T.bools, ih]
    rw [q]
    simp only [allF, Sto.lseq, Sto.seq, Option.bind_some, bm]
    rw [chain_pairs]
  exact ⟨_, hcomp2, hall2⟩
theorem law_web_good_eq (t : T) (S : Sto) (h : pl t = true) : F__law_web_good [t] S = some (.ok (.bl (webB t)), S) := by
  unfold F__law_web_good B__law_web_good
  cases t with
  | tup xs =>
    match xs, h with
    | [], h => simp [fn_app, ex_nil, ex_skip, ex_seq, ex_expr, ex_asg, ex_par, ex_setI, ex_aug, ex_ret, ex_retN, ex_ite, bndS_ok, bndS_ite, tstS_ok, tstS_ite, thn_nx, thn_rt, thn_er, thn_none, thn_ite, fnK_rt, fnK_nx, fnK_er, fnK_ite, asgK_some, asgTg_name, asgTg_tup, asgTup_cons, asgTup_nil, putK_some, augK_int, augV_int, parK_l, ev_var, ev_gc, ev_int, ev_str, ev_bl, ev_non, ev_bin, ev_neg, ev_not, ev_cmp, ev_chain, ev_inr, ev_and, ev_or, ev_one, ev_ite, ev_nil, ev_cons, ev_tup, ev_lst, ev_dnew, ev_idx, ev_sl, ev_rev, ev_call, ev_bi, ev_isi, ev_meth, bnd_ok, bnd_none, bnd_ite, tstE_ok, tstE_ite, mrg_bl, mrg_int, notK_bl, negK_int, outB_some, outV_some, outK_val, outK_fr, outK_new, outK_ite, chainK_some, lstK_l, partK_int, nop_t, nonop_int, nonop_var, nonop_bin, nonop_neg, inrK_int, mtK_some, callK_t, varK_s, slK_nn, slK_ni, slK_in, slK_ii, b_add, b_sub, b_mul, b_fdiv, b_mod, b_pow, c_eq, c_ne, c_lt, c_le, c_gt, c_ge, bi_len, bi_abs, bi_max2, bi_min2, bi_max1, bi_min1, bi_sum, bi_all, bi_tuple, bi_list, bi_sorted, bi_int, bi_intb, bi_str, len_tup, len_lst, len_scr, rb1, rb2, List.map_cons, List.map_nil, List.length_cons, List.length_nil, List.replicate, List.cons_append, List.nil_append, List.getElem?_cons_succ, List.getElem?_cons_zero, List.set_cons_succ, List.set_cons_zero, if_true, if_false, Bool.false_eq_true, Bool.not_true, Bool.not_false, isiF, Sto.ty, isTy, lenF, Sto.seq, webB]
    | [a], h => simp [fn_app, ex_nil, ex_skip, ex_seq, ex_expr, ex_asg, ex_par, ex_setI, ex_aug, ex_ret, ex_retN, ex_ite, bndS_ok, bndS_ite, tstS_ok, tstS_ite, thn_nx, thn_rt, thn_er, thn_none, thn_ite, fnK_rt, fnK_nx, fnK_er, fnK_ite, asgK_some, asgTg_name, asgTg_tup, asgTup_cons, asgTup_nil, putK_some, augK_int, augV_int, parK_l, ev_var, ev_gc, ev_int, ev_str, ev_bl, ev_non, ev_bin, ev_neg, ev_not, ev_cmp, ev_chain, ev_inr, ev_and, ev_or, ev_one, ev_ite, ev_nil, ev_cons, ev_tup, ev_lst, ev_dnew, ev_idx, ev_sl, ev_rev, ev_call, ev_bi, ev_isi, ev_meth, bnd_ok, bnd_none, bnd_ite, tstE_ok, tstE_ite, mrg_bl, mrg_int, notK_bl, negK_int, outB_some, outV_some, outK_val, outK_fr, outK_new, outK_ite, chainK_some, lstK_l, partK_int, nop_t, nonop_int, nonop_var, nonop_bin, nonop_neg, inrK_int, mtK_some, callK_t, varK_s, slK_nn, slK_ni, slK_in, slK_ii, b_add, b_sub, b_mul, b_fdiv, b_mod, b_pow, c_eq, c_ne, c_lt, c_le, c_gt, c_ge, bi_len, bi_abs, bi_max2, bi_min2, bi_max1, bi_min1, bi_sum, bi_all, bi_tuple, bi_list, bi_sorted, bi_int, bi_intb, bi_str, len_tup, len_lst, len_scr, rb1, rb2, List.map_cons, List.map_nil, List.length_cons, List.length_nil, List.replicate, List.cons_append, List.nil_append, List.getElem?_cons_succ, List.getElem?_cons_zero, List.set_cons_succ, List.set_cons_zero, if_true, if_false, Bool.false_eq_true, Bool.not_true, Bool.not_false, isiF, Sto.ty, isTy, lenF, Sto.seq, webB]
    | [a, b], h =>
      simp only [pl, pls, Bool.and_true, Bool.and_eq_true] at h
      obtain ⟨ha, hb⟩ := h
      have ea := law_whole_eq a S ha
      by_cases hw : isW a = true
      · cases a <;> first | (simp [isW] at hw; done) | skip
        rename_i n
        have e0 : idxF (.tup [.int n, b]) (.int 0) S = some (.int n) := by simp [idxF, Sto.seq, L2.atI, L2.ixN]
        have e1 : idxF (.tup [.int n, b]) (.int 1) S = some b := by simp [idxF, Sto.seq, L2.atI, L2.ixN]
        by_cases hr : 1 ≤ n ∧ n < 9
        · cases b with
          | tup arrows =>
            have hpl : pls arrows = true := by simpa [pl] using hb
            by_cases h3 : (24 : Int) < arrows.length
            · have : ¬ (arrows.length ≤ 24) := by omega
              simp [fn_app, ex_nil, ex_skip, ex_seq, ex_expr, ex_asg, ex_par, ex_setI, ex_aug, ex_ret, ex_retN, ex_ite, bndS_ok, bndS_ite, tstS_ok, tstS_ite, thn_nx, thn_rt, thn_er, thn_none, thn_ite, fnK_rt, fnK_nx, fnK_er, fnK_ite, asgK_some, asgTg_name, asgTg_tup, asgTup_cons, asgTup_nil, putK_some, augK_int, augV_int, parK_l, ev_var, ev_gc, ev_int, ev_str, ev_bl, ev_non, ev_bin, ev_neg, ev_not, ev_cmp, ev_chain, ev_inr, ev_and, ev_or, ev_one, ev_ite, ev_nil, ev_cons, ev_tup, ev_lst, ev_dnew, ev_idx, ev_sl, ev_rev, ev_call, ev_bi, ev_isi, ev_meth, bnd_ok, bnd_none, bnd_ite, tstE_ok, tstE_ite, mrg_bl, mrg_int, notK_bl, negK_int, outB_some, outV_some, outK_val, outK_fr, outK_new, outK_ite, chainK_some, lstK_l, partK_int, nop_t, nonop_int, nonop_var, nonop_bin, nonop_neg, inrK_int, mtK_some, callK_t, varK_s, slK_nn, slK_ni, slK_in, slK_ii, b_add, b_sub, b_mul, b_fdiv, b_mod, b_pow, c_eq, c_ne, c_lt, c_le, c_gt, c_ge, bi_len, bi_abs, bi_max2, bi_min2, bi_max1, bi_min1, bi_sum, bi_all, bi_tuple, bi_list, bi_sorted, bi_int, bi_intb, bi_str, len_tup, len_lst, len_scr, rb1, rb2, List.map_cons, List.map_nil, List.length_cons, List.length_nil, List.replicate, List.cons_append, List.nil_append, List.getElem?_cons_succ, List.getElem?_cons_zero, List.set_cons_succ, List.set_cons_zero, if_true, if_false, Bool.false_eq_true, Bool.not_true, Bool.not_false, isiF, Sto.ty, isTy, lenF, Sto.seq, ea, isW, e0, e1, hr, h3, webB, this]
            · have q1 : 1 ≤ n := hr.1
              have q2 : n ≤ 8 := by omega
              have q3 : arrows.length ≤ 24 := by omega
              have hcomp := lw_all n hr arrows S hpl q3
              have hall : allF [.lst (arrows.map fun t => .bl (arrowB n t))] S = some (.val (.bl (arrows.all (arrowB n)))) := by
                simp [allF, Sto.lseq, Sto.seq, bools_map]
              by_cases hA : arrows.all (arrowB n) = true
              · obtain ⟨ys, hcomp2, hall2⟩ := lw_pairs n arrows S q3 hA
                simp [fn_app, ex_nil, ex_skip, ex_seq, ex_expr, ex_asg, ex_par, ex_setI, ex_aug, ex_ret, ex_retN, ex_ite, bndS_ok, bndS_ite, tstS_ok, tstS_ite, thn_nx, thn_rt, thn_er, thn_none, thn_ite, fnK_rt, fnK_nx, fnK_er, fnK_ite, asgK_some, asgTg_name, asgTg_tup, asgTup_cons, asgTup_nil, putK_some, augK_int, augV_int, parK_l, ev_var, ev_gc, ev_int, ev_str, ev_bl, ev_non, ev_bin, ev_neg, ev_not, ev_cmp, ev_chain, ev_inr, ev_and, ev_or, ev_one, ev_ite, ev_nil, ev_cons, ev_tup, ev_lst, ev_dnew, ev_idx, ev_sl, ev_rev, ev_call, ev_bi, ev_isi, ev_meth, bnd_ok, bnd_none, bnd_ite, tstE_ok, tstE_ite, mrg_bl, mrg_int, notK_bl, negK_int, outB_some, outV_some, outK_val, outK_fr, outK_new, outK_ite, chainK_some, lstK_l, partK_int, nop_t, nonop_int, nonop_var, nonop_bin, nonop_neg, inrK_int, mtK_some, callK_t, varK_s, slK_nn, slK_ni, slK_in, slK_ii, b_add, b_sub, b_mul, b_fdiv, b_mod, b_pow, c_eq, c_ne, c_lt, c_le, c_gt, c_ge, bi_len, bi_abs, bi_max2, bi_min2, bi_max1, bi_min1, bi_sum, bi_all, bi_tuple, bi_list, bi_sorted, bi_int, bi_intb, bi_str, len_tup, len_lst, len_scr, rb1, rb2, List.map_cons, List.map_nil, List.length_cons, List.length_nil, List.replicate, List.cons_append, List.nil_append, List.getElem?_cons_succ, List.getElem?_cons_zero, List.set_cons_succ, List.set_cons_zero, if_true, if_false, Bool.false_eq_true, Bool.not_true, Bool.not_false, isiF, Sto.ty, isTy, lenF, Sto.seq, ea, isW, e0, e1, hr, h3, hcomp, hall, hA, hcomp2, hall2, webB, webC_none, q1, q2, q3]
              · have hA : arrows.all (arrowB n) = false := by simpa using hA
                have hn : webB (.tup [.int n, .tup arrows]) = false := by simp [webB, webC_none, hA]
                rw [hn]
                simp [fn_app, ex_nil, ex_skip, ex_seq, ex_expr, ex_asg, ex_par, ex_setI, ex_aug, ex_ret, ex_retN, ex_ite, bndS_ok, bndS_ite, tstS_ok, tstS_ite, thn_nx, thn_rt, thn_er, thn_none, thn_ite, fnK_rt, fnK_nx, fnK_er, fnK_ite, asgK_some, asgTg_name, asgTg_tup, asgTup_cons, asgTup_nil, putK_some, augK_int, augV_int, parK_l, ev_var, ev_gc, ev_int, ev_str, ev_bl, ev_non, ev_bin, ev_neg, ev_not, ev_cmp, ev_chain, ev_inr, ev_and, ev_or, ev_one, ev_ite, ev_nil, ev_cons, ev_tup, ev_lst, ev_dnew, ev_idx, ev_sl, ev_rev, ev_call, ev_bi, ev_isi, ev_meth, bnd_ok, bnd_none, bnd_ite, tstE_ok, tstE_ite, mrg_bl, mrg_int, notK_bl, negK_int, outB_some, outV_some, outK_val, outK_fr, outK_new, outK_ite, chainK_some, lstK_l, partK_int, nop_t, nonop_int, nonop_var, nonop_bin, nonop_neg, inrK_int, mtK_some, callK_t, varK_s, slK_nn, slK_ni, slK_in, slK_ii, b_add, b_sub, b_mul, b_fdiv, b_mod, b_pow, c_eq, c_ne, c_lt, c_le, c_gt, c_ge, bi_len, bi_abs, bi_max2, bi_min2, bi_max1, bi_min1, bi_sum, bi_all, bi_tuple, bi_list, bi_sorted, bi_int, bi_intb, bi_str, len_tup, len_lst, len_scr, rb1, rb2, List.map_cons, List.map_nil, List.length_cons, List.length_nil, List.replicate, List.cons_append, List.nil_append, List.getElem?_cons_succ, List.getElem?_cons_zero, List.set_cons_succ, List.set_cons_zero, if_true, if_false, Bool.false_eq_true, Bool.not_true, Bool.not_false, isiF, Sto.ty, isTy, lenF, Sto.seq, ea, isW, e0, e1, hr, h3, hcomp, hall, hA]
          | ref _ => simp [pl] at hb
          | scr _ => simp [pl] at hb
          | _ => simp [fn_app, ex_nil, ex_skip, ex_seq, ex_expr, ex_asg, ex_par, ex_setI, ex_aug, ex_ret, ex_retN, ex_ite, bndS_ok, bndS_ite, tstS_ok, tstS_ite, thn_nx, thn_rt, thn_er, thn_none, thn_ite, fnK_rt, fnK_nx, fnK_er, fnK_ite, asgK_some, asgTg_name, asgTg_tup, asgTup_cons, asgTup_nil, putK_some, augK_int, augV_int, parK_l, ev_var, ev_gc, ev_int, ev_str, ev_bl, ev_non, ev_bin, ev_neg, ev_not, ev_cmp, ev_chain, ev_inr, ev_and, ev_or, ev_one, ev_ite, ev_nil, ev_cons, ev_tup, ev_lst, ev_dnew, ev_idx, ev_sl, ev_rev, ev_call, ev_bi, ev_isi, ev_meth, bnd_ok, bnd_none, bnd_ite, tstE_ok, tstE_ite, mrg_bl, mrg_int, notK_bl, negK_int, outB_some, outV_some, outK_val, outK_fr, outK_new, outK_ite, chainK_some, lstK_l, partK_int, nop_t, nonop_int, nonop_var, nonop_bin, nonop_neg, inrK_int, mtK_some, callK_t, varK_s, slK_nn, slK_ni, slK_in, slK_ii, b_add, b_sub, b_mul, b_fdiv, b_mod, b_pow, c_eq, c_ne, c_lt, c_le, c_gt, c_ge, bi_len, bi_abs, bi_max2, bi_min2, bi_max1, bi_min1, bi_sum, bi_all, bi_tuple, bi_list, bi_sorted, bi_int, bi_intb, bi_str, len_tup, len_lst, len_scr, rb1, rb2, List.map_cons, List.map_nil, List.length_cons, List.length_nil, List.replicate, List.cons_append, List.nil_append, List.getElem?_cons_succ, List.getElem?_cons_zero, List.set_cons_succ, List.set_cons_zero, if_true, if_false, Bool.false_eq_true, Bool.not_true, Bool.not_false, isiF, Sto.ty, isTy, lenF, Sto.seq, ea, isW, e0, e1, hr, webB]
        · have hn : webB (.tup [.int n, b]) = false := by
            unfold webB
            split
            · rename_i e; cases e
              have : ¬ (1 ≤ n ∧ n ≤ 8) := by omega
              simp [this]
            · rfl
          rw [hn]
          simp [fn_app, ex_nil, ex_skip, ex_seq, ex_expr, ex_asg, ex_par, ex_setI, ex_aug, ex_ret, ex_retN, ex_ite, bndS_ok, bndS_ite, tstS_ok, tstS_ite, thn_nx, thn_rt, thn_er, thn_none, thn_ite, fnK_rt, fnK_nx, fnK_er, fnK_ite, asgK_some, asgTg_name, asgTg_tup, asgTup_cons, asgTup_nil, putK_some, augK_int, augV_int, parK_l, ev_var, ev_gc, ev_int, ev_str, ev_bl, ev_non, ev_bin, ev_neg, ev_not, ev_cmp, ev_chain, ev_inr, ev_and, ev_or, ev_one, ev_ite, ev_nil, ev_cons, ev_tup, ev_lst, ev_dnew, ev_idx, ev_sl, ev_rev, ev_call, ev_bi, ev_isi, ev_meth, bnd_ok, bnd_none, bnd_ite, tstE_ok, tstE_ite, mrg_bl, mrg_int, notK_bl, negK_int, outB_some, outV_some, outK_val, outK_fr, outK_new, outK_ite, chainK_some, lstK_l, partK_int, nop_t, nonop_int, nonop_var, nonop_bin, nonop_neg, inrK_int, mtK_some, callK_t, varK_s, slK_nn, slK_ni, slK_in, slK_ii, b_add, b_sub, b_mul, b_fdiv, b_mod, b_pow, c_eq, c_ne, c_lt, c_le, c_gt, c_ge, bi_len, bi_abs, bi_max2, bi_min2, bi_max1, bi_min1, bi_sum, bi_all, bi_tuple, bi_list, bi_sorted, bi_int, bi_intb, bi_str, len_tup, len_lst, len_scr, rb1, rb2, List.map_cons, List.map_nil, List.length_cons, List.length_nil, List.replicate, List.cons_append, List.nil_append, List.getElem?_cons_succ, List.getElem?_cons_zero, List.set_cons_succ, List.set_cons_zero, if_true, if_false, Bool.false_eq_true, Bool.not_true, Bool.not_false, isiF, Sto.ty, isTy, lenF, Sto.seq, ea, isW, e0, e1, hr]
      · have hw : isW a = false := by simpa using hw
        have e0 : idxF (.tup [a, b]) (.int 0) S = some a := by simp [idxF, Sto.seq, L2.atI, L2.ixN]
        rw [webB_no hw]
        simp [fn_app, ex_nil, ex_skip, ex_seq, ex_expr, ex_asg, ex_par, ex_setI, ex_aug, ex_ret, ex_retN, ex_ite, bndS_ok, bndS_ite, tstS_ok, tstS_ite, thn_nx, thn_rt, thn_er, thn_none, thn_ite, fnK_rt, fnK_nx, fnK_er, fnK_ite, asgK_some, asgTg_name, asgTg_tup, asgTup_cons, asgTup_nil, putK_some, augK_int, augV_int, parK_l, ev_var, ev_gc, ev_int, ev_str, ev_bl, ev_non, ev_bin, ev_neg, ev_not, ev_cmp, ev_chain, ev_inr, ev_and, ev_or, ev_one, ev_ite, ev_nil, ev_cons, ev_tup, ev_lst, ev_dnew, ev_idx, ev_sl, ev_rev, ev_call, ev_bi, ev_isi, ev_meth, bnd_ok, bnd_none, bnd_ite, tstE_ok, tstE_ite, mrg_bl, mrg_int, notK_bl, negK_int, outB_some, outV_some, outK_val, outK_fr, outK_new, outK_ite, chainK_some, lstK_l, partK_int, nop_t, nonop_int, nonop_var, nonop_bin, nonop_neg, inrK_int, mtK_some, callK_t, varK_s, slK_nn, slK_ni, slK_in, slK_ii, b_add, b_sub, b_mul, b_fdiv, b_mod, b_pow, c_eq, c_ne, c_lt, c_le, c_gt, c_ge, bi_len, bi_abs, bi_max2, bi_min2, bi_max1, bi_min1, bi_sum, bi_all, bi_tuple, bi_list, bi_sorted, bi_int, bi_intb, bi_str, len_tup, len_lst, len_scr, rb1, rb2, List.map_cons, List.map_nil, List.length_cons, List.length_nil, List.replicate, List.cons_append, List.nil_append, List.getElem?_cons_succ, List.getElem?_cons_zero, List.set_cons_succ, List.set_cons_zero, if_true, if_false, Bool.false_eq_true, Bool.not_true, Bool.not_false, isiF, Sto.ty, isTy, lenF, Sto.seq, e0, ea, hw]
    | a :: b :: c :: r, h =>
      have e : ¬ ((r.length : Int) + 1 + 1 + 1 = 2) := by omega
      simp [fn_app, ex_nil, ex_skip, ex_seq, ex_expr, ex_asg, ex_par, ex_setI, ex_aug, ex_ret, ex_retN, ex_ite, bndS_ok, bndS_ite, tstS_ok, tstS_ite, thn_nx, thn_rt, thn_er, thn_none, thn_ite, fnK_rt, fnK_nx, fnK_er, fnK_ite, asgK_some, asgTg_name, asgTg_tup, asgTup_cons, asgTup_nil, putK_some, augK_int, augV_int, parK_l, ev_var, ev_gc, ev_int, ev_str, ev_bl, ev_non, ev_bin, ev_neg, ev_not, ev_cmp, ev_chain, ev_inr, ev_and, ev_or, ev_one, ev_ite, ev_nil, ev_cons, ev_tup, ev_lst, ev_dnew, ev_idx, ev_sl, ev_rev, ev_call, ev_bi, ev_isi, ev_meth, bnd_ok, bnd_none, bnd_ite, tstE_ok, tstE_ite, mrg_bl, mrg_int, notK_bl, negK_int, outB_some, outV_some, outK_val, outK_fr, outK_new, outK_ite, chainK_some, lstK_l, partK_int, nop_t, nonop_int, nonop_var, nonop_bin, nonop_neg, inrK_int, mtK_some, callK_t, varK_s, slK_nn, slK_ni, slK_in, slK_ii, b_add, b_sub, b_mul, b_fdiv, b_mod, b_pow, c_eq, c_ne, c_lt, c_le, c_gt, c_ge, bi_len, bi_abs, bi_max2, bi_min2, bi_max1, bi_min1, bi_sum, bi_all, bi_tuple, bi_list, bi_sorted, bi_int, bi_intb, bi_str, len_tup, len_lst, len_scr, rb1, rb2, List.map_cons, List.map_nil, List.length_cons, List.length_nil, List.replicate, List.cons_append, List.nil_append, List.getElem?_cons_succ, List.getElem?_cons_zero, List.set_cons_succ, List.set_cons_zero, if_true, if_false, Bool.false_eq_true, Bool.not_true, Bool.not_false, isiF, Sto.ty, isTy, lenF, Sto.seq, webB, e]
  | ref _ => simp [pl] at h
  | scr _ => simp [pl] at h
  | _ => simp [fn_app, ex_nil, ex_skip, ex_seq, ex_expr, ex_asg, ex_par, ex_setI, ex_aug, ex_ret, ex_retN, ex_ite, bndS_ok, bndS_ite, tstS_ok, tstS_ite, thn_nx, thn_rt, thn_er, thn_none, thn_ite, fnK_rt, fnK_nx, fnK_er, fnK_ite, asgK_some, asgTg_name, asgTg_tup, asgTup_cons, asgTup_nil, putK_some, augK_int, augV_int, parK_l, ev_var, ev_gc, ev_int, ev_str, ev_bl, ev_non, ev_bin, ev_neg, ev_not, ev_cmp, ev_chain, ev_inr, ev_and, ev_or, ev_one, ev_ite, ev_nil, ev_cons, ev_tup, ev_lst, ev_dnew, ev_idx, ev_sl, ev_rev, ev_call, ev_bi, ev_isi, ev_meth, bnd_ok, bnd_none, bnd_ite, tstE_ok, tstE_ite, mrg_bl, mrg_int, notK_bl, negK_int, outB_some, outV_some, outK_val, outK_fr, outK_new, outK_ite, chainK_some, lstK_l, partK_int, nop_t, nonop_int, nonop_var, nonop_bin, nonop_neg, inrK_int, mtK_some, callK_t, varK_s, slK_nn, slK_ni, slK_in, slK_ii, b_add, b_sub, b_mul, b_fdiv, b_mod, b_pow, c_eq, c_ne, c_lt, c_le, c_gt, c_ge, bi_len, bi_abs, bi_max2, bi_min2, bi_max1, bi_min1, bi_sum, bi_all, bi_tuple, bi_list, bi_sorted, bi_int, bi_intb, bi_str, len_tup, len_lst, len_scr, rb1, rb2, List.map_cons, List.map_nil, List.length_cons, List.length_nil, List.replicate, List.cons_append, List.nil_append, List.getElem?_cons_succ, List.getElem?_cons_zero, List.set_cons_succ, List.set_cons_zero, if_true, if_false, Bool.false_eq_true, Bool.not_true, Bool.not_false, isiF, Sto.ty, isTy, webB]
end H

namespace H
open PySem PySem.Spec L2 TL
theorem log2_lt {n k : Nat} (h : n < 2 ^ k) (hk : 0 < k) : n.log2 < k := by
  by_cases h0 : n = 0
  · subst h0; simpa using hk
  · exact (Nat.log2_lt h0).mpr h
def nextV (s : Int) : Int := (((s + 7919) % 2147483647) * ((s + 7919) % 2147483647) + 48271 * ((s + 7919) % 2147483647) + 12345) % 2147483629
theorem next_eq (s : Int) (S : Sto) : F__law_next [.int s] S = some (.ok (.int (nextV s)), S) := by
  unfold F__law_next B__law_next
  have h0 : 0 ≤ (s + 7919) % 2147483647 := Int.emod_nonneg _ (by decide)
  have h1 : (s + 7919) % 2147483647 < 2147483647 := Int.emod_lt_of_pos _ (by decide)
  have hb : ((s + 7919) % 2147483647).natAbs.log2 < 32 := log2_lt (by omega) (by decide)
  have g1 : ((s + 7919) % 2147483647).natAbs.log2 + ((s + 7919) % 2147483647).natAbs.log2 < 1000000 := by omega
  have hc : (48271 : Int).natAbs.log2 < 32 := log2_lt (by decide) (by decide)
  have g2 : (48271 : Int).natAbs.log2 + ((s + 7919) % 2147483647).natAbs.log2 < 1000000 := by omega
  have p1 : (0 : Int) < 2147483647 := by decide
  have p2 : (0 : Int) < 2147483629 := by decide
  simp only [fn_app, ex_nil, ex_skip, ex_seq, ex_expr, ex_asg, ex_par, ex_setI, ex_aug, ex_ret, ex_retN, ex_ite, bndS_ok, bndS_ite, tstS_ok, tstS_ite, thn_nx, thn_rt, thn_er, thn_none, thn_ite, fnK_rt, fnK_nx, fnK_er, fnK_ite, asgK_some, asgTg_name, asgTg_tup, asgTup_cons, asgTup_nil, putK_some, augK_int, augV_int, parK_l, ev_var, ev_gc, ev_int, ev_str, ev_bl, ev_non, ev_bin, ev_neg, ev_not, ev_cmp, ev_chain, ev_inr, ev_and, ev_or, ev_one, ev_ite, ev_nil, ev_cons, ev_tup, ev_lst, ev_dnew, ev_idx, ev_sl, ev_rev, ev_call, ev_bi, ev_isi, ev_meth, bnd_ok, bnd_none, bnd_ite, tstE_ok, tstE_ite, mrg_bl, mrg_int, notK_bl, negK_int, outB_some, outV_some, outK_val, outK_fr, outK_new, outK_ite, chainK_some, lstK_l, partK_int, nop_t, nonop_int, nonop_var, nonop_bin, nonop_neg, inrK_int, mtK_some, callK_t, varK_s, slK_nn, slK_ni, slK_in, slK_ii, b_add, b_sub, b_mul, b_fdiv, b_mod, b_pow, c_eq, c_ne, c_lt, c_le, c_gt, c_ge, bi_len, bi_abs, bi_max2, bi_min2, bi_max1, bi_min1, bi_sum, bi_all, bi_tuple, bi_list, bi_sorted, bi_int, bi_intb, bi_str, len_tup, len_lst, len_scr, rb1, rb2, List.map_cons, List.map_nil, List.length_cons, List.length_nil, List.replicate, List.cons_append, List.nil_append, List.getElem?_cons_succ, List.getElem?_cons_zero, List.set_cons_succ, List.set_cons_zero, if_true, if_false, Bool.false_eq_true, Bool.not_true, Bool.not_false, p1, g1, g2, p2, nextV, Nat.sub_self, Nat.add_sub_cancel, List.append_nil]
def pen (a b c : Int) : Ob := .lst [.int a, .int b, .int c]
theorem idx_ref {S : Sto} {i : Nat} {xs : List T} {k : Int} {t : T} (h : S[i]? = some (.lst xs)) (e : L2.atI xs k = some t) : idxF (.ref i) (.int k) S = some t := by
  simp only [idxF, Sto.seq, h, e]
theorem put_ref {S : Sto} {i : Nat} {xs : List T} {k : Int} {j : Nat} {v : T} (h : S[i]? = some (.lst xs)) (e : L2.ixN xs.length k = some j) : putI v (.ref i) (.int k) S = some (S.set i (.lst (xs.set j v))) := by
  simp only [putI, h, e]
theorem draw_ex {S : Sto} {i : Nat} {a b c m : Int} (h : S[i]? = some (pen a b c)) (hm : 0 < m) (hl : m.natAbs.log2 < 9000) : ∃ a' c' d, F__law_draw [.ref i, .int m] S = some (.ok (.int d), S.set i (pen a' b c')) ∧ 0 ≤ d ∧ d < m := by
  unfold F__law_draw B__law_draw
  have i0 : idxF (.ref i) (.int 0) S = some (.int a) := idx_ref h rfl
  have i1 : idxF (.ref i) (.int 1) S = some (.int b) := idx_ref h rfl
  have i2 : idxF (.ref i) (.int 2) S = some (.int c) := idx_ref h rfl
  have hi : i < S.length := (List.getElem?_eq_some_iff.mp h).1
  by_cases hb : b = 1
  · subst hb
    refine ⟨a / m, c, a % m, ?_, Int.emod_nonneg _ (by omega), Int.emod_lt_of_pos _ hm⟩
    have p0 : putI (.int (a / m)) (.ref i) (.int 0) S = some (S.set i (pen (a / m) 1 c)) := put_ref (j := 0) h rfl
    simp [fn_app, ex_nil, ex_skip, ex_seq, ex_expr, ex_asg, ex_par, ex_setI, ex_aug, ex_ret, ex_retN, ex_ite, bndS_ok, bndS_ite, tstS_ok, tstS_ite, thn_nx, thn_rt, thn_er, thn_none, thn_ite, fnK_rt, fnK_nx, fnK_er, fnK_ite, asgK_some, asgTg_name, asgTg_tup, asgTup_cons, asgTup_nil, putK_some, augK_int, augV_int, parK_l, ev_var, ev_gc, ev_int, ev_str, ev_bl, ev_non, ev_bin, ev_neg, ev_not, ev_cmp, ev_chain, ev_inr, ev_and, ev_or, ev_one, ev_ite, ev_nil, ev_cons, ev_tup, ev_lst, ev_dnew, ev_idx, ev_sl, ev_rev, ev_call, ev_bi, ev_isi, ev_meth, bnd_ok, bnd_none, bnd_ite, tstE_ok, tstE_ite, mrg_bl, mrg_int, notK_bl, negK_int, outB_some, outV_some, outK_val, outK_fr, outK_new, outK_ite, chainK_some, lstK_l, partK_int, nop_t, nonop_int, nonop_var, nonop_bin, nonop_neg, inrK_int, mtK_some, callK_t, varK_s, slK_nn, slK_ni, slK_in, slK_ii, b_add, b_sub, b_mul, b_fdiv, b_mod, b_pow, c_eq, c_ne, c_lt, c_le, c_gt, c_ge, bi_len, bi_abs, bi_max2, bi_min2, bi_max1, bi_min1, bi_sum, bi_all, bi_tuple, bi_list, bi_sorted, bi_int, bi_intb, bi_str, len_tup, len_lst, len_scr, rb1, rb2, List.map_cons, List.map_nil, List.length_cons, List.length_nil, List.replicate, List.cons_append, List.nil_append, List.getElem?_cons_succ, List.getElem?_cons_zero, List.set_cons_succ, List.set_cons_zero, if_true, if_false, Bool.false_eq_true, Bool.not_true, Bool.not_false, i0, i1, i2, hm, hl, p0]
  · refine ⟨a, nextV (nextV c + 7), nextV (nextV c + 7) / 64 % m, ?_, Int.emod_nonneg _ (by omega), Int.emod_lt_of_pos _ hm⟩
    have p2 : putI (.int (nextV (nextV c + 7))) (.ref i) (.int 2) S = some (S.set i (pen a b (nextV (nextV c + 7)))) := put_ref (j := 2) h rfl
    have h' : (S.set i (pen a b (nextV (nextV c + 7))))[i]? = some (pen a b (nextV (nextV c + 7))) := List.getElem?_set_self hi
    have j2 : idxF (.ref i) (.int 2) (S.set i (pen a b (nextV (nextV c + 7)))) = some (.int (nextV (nextV c + 7))) := idx_ref h' rfl
    have g64 : (64 : Nat).log2 < 9000 := by have := log2_lt (n := 64) (k := 7) (by decide) (by decide); omega
    simp [fn_app, ex_nil, ex_skip, ex_seq, ex_expr, ex_asg, ex_par, ex_setI, ex_aug, ex_ret, ex_retN, ex_ite, bndS_ok, bndS_ite, tstS_ok, tstS_ite, thn_nx, thn_rt, thn_er, thn_none, thn_ite, fnK_rt, fnK_nx, fnK_er, fnK_ite, asgK_some, asgTg_name, asgTg_tup, asgTup_cons, asgTup_nil, putK_some, augK_int, augV_int, parK_l, ev_var, ev_gc, ev_int, ev_str, ev_bl, ev_non, ev_bin, ev_neg, ev_not, ev_cmp, ev_chain, ev_inr, ev_and, ev_or, ev_one, ev_ite, ev_nil, ev_cons, ev_tup, ev_lst, ev_dnew, ev_idx, ev_sl, ev_rev, ev_call, ev_bi, ev_isi, ev_meth, bnd_ok, bnd_none, bnd_ite, tstE_ok, tstE_ite, mrg_bl, mrg_int, notK_bl, negK_int, outB_some, outV_some, outK_val, outK_fr, outK_new, outK_ite, chainK_some, lstK_l, partK_int, nop_t, nonop_int, nonop_var, nonop_bin, nonop_neg, inrK_int, mtK_some, callK_t, varK_s, slK_nn, slK_ni, slK_in, slK_ii, b_add, b_sub, b_mul, b_fdiv, b_mod, b_pow, c_eq, c_ne, c_lt, c_le, c_gt, c_ge, bi_len, bi_abs, bi_max2, bi_min2, bi_max1, bi_min1, bi_sum, bi_all, bi_tuple, bi_list, bi_sorted, bi_int, bi_intb, bi_str, len_tup, len_lst, len_scr, rb1, rb2, List.map_cons, List.map_nil, List.length_cons, List.length_nil, List.replicate, List.cons_append, List.nil_append, List.getElem?_cons_succ, List.getElem?_cons_zero, List.set_cons_succ, List.set_cons_zero, if_true, if_false, Bool.false_eq_true, Bool.not_true, Bool.not_false, i0, i1, i2, hm, hb, p2, j2, next_eq, g64]
theorem pen_of_ex (x : Int) (S : Sto) : ∃ a b c, F__law_pen_of [.int x] S = some (.ok (.ref S.length), S ++ [pen a b c]) := by
  unfold F__law_pen_of B__law_pen_of
  refine ⟨if 0 - x > x then 0 - x else x, if 10 ^ 18 ≤ (if 0 - x > x then 0 - x else x) then 1 else 0, (if 0 - x > x then 0 - x else x) % 1000003, ?_⟩
  simp [fn_app, ex_nil, ex_skip, ex_seq, ex_expr, ex_asg, ex_par, ex_setI, ex_aug, ex_ret, ex_retN, ex_ite, bndS_ok, bndS_ite, tstS_ok, tstS_ite, thn_nx, thn_rt, thn_er, thn_none, thn_ite, fnK_rt, fnK_nx, fnK_er, fnK_ite, asgK_some, asgTg_name, asgTg_tup, asgTup_cons, asgTup_nil, putK_some, augK_int, augV_int, parK_l, ev_var, ev_gc, ev_int, ev_str, ev_bl, ev_non, ev_bin, ev_neg, ev_not, ev_cmp, ev_chain, ev_inr, ev_and, ev_or, ev_one, ev_ite, ev_nil, ev_cons, ev_tup, ev_lst, ev_dnew, ev_idx, ev_sl, ev_rev, ev_call, ev_bi, ev_isi, ev_meth, bnd_ok, bnd_none, bnd_ite, tstE_ok, tstE_ite, mrg_bl, mrg_int, notK_bl, negK_int, outB_some, outV_some, outK_val, outK_fr, outK_new, outK_ite, chainK_some, lstK_l, partK_int, nop_t, nonop_int, nonop_var, nonop_bin, nonop_neg, inrK_int, mtK_some, callK_t, varK_s, slK_nn, slK_ni, slK_in, slK_ii, b_add, b_sub, b_mul, b_fdiv, b_mod, b_pow, c_eq, c_ne, c_lt, c_le, c_gt, c_ge, bi_len, bi_abs, bi_max2, bi_min2, bi_max1, bi_min1, bi_sum, bi_all, bi_tuple, bi_list, bi_sorted, bi_int, bi_intb, bi_str, len_tup, len_lst, len_scr, rb1, rb2, List.map_cons, List.map_nil, List.length_cons, List.length_nil, List.replicate, List.cons_append, List.nil_append, List.getElem?_cons_succ, List.getElem?_cons_zero, List.set_cons_succ, List.set_cons_zero, if_true, if_false, Bool.false_eq_true, Bool.not_true, Bool.not_false, LIM, pen]
theorem cell_at_eq (ns : List Int) (k : Int) (hk : 0 ≤ k) (S : Sto) : F__law_cell_at [.scr ns, .int k] S = some (.ok (.int (ns.getD k.toNat 0)), S) := by
  unfold F__law_cell_at B__law_cell_at
  by_cases h : k < ns.length
  · have hi : idxF (.scr ns) (.int k) S = some (.int (ns.getD k.toNat 0)) := by
      have h2 : k.toNat < ns.length := by omega
      simp only [idxF, Sto.seq, L2.atI, L2.ixN, List.length_map]
      rw [if_pos hk, if_pos h]
      simp [h2]
    simp [fn_app, ex_nil, ex_skip, ex_seq, ex_expr, ex_asg, ex_par, ex_setI, ex_aug, ex_ret, ex_retN, ex_ite, bndS_ok, bndS_ite, tstS_ok, tstS_ite, thn_nx, thn_rt, thn_er, thn_none, thn_ite, fnK_rt, fnK_nx, fnK_er, fnK_ite, asgK_some, asgTg_name, asgTg_tup, asgTup_cons, asgTup_nil, putK_some, augK_int, augV_int, parK_l, ev_var, ev_gc, ev_int, ev_str, ev_bl, ev_non, ev_bin, ev_neg, ev_not, ev_cmp, ev_chain, ev_inr, ev_and, ev_or, ev_one, ev_ite, ev_nil, ev_cons, ev_tup, ev_lst, ev_dnew, ev_idx, ev_sl, ev_rev, ev_call, ev_bi, ev_isi, ev_meth, bnd_ok, bnd_none, bnd_ite, tstE_ok, tstE_ite, mrg_bl, mrg_int, notK_bl, negK_int, outB_some, outV_some, outK_val, outK_fr, outK_new, outK_ite, chainK_some, lstK_l, partK_int, nop_t, nonop_int, nonop_var, nonop_bin, nonop_neg, inrK_int, mtK_some, callK_t, varK_s, slK_nn, slK_ni, slK_in, slK_ii, b_add, b_sub, b_mul, b_fdiv, b_mod, b_pow, c_eq, c_ne, c_lt, c_le, c_gt, c_ge, bi_len, bi_abs, bi_max2, bi_min2, bi_max1, bi_min1, bi_sum, bi_all, bi_tuple, bi_list, bi_sorted, bi_int, bi_intb, bi_str, len_tup, len_lst, len_scr, rb1, rb2, List.map_cons, List.map_nil, List.length_cons, List.length_nil, List.replicate, List.cons_append, List.nil_append, List.getElem?_cons_succ, List.getElem?_cons_zero, List.set_cons_succ, List.set_cons_zero, if_true, if_false, Bool.false_eq_true, Bool.not_true, Bool.not_false, h, hi]
  · have h2 : ns.length ≤ k.toNat := by omega
    simp [fn_app, ex_nil, ex_skip, ex_seq, ex_expr, ex_asg, ex_par, ex_setI, ex_aug, ex_ret, ex_retN, ex_ite, bndS_ok, bndS_ite, tstS_ok, tstS_ite, thn_nx, thn_rt, thn_er, thn_none, thn_ite, fnK_rt, fnK_nx, fnK_er, fnK_ite, asgK_some, asgTg_name, asgTg_tup, asgTup_cons, asgTup_nil, putK_some, augK_int, augV_int, parK_l, ev_var, ev_gc, ev_int, ev_str, ev_bl, ev_non, ev_bin, ev_neg, ev_not, ev_cmp, ev_chain, ev_inr, ev_and, ev_or, ev_one, ev_ite, ev_nil, ev_cons, ev_tup, ev_lst, ev_dnew, ev_idx, ev_sl, ev_rev, ev_call, ev_bi, ev_isi, ev_meth, bnd_ok, bnd_none, bnd_ite, tstE_ok, tstE_ite, mrg_bl, mrg_int, notK_bl, negK_int, outB_some, outV_some, outK_val, outK_fr, outK_new, outK_ite, chainK_some, lstK_l, partK_int, nop_t, nonop_int, nonop_var, nonop_bin, nonop_neg, inrK_int, mtK_some, callK_t, varK_s, slK_nn, slK_ni, slK_in, slK_ii, b_add, b_sub, b_mul, b_fdiv, b_mod, b_pow, c_eq, c_ne, c_lt, c_le, c_gt, c_ge, bi_len, bi_abs, bi_max2, bi_min2, bi_max1, bi_min1, bi_sum, bi_all, bi_tuple, bi_list, bi_sorted, bi_int, bi_intb, bi_str, len_tup, len_lst, len_scr, rb1, rb2, List.map_cons, List.map_nil, List.length_cons, List.length_nil, List.replicate, List.cons_append, List.nil_append, List.getElem?_cons_succ, List.getElem?_cons_zero, List.set_cons_succ, List.set_cons_zero, if_true, if_false, Bool.false_eq_true, Bool.not_true, Bool.not_false, h, h2]
end H

namespace H
open PySem PySem.Spec L2 TL
/-- a loop whose turns keep P -/
theorem loop_inv {tg : Tg} {body : SS} {d : T} {items : List T} (P : Nat → Lo → Sto → Prop) (hok : ∀ k l S, P k l S → okSrc d items S = true) : ∀ (rest : List T) (k : Nat),
    (∀ t ∈ rest, ∀ k' l S, k ≤ k' → k' < k + rest.length → P k' l S → ∃ l1, asgTg tg t l = some l1 ∧ ∃ l2 S2, body l1 S = some (.nx l2, S2) ∧ P (k' + 1) l2 S2) → ∀ l S, P k l S →
    ∃ l' S', loopL tg body d items rest l S = some (.nx l', S') ∧ P (k + rest.length) l' S'
  | [], k, h, l, S, p => ⟨l, S, by rw [loop_nil, if_pos (hok k l S p)], p⟩
  | t :: r, k, h, l, S, p => by
    obtain ⟨l1, e1, l2, S2, e2, p2⟩ := h t List.mem_cons_self k l S (Nat.le_refl _) (by simp) p
    obtain ⟨l', S', e3, p3⟩ := loop_inv P hok r (k + 1) (fun u hu k' l S h1 h2 => h u (List.mem_cons_of_mem _ hu) k' l S (by omega) (by rw [List.length_cons]; omega)) l2 S2 p2
    refine ⟨l', S', ?_, ?_⟩
    · rw [loop_cons, if_pos (hok k l S p), e1]
      dsimp only
      rw [e2, thn_nx]
      exact e3
    · rw [List.length_cons]
      have : k + (r.length + 1) = k + 1 + r.length := by omega
      rw [this]
      exact p3
/-- the store of a helper with a pen and a dict of its own -/
def S2 (S : Sto) (i : Nat) (p o : Ob) : Sto := S.set i p ++ [o]
theorem S2_pen {S : Sto} {i : Nat} {p o : Ob} (h : i < S.length) : (S2 S i p o)[i]? = some p := by
  unfold S2
  rw [List.getElem?_append_left (by simpa using h)]
  exact List.getElem?_set_self h
theorem S2_own {S : Sto} {i : Nat} {p o : Ob} : (S2 S i p o)[S.length]? = some o := by
  unfold S2
  rw [List.getElem?_append_right (by simp)]
  simp
theorem S2_setp {S : Sto} {i : Nat} {p o q : Ob} (h : i < S.length) : (S2 S i p o).set i q = S2 S i q o := by
  unfold S2
  rw [List.set_append_left _ _ (by simpa using h), List.set_set]
theorem S2_seto {S : Sto} {i : Nat} {p o q : Ob} : (S2 S i p o).set S.length q = S2 S i p q := by
  unfold S2
  rw [List.set_append_right _ _ (by simp)]
  simp
/-- dicts of pairs of numbers to numbers -/
def Kv (kvs : List (List L2.Key × T)) : Prop := ∀ p ∈ kvs, ∃ a b v : Int, p = ([.inl a, .inl b], .int v)
theorem kv_nil : Kv [] := fun _ h => by cases h
theorem kv_put {kvs : List (List L2.Key × T)} (h : Kv kvs) (a b v : Int) : Kv (putD kvs [.inl a, .inl b] (.int v)) ∧ (putD kvs [.inl a, .inl b] (.int v)).length ≤ kvs.length + 1 := by
  unfold putD
  split
  · refine ⟨fun p hp => ?_, by simp⟩
    obtain ⟨q, hq, rfl⟩ := List.mem_map.mp hp
    obtain ⟨x, y, z, rfl⟩ := h q hq
    dsimp only
    split
    · exact ⟨x, y, v, rfl⟩
    · exact ⟨x, y, z, rfl⟩
  · refine ⟨fun p hp => ?_, by simp⟩
    rcases List.mem_append.mp hp with hp | hp
    · exact h p hp
    · simp at hp; exact ⟨a, b, v, hp⟩
theorem kv_drop {kvs : List (List L2.Key × T)} (h : Kv kvs) (k : List L2.Key) : Kv (dropD kvs k) ∧ (dropD kvs k).length ≤ kvs.length := by
  unfold dropD
  exact ⟨fun p hp => h p (List.mem_filter.mp hp).1, List.length_filter_le _ _⟩
theorem put_dT {S : Sto} {d : Nat} {kvs : List (List L2.Key × T)} {a b : Int} {v : T} (h : S[d]? = some (.dT kvs)) (hl : kvs.length < LIM) : putI v (.ref d) (.tup [.int a, .int b]) S = some (S.set d (.dT (putD kvs [.inl a, .inl b] v))) := by
  simp only [putI, h, T.keyT, T.keysOf, T.key, hl, if_true]
theorem look_kv {kvs : List (List L2.Key × T)} (h : Kv kvs) {p : List L2.Key × T} (hp : p ∈ kvs) : ∃ v : Int, lookK kvs p.1 = some (.int v) := by
  unfold lookK
  cases e : kvs.find? (fun kv => decide (kv.1 = p.1)) with
  | none =>
    have := List.find?_eq_none.mp e p hp
    simp at this
  | some q =>
    obtain ⟨a, b, v, rfl⟩ := h q (List.mem_of_find?_eq_some e)
    exact ⟨v, rfl⟩
/-- a comprehension over pairs -/
theorem compL_map2 {i j : Nat} {c elt : SE} {d : T} {items : List T} {l0 : Lo} {S : Sto} (g : T → T) (ok : okSrc d items S = true) : ∀ {rest : List T}, (∀ t ∈ rest, ∃ x y, t = .tup [x, y] ∧ elt ((l0.set i (some x)).set j (some y)) S = some (.ok (g t), S)) →
    compL (.tup [i, j]) (condE true c) elt d items l0 rest S = some (rest.map g, S)
  | [], _ => by simp [compL, ok]
  | t :: r, h => by
    have ih := compL_map2 g ok (rest := r) (c := c) fun u hu => h u (List.mem_cons_of_mem _ hu)
    obtain ⟨x, y, rfl, h1⟩ := h t List.mem_cons_self
    simp only [compL, ok, if_true, asgTg, asgTup, condE, retE, h1]
    simp only [condE, if_true] at ih
    rw [ih]
    rfl
def trip (a b c : Int) : T := .tup [.int a, .int b, .int c]
/-- a web as the drawer makes it -/
def WebD (most : Int) (t : T) : Prop := ∃ (n : Int) (l : List (List Int)), t = .tup [.int n, .tup (l.map T.ofInts)] ∧ 1 ≤ n ∧ n ≤ most ∧ (l.length : Int) ≤ most + 17 ∧ ∀ x ∈ l, ∃ a b c, x = [a, b, c]
theorem tupIs_trip : ∀ {xs : List T}, (∀ t ∈ xs, ∃ a b c, t = trip a b c) → ∃ (l : List (List Int)), T.tupIs xs = some l ∧ l.length = xs.length ∧ ∀ x ∈ l, ∃ a b c, x = [a, b, c]
  | [], _ => ⟨[], rfl, rfl, fun _ h => by cases h⟩
  | t :: r, h => by
    obtain ⟨l, e, el, hl⟩ := tupIs_trip fun u hu => h u (List.mem_cons_of_mem _ hu)
    obtain ⟨a, b, c, rfl⟩ := h t List.mem_cons_self
    refine ⟨[a, b, c] :: l, by simp [T.tupIs, T.tupI, trip, T.ints, e], by simp [el], fun x hx => ?_⟩
    rcases List.mem_cons.mp hx with rfl | hx
    · exact ⟨a, b, c, rfl⟩
    · exact hl x hx
theorem insL_mem (x : List Int) : ∀ (l : List (List Int)) (y : List Int), y ∈ insL x l → y = x ∨ y ∈ l
  | [], y, h => by simp [insL] at h; exact .inl h
  | z :: l, y, h => by
    unfold insL at h
    split at h
    · rcases List.mem_cons.mp h with h | h
      · exact .inr (by rw [h]; exact List.mem_cons_self)
      · rcases insL_mem x l y h with h | h
        · exact .inl h
        · exact .inr (List.mem_cons_of_mem _ h)
    · rcases List.mem_cons.mp h with h | h
      · exact .inl h
      · exact .inr h
theorem insL_len (x : List Int) : ∀ (l : List (List Int)), (insL x l).length = l.length + 1
  | [] => rfl
  | z :: l => by
    unfold insL
    split
    · simp [insL_len x l]
    · rfl
theorem sortL_mem : ∀ (l : List (List Int)) (y : List Int), y ∈ sortL l → y ∈ l
  | [], y, h => h
  | x :: l, y, h => by
    rcases insL_mem x _ y h with h | h
    · rw [h]; exact List.mem_cons_self
    · exact List.mem_cons_of_mem _ (sortL_mem l y h)
theorem sortL_len : ∀ (l : List (List Int)), (sortL l).length = l.length
  | [] => rfl
  | x :: l => by simp [sortL, insL_len, sortL_len l]
theorem ints_none_trip {xs : List T} (h : ∀ t ∈ xs, ∃ a b c, t = trip a b c) : T.ints xs = none ∨ xs = [] := by
  cases xs with
  | nil => exact .inr rfl
  | cons t r =>
    obtain ⟨a, b, c, rfl⟩ := h t List.mem_cons_self
    exact .inl rfl
theorem sorted_trip {xs : List T} (S : Sto) (h : ∀ t ∈ xs, ∃ a b c, t = trip a b c) : ∃ (l : List (List Int)), sortedF [.lst xs] S = some (.fresh (l.map T.ofInts)) ∧ l.length = xs.length ∧ ∀ x ∈ l, ∃ a b c, x = [a, b, c] := by
  rcases ints_none_trip h with h0 | h0
  · obtain ⟨l, e, el, hl⟩ := tupIs_trip h
    exact ⟨sortL l, by simp [sortedF, Sto.lseq, Sto.seq, h0, e], by rw [sortL_len, el], fun x hx => hl x (sortL_mem l x hx)⟩
  · subst h0
    exact ⟨[], by simp [sortedF, Sto.lseq, Sto.seq, T.ints, sortI], rfl, fun _ h => by cases h⟩
end H

namespace H
open PySem PySem.Spec L2 TL
theorem okr (xs items : List T) (S : Sto) : okSrc (.tup [.non, .lst xs]) items S = true := rfl
/-- sizes -/
def SzOk (z : Int) : Prop := z = 2 ∨ z = 7 ∨ z = 40 ∨ z = 10 ^ 30
theorem sz_log {z : Int} (h : SzOk z) : 0 < 2 * z + 1 ∧ (2 * z + 1).natAbs.log2 < 9000 := by
  have : 2 ≤ z ∧ z ≤ 10 ^ 30 := by rcases h with rfl | rfl | rfl | rfl <;> decide
  refine ⟨by omega, ?_⟩
  have := log2_lt (n := (2 * z + 1).natAbs) (k := 110) (by
    have : (2 : Nat) ^ 110 = 1298074214633706907132624082305024 := by decide
    omega) (by decide)
  omega
theorem sz_mul {z : Int} (h : SzOk z) : (2 : Int).natAbs.log2 + z.natAbs.log2 < 1000000 := by
  have : 2 ≤ z ∧ z ≤ 10 ^ 30 := by rcases h with rfl | rfl | rfl | rfl <;> decide
  have h1 := log2_lt (n := z.natAbs) (k := 110) (by
    have : (2 : Nat) ^ 110 = 1298074214633706907132624082305024 := by decide
    omega) (by decide)
  have h2 := log2_lt (n := (2 : Int).natAbs) (k := 3) (by decide) (by decide)
  omega
theorem small_log {m : Int} (h : 0 < m) (h2 : m < 1000000) : m.natAbs.log2 < 9000 := by
  have := log2_lt (n := m.natAbs) (k := 30) (by have : (2 : Nat) ^ 30 = 1073741824 := by decide
                                                omega) (by decide)
  omega
/-- an arrow is drawn into the dict -/
theorem put_step {S : Sto} {i : Nat} (hi : i < S.length) {a b c : Int} {kvs : List (List L2.Key × T)} (hk : Kv kvs) (hl : kvs.length < LIM) {z : Int} (hz : SzOk z) {l : Lo} {e1 e2 : E} {x y : Int} (h0 : l[0]? = some (some (.ref i))) (h4 : l[4]? = some (some (.int z))) (h5 : l[5]? = some (some (.ref S.length)))
    (he : ∀ a' c', ev (.tup (.cons e1 (.cons e2 .nil))) l (S2 S i (pen a' b c') (.dT kvs)) = some (.ok (.tup [.int x, .int y]), S2 S i (pen a' b c') (.dT kvs))) :
    ∃ a' c' kvs', ex (.setI (.var 5) (.tup (.cons e1 (.cons e2 .nil))) (.bin false .Sub (.call true "_law_draw" F__law_draw (.cons (.var 0) (.cons (.bin false .Add (.bin false .Mult (.int 2) (.var 4)) (.int 1)) .nil))) (.var 4))) l (S2 S i (pen a b c) (.dT kvs)) = some (.nx l, S2 S i (pen a' b c') (.dT kvs')) ∧ Kv kvs' ∧ kvs'.length ≤ kvs.length + 1 := by
  obtain ⟨z1, z2⟩ := sz_log hz
  obtain ⟨a', c', d, e, d1, d2⟩ := draw_ex (S := S2 S i (pen a b c) (.dT kvs)) (S2_pen hi) z1 z2
  rw [S2_setp hi] at e
  obtain ⟨k1, k2⟩ := kv_put hk x y (d - z)
  refine ⟨a', c', _, ?_, k1, k2⟩
  have hp := put_dT (v := .int (d - z)) (a := x) (b := y) (S2_own (S := S) (i := i) (p := pen a' b c') (o := .dT kvs)) hl
  rw [S2_seto] at hp
  have hm := sz_mul hz
  rw [ex_setI]
  simp only [ev_bin, ev_call, ev_cons, ev_nil, ev_var, ev_int, h0, h4, h5, varK_s, bnd_ok, lstK_l, b_mul, hm, if_true, outK_val, b_add, callK_t, e, b_sub, bndS_ok, he, hp, putK_some]
end H

namespace H
open PySem PySem.Spec L2 TL
def lw (i : Nat) (most n w z : Int) (d : Nat) (x6 x7 x8 x9 : Option T) : Lo := [some (.ref i), some (.int most), some (.int n), some (.int w), some (.int z), some (.ref d), x6, x7, x8, x9]
/-- the first loop -/
theorem wb_loop1 {S : Sto} {i : Nat} (hi : i < S.length) {most n w z : Int} (hz : SzOk z) (hn : 0 < n) (hn2 : n ≤ 1000) {a b c : Int} {x6 x7 x8 x9 : Option T} :
    ∃ a' c' kvs y7, ex (.loop (.name 7) (.rng (.cons (.var 2) .nil)) (.seq (.setI (.var 5) (.tup (.cons (.var 7) (.cons (.bin false .Mod (.bin false .Add (.var 7) (.int 1)) (.var 2)) .nil))) (.bin false .Sub (.call true "_law_draw" F__law_draw (.cons (.var 0) (.cons (.bin false .Add (.bin false .Mult (.int 2) (.var 4)) (.int 1)) .nil))) (.var 4))) .nil)) (lw i most n w z S.length x6 x7 x8 x9) (S2 S i (pen a b c) (.dT []))
      = some (.nx (lw i most n w z S.length x6 y7 x8 x9), S2 S i (pen a' b c') (.dT kvs)) ∧ Kv kvs ∧ kvs.length ≤ n.toNat := by
  have hr : rngF [.int n] = some (intRange 0 n) := by
    simp only [rngF, rngBounds]
    rw [if_pos ⟨by omega, by omega, by omega, by omega⟩]
  have key := loop_inv (tg := .name 7) (body := ex (.seq (.setI (.var 5) (.tup (.cons (.var 7) (.cons (.bin false .Mod (.bin false .Add (.var 7) (.int 1)) (.var 2)) .nil))) (.bin false .Sub (.call true "_law_draw" F__law_draw (.cons (.var 0) (.cons (.bin false .Add (.bin false .Mult (.int 2) (.var 4)) (.int 1)) .nil))) (.var 4))) .nil)) (d := .tup [.non, .lst (intRange 0 n)]) (items := intRange 0 n)
    (fun k l S' => ∃ a' c' kvs y7, l = lw i most n w z S.length x6 y7 x8 x9 ∧ S' = S2 S i (pen a' b c') (.dT kvs) ∧ Kv kvs ∧ kvs.length ≤ k)
    (fun _ _ _ _ => rfl) (intRange 0 n) 0 (fun t ht k l S' hk0 hk1 hP => ?_) (lw i most n w z S.length x6 x7 x8 x9) (S2 S i (pen a b c) (.dT [])) ⟨a, c, [], x7, rfl, rfl, kv_nil, Nat.zero_le _⟩
  · obtain ⟨l', S', e, hP⟩ := key
    have hlen : (intRange 0 n).length = n.toNat := by simp [intRange]
    rw [hlen, Nat.zero_add] at hP
    obtain ⟨a', c', kvs, y7, rfl, rfl, hk, hl⟩ := hP
    refine ⟨a', c', kvs, y7, ?_, hk, hl⟩
    rw [ex_loop]
    simp only [ev_rng, ev_cons, ev_nil, ev_var, lw, List.getElem?_cons_succ, List.getElem?_cons_zero, varK_s, bnd_ok, lstK_l, hr, rngK_some, bndS_ok]
    exact e
  · obtain ⟨a', c', kvs, y7, rfl, rfl, hk, hl⟩ := hP
    simp only [intRange, List.mem_map, List.mem_range] at ht
    obtain ⟨j, hj, rfl⟩ := ht
    have hlen : (intRange 0 n).length = n.toNat := by simp [intRange]
    refine ⟨lw i most n w z S.length x6 (some (.int (0 + (j : Nat)))) x8 x9, rfl, ?_⟩
    obtain ⟨a2, c2, kvs2, e2, k2, l2⟩ := put_step (S := S) hi (a := a') (b := b) (c := c') hk (show kvs.length < LIM by unfold LIM; omega) hz (l := lw i most n w z S.length x6 (some (.int (0 + (j : Nat)))) x8 x9) (e1 := .var 7) (e2 := .bin false .Mod (.bin false .Add (.var 7) (.int 1)) (.var 2)) (x := 0 + (j : Nat)) (y := (0 + (j : Nat) + 1) % n) rfl rfl rfl (fun a' c' => by
      simp [fn_app, ex_nil, ex_skip, ex_seq, ex_expr, ex_asg, ex_par, ex_setI, ex_aug, ex_ret, ex_retN, ex_ite, bndS_ok, bndS_ite, tstS_ok, tstS_ite, thn_nx, thn_rt, thn_er, thn_none, thn_ite, fnK_rt, fnK_nx, fnK_er, fnK_ite, asgK_some, asgTg_name, asgTg_tup, asgTup_cons, asgTup_nil, putK_some, augK_int, augV_int, parK_l, ev_var, ev_gc, ev_int, ev_str, ev_bl, ev_non, ev_bin, ev_neg, ev_not, ev_cmp, ev_chain, ev_inr, ev_and, ev_or, ev_one, ev_ite, ev_nil, ev_cons, ev_tup, ev_lst, ev_dnew, ev_idx, ev_sl, ev_rev, ev_call, ev_bi, ev_isi, ev_meth, bnd_ok, bnd_none, bnd_ite, tstE_ok, tstE_ite, mrg_bl, mrg_int, notK_bl, negK_int, outB_some, outV_some, outK_val, outK_fr, outK_new, outK_ite, chainK_some, lstK_l, partK_int, nop_t, nonop_int, nonop_var, nonop_bin, nonop_neg, inrK_int, mtK_some, callK_t, varK_s, slK_nn, slK_ni, slK_in, slK_ii, b_add, b_sub, b_mul, b_fdiv, b_mod, b_pow, c_eq, c_ne, c_lt, c_le, c_gt, c_ge, bi_len, bi_abs, bi_max2, bi_min2, bi_max1, bi_min1, bi_sum, bi_all, bi_tuple, bi_list, bi_sorted, bi_int, bi_intb, bi_str, len_tup, len_lst, len_scr, rb1, rb2, List.map_cons, List.map_nil, List.length_cons, List.length_nil, List.replicate, List.cons_append, List.nil_append, List.getElem?_cons_succ, List.getElem?_cons_zero, List.set_cons_succ, List.set_cons_zero, if_true, if_false, Bool.false_eq_true, Bool.not_true, Bool.not_false, lw, hn, LIM])
    exact ⟨_, _, by rw [ex_seq, e2, thn_nx, ex_nil], a2, c2, kvs2, _, rfl, rfl, k2, by omega⟩
/-- the second loop -/
theorem wb_loop2 {S : Sto} {i : Nat} (hi : i < S.length) {most n w z : Int} (hz : SzOk z) (hn : 0 < n) (hn2 : n ≤ 1000) {a b c : Int} {kvs0 : List (List L2.Key × T)} (hk0 : Kv kvs0) (hl0 : kvs0.length ≤ 1000) {x6 x7 x8 x9 : Option T} :
    ∃ a' c' kvs y6 y8 y9, ex (.loop (.name 6) (.rng (.cons (.call true "_law_draw" F__law_draw (.cons (.var 0) (.cons (.bi false .min2 (.cons (.int 17) (.cons (.bin false .Mult (.int 3) (.var 2)) .nil))) .nil))) .nil)) (.seq (.asg (.name 8) (.call true "_law_draw" F__law_draw (.cons (.var 0) (.cons (.var 2) .nil))))
  (.seq (.asg (.name 9) (.call true "_law_draw" F__law_draw (.cons (.var 0) (.cons (.var 2) .nil))))
  (.seq (.ite (.or (.cmp .Gt (.var 3) (.int 1)) (.one (.cmp .NotEq (.var 8) (.var 9)))) (.seq (.setI (.var 5) (.tup (.cons (.var 8) (.cons (.var 9) .nil))) (.bin false .Sub (.call true "_law_draw" F__law_draw (.cons (.var 0) (.cons (.bin false .Add (.bin false .Mult (.int 2) (.var 4)) (.int 1)) .nil))) (.var 4)))
  .nil) .nil)
  .nil)))) (lw i most n w z S.length x6 x7 x8 x9) (S2 S i (pen a b c) (.dT kvs0))
      = some (.nx (lw i most n w z S.length y6 x7 y8 y9), S2 S i (pen a' b c') (.dT kvs)) ∧ Kv kvs ∧ kvs.length ≤ kvs0.length + 17 := by
  have hm : (3 : Int).natAbs.log2 + n.natAbs.log2 < 1000000 := by
    have h1 := log2_lt (n := (3 : Int).natAbs) (k := 3) (by decide) (by decide)
    have h2 := small_log hn (by omega)
    omega
  generalize hq : (if 3 * n < 17 then 3 * n else 17) = q
  have hq1 : 0 < q ∧ q ≤ 17 := by split at hq <;> omega
  obtain ⟨a1, c1, m, e1, m1, m2⟩ := draw_ex (S := S2 S i (pen a b c) (.dT kvs0)) (i := i) (S2_pen hi) hq1.1 (small_log hq1.1 (by omega))
  rw [S2_setp hi] at e1
  have hr : rngF [.int m] = some (intRange 0 m) := by
    simp only [rngF, rngBounds]
    rw [if_pos ⟨by omega, by omega, by omega, by omega⟩]
  have hlen : (intRange 0 m).length = m.toNat := by simp [intRange]
  have key := loop_inv (tg := .name 6) (body := ex (.seq (.asg (.name 8) (.call true "_law_draw" F__law_draw (.cons (.var 0) (.cons (.var 2) .nil))))
  (.seq (.asg (.name 9) (.call true "_law_draw" F__law_draw (.cons (.var 0) (.cons (.var 2) .nil))))
  (.seq (.ite (.or (.cmp .Gt (.var 3) (.int 1)) (.one (.cmp .NotEq (.var 8) (.var 9)))) (.seq (.setI (.var 5) (.tup (.cons (.var 8) (.cons (.var 9) .nil))) (.bin false .Sub (.call true "_law_draw" F__law_draw (.cons (.var 0) (.cons (.bin false .Add (.bin false .Mult (.int 2) (.var 4)) (.int 1)) .nil))) (.var 4)))
  .nil) .nil)
  .nil)))) (d := .tup [.non, .lst (intRange 0 m)]) (items := intRange 0 m)
    (fun k l S' => ∃ a' c' kvs y6 y8 y9, l = lw i most n w z S.length y6 x7 y8 y9 ∧ S' = S2 S i (pen a' b c') (.dT kvs) ∧ Kv kvs ∧ kvs.length ≤ kvs0.length + k)
    (fun _ _ _ _ => rfl) (intRange 0 m) 0 (fun t ht k l S' hk0 hk1 hP => ?_) (lw i most n w z S.length x6 x7 x8 x9) (S2 S i (pen a1 b c1) (.dT kvs0)) ⟨a1, c1, kvs0, x6, x8, x9, rfl, rfl, hk0, Nat.le_refl _⟩
  · obtain ⟨l', S', e, hP⟩ := key
    rw [hlen, Nat.zero_add] at hP
    obtain ⟨a', c', kvs, y6, y8, y9, rfl, rfl, hk, hl⟩ := hP
    refine ⟨a', c', kvs, y6, y8, y9, ?_, hk, by omega⟩
    rw [ex_loop]
    simp only [ev_rng, ev_call, ev_bi, ev_cons, ev_nil, ev_var, ev_int, ev_bin, lw, List.getElem?_cons_succ, List.getElem?_cons_zero, varK_s, bnd_ok, lstK_l, b_mul, hm, if_true, outK_val, bi_min2, hq, callK_t, e1, hr, rngK_some, bndS_ok]
    exact e
  · obtain ⟨a', c', kvs, y6, y8, y9, rfl, rfl, hk, hl⟩ := hP
    rw [hlen] at hk1
    refine ⟨lw i most n w z S.length (some t) x7 y8 y9, rfl, ?_⟩
    obtain ⟨a2, c2, d2, e2, _, _⟩ := draw_ex (S := S2 S i (pen a' b c') (.dT kvs)) (i := i) (S2_pen hi) hn (small_log hn (by omega))
    rw [S2_setp hi] at e2
    obtain ⟨a3, c3, d3, e3, _, _⟩ := draw_ex (S := S2 S i (pen a2 b c2) (.dT kvs)) (i := i) (S2_pen hi) hn (small_log hn (by omega))
    rw [S2_setp hi] at e3
    obtain ⟨a4, c4, kvs4, e4, k4, l4⟩ := put_step (S := S) hi (a := a3) (b := b) (c := c3) hk (show kvs.length < LIM by unfold LIM; omega) hz (l := lw i most n w z S.length (some t) x7 (some (.int d2)) (some (.int d3))) (e1 := .var 8) (e2 := .var 9) (x := d2) (y := d3) rfl rfl rfl (fun a' c' => by
      simp [fn_app, ex_nil, ex_skip, ex_seq, ex_expr, ex_asg, ex_par, ex_setI, ex_aug, ex_ret, ex_retN, ex_ite, bndS_ok, bndS_ite, tstS_ok, tstS_ite, thn_nx, thn_rt, thn_er, thn_none, thn_ite, fnK_rt, fnK_nx, fnK_er, fnK_ite, asgK_some, asgTg_name, asgTg_tup, asgTup_cons, asgTup_nil, putK_some, augK_int, augV_int, parK_l, ev_var, ev_gc, ev_int, ev_str, ev_bl, ev_non, ev_bin, ev_neg, ev_not, ev_cmp, ev_chain, ev_inr, ev_and, ev_or, ev_one, ev_ite, ev_nil, ev_cons, ev_tup, ev_lst, ev_dnew, ev_idx, ev_sl, ev_rev, ev_call, ev_bi, ev_isi, ev_meth, bnd_ok, bnd_none, bnd_ite, tstE_ok, tstE_ite, mrg_bl, mrg_int, notK_bl, negK_int, outB_some, outV_some, outK_val, outK_fr, outK_new, outK_ite, chainK_some, lstK_l, partK_int, nop_t, nonop_int, nonop_var, nonop_bin, nonop_neg, inrK_int, mtK_some, callK_t, varK_s, slK_nn, slK_ni, slK_in, slK_ii, b_add, b_sub, b_mul, b_fdiv, b_mod, b_pow, c_eq, c_ne, c_lt, c_le, c_gt, c_ge, bi_len, bi_abs, bi_max2, bi_min2, bi_max1, bi_min1, bi_sum, bi_all, bi_tuple, bi_list, bi_sorted, bi_int, bi_intb, bi_str, len_tup, len_lst, len_scr, rb1, rb2, List.map_cons, List.map_nil, List.length_cons, List.length_nil, List.replicate, List.cons_append, List.nil_append, List.getElem?_cons_succ, List.getElem?_cons_zero, List.set_cons_succ, List.set_cons_zero, if_true, if_false, Bool.false_eq_true, Bool.not_true, Bool.not_false, lw, LIM])
    have s1 : ex (.asg (.name 8) (.call true "_law_draw" F__law_draw (.cons (.var 0) (.cons (.var 2) .nil)))) (lw i most n w z S.length (some t) x7 y8 y9) (S2 S i (pen a' b c') (.dT kvs)) = some (.nx (lw i most n w z S.length (some t) x7 (some (.int d2)) y9), S2 S i (pen a2 b c2) (.dT kvs)) := by
      simp [fn_app, ex_nil, ex_skip, ex_seq, ex_expr, ex_asg, ex_par, ex_setI, ex_aug, ex_ret, ex_retN, ex_ite, bndS_ok, bndS_ite, tstS_ok, tstS_ite, thn_nx, thn_rt, thn_er, thn_none, thn_ite, fnK_rt, fnK_nx, fnK_er, fnK_ite, asgK_some, asgTg_name, asgTg_tup, asgTup_cons, asgTup_nil, putK_some, augK_int, augV_int, parK_l, ev_var, ev_gc, ev_int, ev_str, ev_bl, ev_non, ev_bin, ev_neg, ev_not, ev_cmp, ev_chain, ev_inr, ev_and, ev_or, ev_one, ev_ite, ev_nil, ev_cons, ev_tup, ev_lst, ev_dnew, ev_idx, ev_sl, ev_rev, ev_call, ev_bi, ev_isi, ev_meth, bnd_ok, bnd_none, bnd_ite, tstE_ok, tstE_ite, mrg_bl, mrg_int, notK_bl, negK_int, outB_some, outV_some, outK_val, outK_fr, outK_new, outK_ite, chainK_some, lstK_l, partK_int, nop_t, nonop_int, nonop_var, nonop_bin, nonop_neg, inrK_int, mtK_some, callK_t, varK_s, slK_nn, slK_ni, slK_in, slK_ii, b_add, b_sub, b_mul, b_fdiv, b_mod, b_pow, c_eq, c_ne, c_lt, c_le, c_gt, c_ge, bi_len, bi_abs, bi_max2, bi_min2, bi_max1, bi_min1, bi_sum, bi_all, bi_tuple, bi_list, bi_sorted, bi_int, bi_intb, bi_str, len_tup, len_lst, len_scr, rb1, rb2, List.map_cons, List.map_nil, List.length_cons, List.length_nil, List.replicate, List.cons_append, List.nil_append, List.getElem?_cons_succ, List.getElem?_cons_zero, List.set_cons_succ, List.set_cons_zero, if_true, if_false, Bool.false_eq_true, Bool.not_true, Bool.not_false, lw, e2]
    have s2 : ex (.asg (.name 9) (.call true "_law_draw" F__law_draw (.cons (.var 0) (.cons (.var 2) .nil)))) (lw i most n w z S.length (some t) x7 (some (.int d2)) y9) (S2 S i (pen a2 b c2) (.dT kvs)) = some (.nx (lw i most n w z S.length (some t) x7 (some (.int d2)) (some (.int d3))), S2 S i (pen a3 b c3) (.dT kvs)) := by
      simp [fn_app, ex_nil, ex_skip, ex_seq, ex_expr, ex_asg, ex_par, ex_setI, ex_aug, ex_ret, ex_retN, ex_ite, bndS_ok, bndS_ite, tstS_ok, tstS_ite, thn_nx, thn_rt, thn_er, thn_none, thn_ite, fnK_rt, fnK_nx, fnK_er, fnK_ite, asgK_some, asgTg_name, asgTg_tup, asgTup_cons, asgTup_nil, putK_some, augK_int, augV_int, parK_l, ev_var, ev_gc, ev_int, ev_str, ev_bl, ev_non, ev_bin, ev_neg, ev_not, ev_cmp, ev_chain, ev_inr, ev_and, ev_or, ev_one, ev_ite, ev_nil, ev_cons, ev_tup, ev_lst, ev_dnew, ev_idx, ev_sl, ev_rev, ev_call, ev_bi, ev_isi, ev_meth, bnd_ok, bnd_none, bnd_ite, tstE_ok, tstE_ite, mrg_bl, mrg_int, notK_bl, negK_int, outB_some, outV_some, outK_val, outK_fr, outK_new, outK_ite, chainK_some, lstK_l, partK_int, nop_t, nonop_int, nonop_var, nonop_bin, nonop_neg, inrK_int, mtK_some, callK_t, varK_s, slK_nn, slK_ni, slK_in, slK_ii, b_add, b_sub, b_mul, b_fdiv, b_mod, b_pow, c_eq, c_ne, c_lt, c_le, c_gt, c_ge, bi_len, bi_abs, bi_max2, bi_min2, bi_max1, bi_min1, bi_sum, bi_all, bi_tuple, bi_list, bi_sorted, bi_int, bi_intb, bi_str, len_tup, len_lst, len_scr, rb1, rb2, List.map_cons, List.map_nil, List.length_cons, List.length_nil, List.replicate, List.cons_append, List.nil_append, List.getElem?_cons_succ, List.getElem?_cons_zero, List.set_cons_succ, List.set_cons_zero, if_true, if_false, Bool.false_eq_true, Bool.not_true, Bool.not_false, lw, e3]
    have t1 : ev (.or (.cmp .Gt (.var 3) (.int 1)) (.one (.cmp .NotEq (.var 8) (.var 9)))) (lw i most n w z S.length (some t) x7 (some (.int d2)) (some (.int d3))) (S2 S i (pen a3 b c3) (.dT kvs)) = some (.ok (.bl (if decide (1 < w) = true then true else !decide (d2 = d3))), S2 S i (pen a3 b c3) (.dT kvs)) := by
      simp only [fn_app, ex_nil, ex_skip, ex_seq, ex_expr, ex_asg, ex_par, ex_setI, ex_aug, ex_ret, ex_retN, ex_ite, bndS_ok, bndS_ite, tstS_ok, tstS_ite, thn_nx, thn_rt, thn_er, thn_none, thn_ite, fnK_rt, fnK_nx, fnK_er, fnK_ite, asgK_some, asgTg_name, asgTg_tup, asgTup_cons, asgTup_nil, putK_some, augK_int, augV_int, parK_l, ev_var, ev_gc, ev_int, ev_str, ev_bl, ev_non, ev_bin, ev_neg, ev_not, ev_cmp, ev_chain, ev_inr, ev_and, ev_or, ev_one, ev_ite, ev_nil, ev_cons, ev_tup, ev_lst, ev_dnew, ev_idx, ev_sl, ev_rev, ev_call, ev_bi, ev_isi, ev_meth, bnd_ok, bnd_none, bnd_ite, tstE_ok, tstE_ite, mrg_bl, mrg_int, notK_bl, negK_int, outB_some, outV_some, outK_val, outK_fr, outK_new, outK_ite, chainK_some, lstK_l, partK_int, nop_t, nonop_int, nonop_var, nonop_bin, nonop_neg, inrK_int, mtK_some, callK_t, varK_s, slK_nn, slK_ni, slK_in, slK_ii, b_add, b_sub, b_mul, b_fdiv, b_mod, b_pow, c_eq, c_ne, c_lt, c_le, c_gt, c_ge, bi_len, bi_abs, bi_max2, bi_min2, bi_max1, bi_min1, bi_sum, bi_all, bi_tuple, bi_list, bi_sorted, bi_int, bi_intb, bi_str, len_tup, len_lst, len_scr, rb1, rb2, List.map_cons, List.map_nil, List.length_cons, List.length_nil, List.replicate, List.cons_append, List.nil_append, List.getElem?_cons_succ, List.getElem?_cons_zero, List.set_cons_succ, List.set_cons_zero, if_true, if_false, Bool.false_eq_true, Bool.not_true, Bool.not_false, lw]
    rw [ex_seq, s1, thn_nx, ex_seq, s2, thn_nx, ex_seq, ex_ite, t1, tstS_ok]
    by_cases hc : (if decide (1 < w) = true then true else !decide (d2 = d3)) = true
    · rw [if_pos hc, ex_seq, e4, thn_nx, ex_nil, thn_nx, ex_nil]
      exact ⟨_, _, rfl, a4, c4, kvs4, _, _, _, rfl, rfl, k4, by omega⟩
    · rw [if_neg hc, ex_nil, thn_nx, ex_nil]
      exact ⟨_, _, rfl, a3, c3, kvs, _, _, _, rfl, rfl, hk, by omega⟩
end H

namespace H
open PySem PySem.Spec L2 TL
/-- the last statement -/
theorem wb_ret {S : Sto} {i : Nat} {most n w z : Int} {p : Ob} {kvs : List (List L2.Key × T)} (hk : Kv kvs) (hl : kvs.length ≤ 2000) {x6 x7 x8 x9 : Option T} :
    ∃ l : List (List Int), ex (.ret (.tup (.cons (.var 2) (.cons (.bi false .tuple (.cons (.bi false .sorted (.cons (.comp false [("_law_one", 8), ("_law_other", 9)] (.tup [8, 9]) (.seq (.bi false .list (.cons (.var 5) .nil))) .nop (.tup (.cons (.var 8) (.cons (.var 9) (.cons (.idx (.var 5) (.tup (.cons (.var 8) (.cons (.var 9) .nil)))) .nil))))) .nil)) .nil)) .nil)))) (lw i most n w z S.length x6 x7 x8 x9) (S2 S i p (.dT kvs))
      = some (.rt (.tup [.int n, .tup (l.map T.ofInts)]), S2 S i p (.dT kvs)) ∧ l.length = kvs.length ∧ ∀ x ∈ l, ∃ a b c, x = [a, b, c] := by
  have hd : (S2 S i p (.dT kvs))[S.length]? = some (.dT kvs) := S2_own
  let keys := kvs.map fun q => T.tup (q.1.map T.ofKey)
  have hlist : listF [.ref S.length] (S2 S i p (.dT kvs)) = some (.fresh keys) := by
    simp only [listF, Sto.seq, hd, Sto.dict]
    rfl
  let g : T → T := fun t => match t with | .tup [.int a, .int b] => .tup [.int a, .int b, (lookK kvs [.inl a, .inl b]).getD .non] | t => t
  have hg : ∀ t ∈ keys, ∃ a b v : Int, t = .tup [.int a, .int b] ∧ lookK kvs [.inl a, .inl b] = some (.int v) := by
    intro t ht
    obtain ⟨q, hq, rfl⟩ := List.mem_map.mp ht
    obtain ⟨a, b, v, rfl⟩ := hk q hq
    obtain ⟨v2, e⟩ := look_kv hk hq
    exact ⟨a, b, v2, rfl, e⟩
  have cm := compL_map2 (i := 8) (j := 9) (c := ev .nop) (elt := ev (.tup (.cons (.var 8) (.cons (.var 9) (.cons (.idx (.var 5) (.tup (.cons (.var 8) (.cons (.var 9) .nil)))) .nil))))) (d := .tup [.int 0, .lst keys]) (items := keys) (l0 := wipeL (lw i most n w z S.length x6 x7 x8 x9) [8, 9]) (S := S2 S i p (.dT kvs)) (rest := keys) g rfl (by
    intro t ht
    obtain ⟨a, b, v, rfl, e⟩ := hg t ht
    refine ⟨_, _, rfl, ?_⟩
    have hidx : idxF (.ref S.length) (.tup [.int a, .int b]) (S2 S i p (.dT kvs)) = some (.int v) := by
      simp only [idxF, Sto.seq, hd, Sto.dict, DV.look, T.keyT, T.keysOf, T.key, Option.map_some, e]
      rfl
    simp [fn_app, ex_nil, ex_skip, ex_seq, ex_expr, ex_asg, ex_par, ex_setI, ex_aug, ex_ret, ex_retN, ex_ite, bndS_ok, bndS_ite, tstS_ok, tstS_ite, thn_nx, thn_rt, thn_er, thn_none, thn_ite, fnK_rt, fnK_nx, fnK_er, fnK_ite, asgK_some, asgTg_name, asgTg_tup, asgTup_cons, asgTup_nil, putK_some, augK_int, augV_int, parK_l, ev_var, ev_gc, ev_int, ev_str, ev_bl, ev_non, ev_bin, ev_neg, ev_not, ev_cmp, ev_chain, ev_inr, ev_and, ev_or, ev_one, ev_ite, ev_nil, ev_cons, ev_tup, ev_lst, ev_dnew, ev_idx, ev_sl, ev_rev, ev_call, ev_bi, ev_isi, ev_meth, bnd_ok, bnd_none, bnd_ite, tstE_ok, tstE_ite, mrg_bl, mrg_int, notK_bl, negK_int, outB_some, outV_some, outK_val, outK_fr, outK_new, outK_ite, chainK_some, lstK_l, partK_int, nop_t, nonop_int, nonop_var, nonop_bin, nonop_neg, inrK_int, mtK_some, callK_t, varK_s, slK_nn, slK_ni, slK_in, slK_ii, b_add, b_sub, b_mul, b_fdiv, b_mod, b_pow, c_eq, c_ne, c_lt, c_le, c_gt, c_ge, bi_len, bi_abs, bi_max2, bi_min2, bi_max1, bi_min1, bi_sum, bi_all, bi_tuple, bi_list, bi_sorted, bi_int, bi_intb, bi_str, len_tup, len_lst, len_scr, rb1, rb2, List.map_cons, List.map_nil, List.length_cons, List.length_nil, List.replicate, List.cons_append, List.nil_append, List.getElem?_cons_succ, List.getElem?_cons_zero, List.set_cons_succ, List.set_cons_zero, if_true, if_false, Bool.false_eq_true, Bool.not_true, Bool.not_false, wipeL, lw, hidx, g, e, LIM])
  have htr : ∀ t ∈ keys.map g, ∃ a b c, t = trip a b c := by
    intro t ht
    obtain ⟨u, hu, rfl⟩ := List.mem_map.mp ht
    obtain ⟨a, b, v, rfl, e⟩ := hg u hu
    exact ⟨a, b, v, by simp [g, e, trip]⟩
  obtain ⟨l, hs, hll, hlf⟩ := sorted_trip (S2 S i p (.dT kvs)) htr
  have hcomp := comp_val (own := [("_law_one", 8), ("_law_other", 9)]) (tg := .tup [8, 9]) (it := .seq (.bi false .list (.cons (.var 5) .nil))) (cond := .nop) (elt := .tup (.cons (.var 8) (.cons (.var 9) (.cons (.idx (.var 5) (.tup (.cons (.var 8) (.cons (.var 9) .nil)))) .nil)))) (l := lw i most n w z S.length x6 x7 x8 x9) (S := S2 S i p (.dT kvs)) (S1 := S2 S i p (.dT kvs)) (d := .tup [.int 0, .lst keys]) (items := keys) (by
      simp only [fn_app, ex_nil, ex_skip, ex_seq, ex_expr, ex_asg, ex_par, ex_setI, ex_aug, ex_ret, ex_retN, ex_ite, bndS_ok, bndS_ite, tstS_ok, tstS_ite, thn_nx, thn_rt, thn_er, thn_none, thn_ite, fnK_rt, fnK_nx, fnK_er, fnK_ite, asgK_some, asgTg_name, asgTg_tup, asgTup_cons, asgTup_nil, putK_some, augK_int, augV_int, parK_l, ev_var, ev_gc, ev_int, ev_str, ev_bl, ev_non, ev_bin, ev_neg, ev_not, ev_cmp, ev_chain, ev_inr, ev_and, ev_or, ev_one, ev_ite, ev_nil, ev_cons, ev_tup, ev_lst, ev_dnew, ev_idx, ev_sl, ev_rev, ev_call, ev_bi, ev_isi, ev_meth, bnd_ok, bnd_none, bnd_ite, tstE_ok, tstE_ite, mrg_bl, mrg_int, notK_bl, negK_int, outB_some, outV_some, outK_val, outK_fr, outK_new, outK_ite, chainK_some, lstK_l, partK_int, nop_t, nonop_int, nonop_var, nonop_bin, nonop_neg, inrK_int, mtK_some, callK_t, varK_s, slK_nn, slK_ni, slK_in, slK_ii, b_add, b_sub, b_mul, b_fdiv, b_mod, b_pow, c_eq, c_ne, c_lt, c_le, c_gt, c_ge, bi_len, bi_abs, bi_max2, bi_min2, bi_max1, bi_min1, bi_sum, bi_all, bi_tuple, bi_list, bi_sorted, bi_int, bi_intb, bi_str, len_tup, len_lst, len_scr, rb1, rb2, List.map_cons, List.map_nil, List.length_cons, List.length_nil, List.replicate, List.cons_append, List.nil_append, List.getElem?_cons_succ, List.getElem?_cons_zero, List.set_cons_succ, List.set_cons_zero, if_true, if_false, Bool.false_eq_true, Bool.not_true, Bool.not_false, ev_seq, lw, hlist]) rfl (show keys.length ≤ LIM by simp only [keys, List.length_map]; unfold LIM; omega) cm
  refine ⟨l, ?_, by rw [hll]; simp [keys], hlf⟩
  have htup : tupleF [.lst (l.map T.ofInts)] (S2 S i p (.dT kvs)) = some (.val (.tup (l.map T.ofInts))) := rfl
  rw [ex_ret]
  have h2 : ∀ x, (lw i most n w z S.length x6 x7 x8 x9)[2]? = x → x = some (some (.int n)) := fun x h => by rw [← h]; rfl
  have hv : (lw i most n w z S.length x6 x7 x8 x9)[2]? = some (some (.int n)) := rfl
  have hL : (2 : Nat) ≤ LIM := by unfold LIM; omega
  simp only [ev_tup, ev_cons, ev_nil, ev_bi, ev_var, hv, hcomp, varK_s, bnd_ok, lstK_l, bi_sorted, hs, outK_fr, bi_tuple, htup, outK_val, List.length_cons, List.length_nil, Nat.zero_add, hL, if_true, bndS_ok]
theorem web_by_ex {S : Sto} {i : Nat} {a b c most : Int} (h : S[i]? = some (pen a b c)) (hm : 0 < most) (hm2 : most < 1000) : ∃ a' c' kvs t, F__law_web_by [.ref i, .int most] S = some (.ok t, S2 S i (pen a' b c') (.dT kvs)) ∧ Kv kvs ∧ WebD most t := by
  have hi : i < S.length := (List.getElem?_eq_some_iff.mp h).1
  have gS : ∀ p, (S.set i p)[i]? = some p := fun p => List.getElem?_set_self hi
  obtain ⟨a1, c1, d1, e1, n0, n1⟩ := draw_ex h hm (small_log hm (by omega))
  obtain ⟨a2, c2, w, e2, w0, w1⟩ := draw_ex (gS (pen a1 b c1)) (m := 4) (by decide) (small_log (by decide) (by decide))
  obtain ⟨a3, c3, d3, e3, z0, z1⟩ := draw_ex (gS (pen a2 b c2)) (m := 4) (by decide) (small_log (by decide) (by decide))
  rw [List.set_set] at e2
  have e3 : F__law_draw [T.ref i, T.int 4] (List.set S i (pen a2 b c2)) = some (Res.ok (T.int d3), List.set S i (pen a3 b c3)) := by
    simpa [List.set_set] using e3
  obtain ⟨z, hz, hzi⟩ : ∃ z, SzOk z ∧ ∀ S, idxF (.lst [.int 2, .int 7, .int 40, .int (10 ^ 30)]) (.int d3) S = some (.int z) := by
    have : d3 = 0 ∨ d3 = 1 ∨ d3 = 2 ∨ d3 = 3 := by omega
    rcases this with rfl | rfl | rfl | rfl
    · exact ⟨2, .inl rfl, fun _ => rfl⟩
    · exact ⟨7, .inr (.inl rfl), fun _ => rfl⟩
    · exact ⟨40, .inr (.inr (.inl rfl)), fun _ => rfl⟩
    · exact ⟨10 ^ 30, .inr (.inr (.inr rfl)), fun _ => rfl⟩
  generalize hn : 1 + d1 = n at *
  have hn1 : 0 < n ∧ n ≤ most := by omega
  have s1 : ex (.asg (.name 2) (.bin false .Add (.int 1) (.call true "_law_draw" F__law_draw (.cons (.var 0) (.cons (.var 1) .nil))))) [some (.ref i), some (.int most), none, none, none, none, none, none, none, none] S = some (.nx [some (.ref i), some (.int most), some (.int n), none, none, none, none, none, none, none], S.set i (pen a1 b c1)) := by
    simp [fn_app, ex_nil, ex_skip, ex_seq, ex_expr, ex_asg, ex_par, ex_setI, ex_aug, ex_ret, ex_retN, ex_ite, bndS_ok, bndS_ite, tstS_ok, tstS_ite, thn_nx, thn_rt, thn_er, thn_none, thn_ite, fnK_rt, fnK_nx, fnK_er, fnK_ite, asgK_some, asgTg_name, asgTg_tup, asgTup_cons, asgTup_nil, putK_some, augK_int, augV_int, parK_l, ev_var, ev_gc, ev_int, ev_str, ev_bl, ev_non, ev_bin, ev_neg, ev_not, ev_cmp, ev_chain, ev_inr, ev_and, ev_or, ev_one, ev_ite, ev_nil, ev_cons, ev_tup, ev_lst, ev_dnew, ev_idx, ev_sl, ev_rev, ev_call, ev_bi, ev_isi, ev_meth, bnd_ok, bnd_none, bnd_ite, tstE_ok, tstE_ite, mrg_bl, mrg_int, notK_bl, negK_int, outB_some, outV_some, outK_val, outK_fr, outK_new, outK_ite, chainK_some, lstK_l, partK_int, nop_t, nonop_int, nonop_var, nonop_bin, nonop_neg, inrK_int, mtK_some, callK_t, varK_s, slK_nn, slK_ni, slK_in, slK_ii, b_add, b_sub, b_mul, b_fdiv, b_mod, b_pow, c_eq, c_ne, c_lt, c_le, c_gt, c_ge, bi_len, bi_abs, bi_max2, bi_min2, bi_max1, bi_min1, bi_sum, bi_all, bi_tuple, bi_list, bi_sorted, bi_int, bi_intb, bi_str, len_tup, len_lst, len_scr, rb1, rb2, List.map_cons, List.map_nil, List.length_cons, List.length_nil, List.replicate, List.cons_append, List.nil_append, List.getElem?_cons_succ, List.getElem?_cons_zero, List.set_cons_succ, List.set_cons_zero, if_true, if_false, Bool.false_eq_true, Bool.not_true, Bool.not_false, e1, hn]
  have s2 : ex (.asg (.name 3) (.call true "_law_draw" F__law_draw (.cons (.var 0) (.cons (.int 4) .nil)))) [some (.ref i), some (.int most), some (.int n), none, none, none, none, none, none, none] (S.set i (pen a1 b c1)) = some (.nx [some (.ref i), some (.int most), some (.int n), some (.int w), none, none, none, none, none, none], S.set i (pen a2 b c2)) := by
    simp [fn_app, ex_nil, ex_skip, ex_seq, ex_expr, ex_asg, ex_par, ex_setI, ex_aug, ex_ret, ex_retN, ex_ite, bndS_ok, bndS_ite, tstS_ok, tstS_ite, thn_nx, thn_rt, thn_er, thn_none, thn_ite, fnK_rt, fnK_nx, fnK_er, fnK_ite, asgK_some, asgTg_name, asgTg_tup, asgTup_cons, asgTup_nil, putK_some, augK_int, augV_int, parK_l, ev_var, ev_gc, ev_int, ev_str, ev_bl, ev_non, ev_bin, ev_neg, ev_not, ev_cmp, ev_chain, ev_inr, ev_and, ev_or, ev_one, ev_ite, ev_nil, ev_cons, ev_tup, ev_lst, ev_dnew, ev_idx, ev_sl, ev_rev, ev_call, ev_bi, ev_isi, ev_meth, bnd_ok, bnd_none, bnd_ite, tstE_ok, tstE_ite, mrg_bl, mrg_int, notK_bl, negK_int, outB_some, outV_some, outK_val, outK_fr, outK_new, outK_ite, chainK_some, lstK_l, partK_int, nop_t, nonop_int, nonop_var, nonop_bin, nonop_neg, inrK_int, mtK_some, callK_t, varK_s, slK_nn, slK_ni, slK_in, slK_ii, b_add, b_sub, b_mul, b_fdiv, b_mod, b_pow, c_eq, c_ne, c_lt, c_le, c_gt, c_ge, bi_len, bi_abs, bi_max2, bi_min2, bi_max1, bi_min1, bi_sum, bi_all, bi_tuple, bi_list, bi_sorted, bi_int, bi_intb, bi_str, len_tup, len_lst, len_scr, rb1, rb2, List.map_cons, List.map_nil, List.length_cons, List.length_nil, List.replicate, List.cons_append, List.nil_append, List.getElem?_cons_succ, List.getElem?_cons_zero, List.set_cons_succ, List.set_cons_zero, if_true, if_false, Bool.false_eq_true, Bool.not_true, Bool.not_false, e2]
  have s3 : ex (.asg (.name 4) (.idx (.lst false (.cons (.int 2) (.cons (.int 7) (.cons (.int 40) (.cons (.bin false .Pow (.int 10) (.int 30)) .nil))))) (.call true "_law_draw" F__law_draw (.cons (.var 0) (.cons (.int 4) .nil))))) [some (.ref i), some (.int most), some (.int n), some (.int w), none, none, none, none, none, none] (S.set i (pen a2 b c2)) = some (.nx [some (.ref i), some (.int most), some (.int n), some (.int w), some (.int z), none, none, none, none, none], S.set i (pen a3 b c3)) := by
    have hz2 := hzi (S.set i (pen a3 b c3))
    simp only [show (10 : Int) ^ 30 = 1000000000000000000000000000000 by decide] at hz2
    simp [fn_app, ex_nil, ex_skip, ex_seq, ex_expr, ex_asg, ex_par, ex_setI, ex_aug, ex_ret, ex_retN, ex_ite, bndS_ok, bndS_ite, tstS_ok, tstS_ite, thn_nx, thn_rt, thn_er, thn_none, thn_ite, fnK_rt, fnK_nx, fnK_er, fnK_ite, asgK_some, asgTg_name, asgTg_tup, asgTup_cons, asgTup_nil, putK_some, augK_int, augV_int, parK_l, ev_var, ev_gc, ev_int, ev_str, ev_bl, ev_non, ev_bin, ev_neg, ev_not, ev_cmp, ev_chain, ev_inr, ev_and, ev_or, ev_one, ev_ite, ev_nil, ev_cons, ev_tup, ev_lst, ev_dnew, ev_idx, ev_sl, ev_rev, ev_call, ev_bi, ev_isi, ev_meth, bnd_ok, bnd_none, bnd_ite, tstE_ok, tstE_ite, mrg_bl, mrg_int, notK_bl, negK_int, outB_some, outV_some, outK_val, outK_fr, outK_new, outK_ite, chainK_some, lstK_l, partK_int, nop_t, nonop_int, nonop_var, nonop_bin, nonop_neg, inrK_int, mtK_some, callK_t, varK_s, slK_nn, slK_ni, slK_in, slK_ii, b_add, b_sub, b_mul, b_fdiv, b_mod, b_pow, c_eq, c_ne, c_lt, c_le, c_gt, c_ge, bi_len, bi_abs, bi_max2, bi_min2, bi_max1, bi_min1, bi_sum, bi_all, bi_tuple, bi_list, bi_sorted, bi_int, bi_intb, bi_str, len_tup, len_lst, len_scr, rb1, rb2, List.map_cons, List.map_nil, List.length_cons, List.length_nil, List.replicate, List.cons_append, List.nil_append, List.getElem?_cons_succ, List.getElem?_cons_zero, List.set_cons_succ, List.set_cons_zero, if_true, if_false, Bool.false_eq_true, Bool.not_true, Bool.not_false, e3, LIM, hz2]
  have s4 : ex (.asg (.name 5) (.dnew true true)) [some (.ref i), some (.int most), some (.int n), some (.int w), some (.int z), none, none, none, none, none] (S.set i (pen a3 b c3)) = some (.nx (lw i most n w z S.length none none none none), S2 S i (pen a3 b c3) (.dT [])) := by
    simp [fn_app, ex_nil, ex_skip, ex_seq, ex_expr, ex_asg, ex_par, ex_setI, ex_aug, ex_ret, ex_retN, ex_ite, bndS_ok, bndS_ite, tstS_ok, tstS_ite, thn_nx, thn_rt, thn_er, thn_none, thn_ite, fnK_rt, fnK_nx, fnK_er, fnK_ite, asgK_some, asgTg_name, asgTg_tup, asgTup_cons, asgTup_nil, putK_some, augK_int, augV_int, parK_l, ev_var, ev_gc, ev_int, ev_str, ev_bl, ev_non, ev_bin, ev_neg, ev_not, ev_cmp, ev_chain, ev_inr, ev_and, ev_or, ev_one, ev_ite, ev_nil, ev_cons, ev_tup, ev_lst, ev_dnew, ev_idx, ev_sl, ev_rev, ev_call, ev_bi, ev_isi, ev_meth, bnd_ok, bnd_none, bnd_ite, tstE_ok, tstE_ite, mrg_bl, mrg_int, notK_bl, negK_int, outB_some, outV_some, outK_val, outK_fr, outK_new, outK_ite, chainK_some, lstK_l, partK_int, nop_t, nonop_int, nonop_var, nonop_bin, nonop_neg, inrK_int, mtK_some, callK_t, varK_s, slK_nn, slK_ni, slK_in, slK_ii, b_add, b_sub, b_mul, b_fdiv, b_mod, b_pow, c_eq, c_ne, c_lt, c_le, c_gt, c_ge, bi_len, bi_abs, bi_max2, bi_min2, bi_max1, bi_min1, bi_sum, bi_all, bi_tuple, bi_list, bi_sorted, bi_int, bi_intb, bi_str, len_tup, len_lst, len_scr, rb1, rb2, List.map_cons, List.map_nil, List.length_cons, List.length_nil, List.replicate, List.cons_append, List.nil_append, List.getElem?_cons_succ, List.getElem?_cons_zero, List.set_cons_succ, List.set_cons_zero, if_true, if_false, Bool.false_eq_true, Bool.not_true, Bool.not_false, lw, S2]
  obtain ⟨a5, c5, kvs5, y7, s5, k5, l5⟩ : ∃ a' c' kvs y7, ex (.ite (.cmp .Gt (.var 3) (.int 0)) (.seq (.loop (.name 7) (.rng (.cons (.var 2) .nil)) (.seq (.setI (.var 5) (.tup (.cons (.var 7) (.cons (.bin false .Mod (.bin false .Add (.var 7) (.int 1)) (.var 2)) .nil))) (.bin false .Sub (.call true "_law_draw" F__law_draw (.cons (.var 0) (.cons (.bin false .Add (.bin false .Mult (.int 2) (.var 4)) (.int 1)) .nil))) (.var 4)))
  .nil)) .nil) .nil) (lw i most n w z S.length none none none none) (S2 S i (pen a3 b c3) (.dT [])) = some (.nx (lw i most n w z S.length none y7 none none), S2 S i (pen a' b c') (.dT kvs)) ∧ Kv kvs ∧ kvs.length ≤ n.toNat := by
    by_cases hw : 0 < w
    · obtain ⟨a5, c5, kvs5, y7, e, k, l⟩ := wb_loop1 (S := S) hi (most := most) (w := w) hz hn1.1 (by omega) (a := a3) (b := b) (c := c3) (x6 := none) (x7 := none) (x8 := none) (x9 := none)
      refine ⟨a5, c5, kvs5, y7, ?_, k, l⟩
      rw [ex_ite]
      have t : ev (.cmp .Gt (.var 3) (.int 0)) (lw i most n w z S.length none none none none) (S2 S i (pen a3 b c3) (.dT [])) = some (.ok (.bl true), S2 S i (pen a3 b c3) (.dT [])) := by
        simp [fn_app, ex_nil, ex_skip, ex_seq, ex_expr, ex_asg, ex_par, ex_setI, ex_aug, ex_ret, ex_retN, ex_ite, bndS_ok, bndS_ite, tstS_ok, tstS_ite, thn_nx, thn_rt, thn_er, thn_none, thn_ite, fnK_rt, fnK_nx, fnK_er, fnK_ite, asgK_some, asgTg_name, asgTg_tup, asgTup_cons, asgTup_nil, putK_some, augK_int, augV_int, parK_l, ev_var, ev_gc, ev_int, ev_str, ev_bl, ev_non, ev_bin, ev_neg, ev_not, ev_cmp, ev_chain, ev_inr, ev_and, ev_or, ev_one, ev_ite, ev_nil, ev_cons, ev_tup, ev_lst, ev_dnew, ev_idx, ev_sl, ev_rev, ev_call, ev_bi, ev_isi, ev_meth, bnd_ok, bnd_none, bnd_ite, tstE_ok, tstE_ite, mrg_bl, mrg_int, notK_bl, negK_int, outB_some, outV_some, outK_val, outK_fr, outK_new, outK_ite, chainK_some, lstK_l, partK_int, nop_t, nonop_int, nonop_var, nonop_bin, nonop_neg, inrK_int, mtK_some, callK_t, varK_s, slK_nn, slK_ni, slK_in, slK_ii, b_add, b_sub, b_mul, b_fdiv, b_mod, b_pow, c_eq, c_ne, c_lt, c_le, c_gt, c_ge, bi_len, bi_abs, bi_max2, bi_min2, bi_max1, bi_min1, bi_sum, bi_all, bi_tuple, bi_list, bi_sorted, bi_int, bi_intb, bi_str, len_tup, len_lst, len_scr, rb1, rb2, List.map_cons, List.map_nil, List.length_cons, List.length_nil, List.replicate, List.cons_append, List.nil_append, List.getElem?_cons_succ, List.getElem?_cons_zero, List.set_cons_succ, List.set_cons_zero, if_true, if_false, Bool.false_eq_true, Bool.not_true, Bool.not_false, lw, hw]
      rw [t, tstS_ok, if_pos rfl, ex_seq, e, thn_nx, ex_nil]
    · refine ⟨a3, c3, [], none, ?_, kv_nil, Nat.zero_le _⟩
      rw [ex_ite]
      have t : ev (.cmp .Gt (.var 3) (.int 0)) (lw i most n w z S.length none none none none) (S2 S i (pen a3 b c3) (.dT [])) = some (.ok (.bl false), S2 S i (pen a3 b c3) (.dT [])) := by
        simp [fn_app, ex_nil, ex_skip, ex_seq, ex_expr, ex_asg, ex_par, ex_setI, ex_aug, ex_ret, ex_retN, ex_ite, bndS_ok, bndS_ite, tstS_ok, tstS_ite, thn_nx, thn_rt, thn_er, thn_none, thn_ite, fnK_rt, fnK_nx, fnK_er, fnK_ite, asgK_some, asgTg_name, asgTg_tup, asgTup_cons, asgTup_nil, putK_some, augK_int, augV_int, parK_l, ev_var, ev_gc, ev_int, ev_str, ev_bl, ev_non, ev_bin, ev_neg, ev_not, ev_cmp, ev_chain, ev_inr, ev_and, ev_or, ev_one, ev_ite, ev_nil, ev_cons, ev_tup, ev_lst, ev_dnew, ev_idx, ev_sl, ev_rev, ev_call, ev_bi, ev_isi, ev_meth, bnd_ok, bnd_none, bnd_ite, tstE_ok, tstE_ite, mrg_bl, mrg_int, notK_bl, negK_int, outB_some, outV_some, outK_val, outK_fr, outK_new, outK_ite, chainK_some, lstK_l, partK_int, nop_t, nonop_int, nonop_var, nonop_bin, nonop_neg, inrK_int, mtK_some, callK_t, varK_s, slK_nn, slK_ni, slK_in, slK_ii, b_add, b_sub, b_mul, b_fdiv, b_mod, b_pow, c_eq, c_ne, c_lt, c_le, c_gt, c_ge, bi_len, bi_abs, bi_max2, bi_min2, bi_max1, bi_min1, bi_sum, bi_all, bi_tuple, bi_list, bi_sorted, bi_int, bi_intb, bi_str, len_tup, len_lst, len_scr, rb1, rb2, List.map_cons, List.map_nil, List.length_cons, List.length_nil, List.replicate, List.cons_append, List.nil_append, List.getElem?_cons_succ, List.getElem?_cons_zero, List.set_cons_succ, List.set_cons_zero, if_true, if_false, Bool.false_eq_true, Bool.not_true, Bool.not_false, lw, hw]
      rw [t, tstS_ok, if_neg (by decide), ex_nil]
  obtain ⟨a6, c6, kvs6, y6, y8, y9, s6, k6, l6⟩ := wb_loop2 (S := S) hi (most := most) (w := w) hz hn1.1 (by omega) (a := a5) (b := b) (c := c5) k5 (by omega) (x6 := none) (x7 := y7) (x8 := none) (x9 := none)
  obtain ⟨kvs7, s7, k7, l7⟩ : ∃ kvs, ex (.ite (.cmp .Eq (.var 3) (.int 3)) (.seq (.expr (.meth .popT (.var 5) (.cons (.tup (.cons (.int 0) (.cons (.bin false .Mod (.int 1) (.var 2)) .nil))) (.cons (.int 0) .nil)))) .nil) .nil) (lw i most n w z S.length y6 y7 y8 y9) (S2 S i (pen a6 b c6) (.dT kvs6)) = some (.nx (lw i most n w z S.length y6 y7 y8 y9), S2 S i (pen a6 b c6) (.dT kvs)) ∧ Kv kvs ∧ kvs.length ≤ kvs6.length := by
    have hd : (S2 S i (pen a6 b c6) (.dT kvs6))[S.length]? = some (.dT kvs6) := S2_own
    by_cases hw : w = 3
    · have hty : mtTy .popT (.ref S.length) (S2 S i (pen a6 b c6) (.dT kvs6)) = true := by simp only [mtTy, hd]
      have t : ev (.cmp .Eq (.var 3) (.int 3)) (lw i most n w z S.length y6 y7 y8 y9) (S2 S i (pen a6 b c6) (.dT kvs6)) = some (.ok (.bl true), S2 S i (pen a6 b c6) (.dT kvs6)) := by
        simp [fn_app, ex_nil, ex_skip, ex_seq, ex_expr, ex_asg, ex_par, ex_setI, ex_aug, ex_ret, ex_retN, ex_ite, bndS_ok, bndS_ite, tstS_ok, tstS_ite, thn_nx, thn_rt, thn_er, thn_none, thn_ite, fnK_rt, fnK_nx, fnK_er, fnK_ite, asgK_some, asgTg_name, asgTg_tup, asgTup_cons, asgTup_nil, putK_some, augK_int, augV_int, parK_l, ev_var, ev_gc, ev_int, ev_str, ev_bl, ev_non, ev_bin, ev_neg, ev_not, ev_cmp, ev_chain, ev_inr, ev_and, ev_or, ev_one, ev_ite, ev_nil, ev_cons, ev_tup, ev_lst, ev_dnew, ev_idx, ev_sl, ev_rev, ev_call, ev_bi, ev_isi, ev_meth, bnd_ok, bnd_none, bnd_ite, tstE_ok, tstE_ite, mrg_bl, mrg_int, notK_bl, negK_int, outB_some, outV_some, outK_val, outK_fr, outK_new, outK_ite, chainK_some, lstK_l, partK_int, nop_t, nonop_int, nonop_var, nonop_bin, nonop_neg, inrK_int, mtK_some, callK_t, varK_s, slK_nn, slK_ni, slK_in, slK_ii, b_add, b_sub, b_mul, b_fdiv, b_mod, b_pow, c_eq, c_ne, c_lt, c_le, c_gt, c_ge, bi_len, bi_abs, bi_max2, bi_min2, bi_max1, bi_min1, bi_sum, bi_all, bi_tuple, bi_list, bi_sorted, bi_int, bi_intb, bi_str, len_tup, len_lst, len_scr, rb1, rb2, List.map_cons, List.map_nil, List.length_cons, List.length_nil, List.replicate, List.cons_append, List.nil_append, List.getElem?_cons_succ, List.getElem?_cons_zero, List.set_cons_succ, List.set_cons_zero, if_true, if_false, Bool.false_eq_true, Bool.not_true, Bool.not_false, lw, hw]
      have args : ev (.cons (.tup (.cons (.int 0) (.cons (.bin false .Mod (.int 1) (.var 2)) .nil))) (.cons (.int 0) .nil)) (lw i most n w z S.length y6 y7 y8 y9) (S2 S i (pen a6 b c6) (.dT kvs6)) = some (.ok (.lst [.tup [.int 0, .int (1 % n)], .int 0]), S2 S i (pen a6 b c6) (.dT kvs6)) := by
        simp [fn_app, ex_nil, ex_skip, ex_seq, ex_expr, ex_asg, ex_par, ex_setI, ex_aug, ex_ret, ex_retN, ex_ite, bndS_ok, bndS_ite, tstS_ok, tstS_ite, thn_nx, thn_rt, thn_er, thn_none, thn_ite, fnK_rt, fnK_nx, fnK_er, fnK_ite, asgK_some, asgTg_name, asgTg_tup, asgTup_cons, asgTup_nil, putK_some, augK_int, augV_int, parK_l, ev_var, ev_gc, ev_int, ev_str, ev_bl, ev_non, ev_bin, ev_neg, ev_not, ev_cmp, ev_chain, ev_inr, ev_and, ev_or, ev_one, ev_ite, ev_nil, ev_cons, ev_tup, ev_lst, ev_dnew, ev_idx, ev_sl, ev_rev, ev_call, ev_bi, ev_isi, ev_meth, bnd_ok, bnd_none, bnd_ite, tstE_ok, tstE_ite, mrg_bl, mrg_int, notK_bl, negK_int, outB_some, outV_some, outK_val, outK_fr, outK_new, outK_ite, chainK_some, lstK_l, partK_int, nop_t, nonop_int, nonop_var, nonop_bin, nonop_neg, inrK_int, mtK_some, callK_t, varK_s, slK_nn, slK_ni, slK_in, slK_ii, b_add, b_sub, b_mul, b_fdiv, b_mod, b_pow, c_eq, c_ne, c_lt, c_le, c_gt, c_ge, bi_len, bi_abs, bi_max2, bi_min2, bi_max1, bi_min1, bi_sum, bi_all, bi_tuple, bi_list, bi_sorted, bi_int, bi_intb, bi_str, len_tup, len_lst, len_scr, rb1, rb2, List.map_cons, List.map_nil, List.length_cons, List.length_nil, List.replicate, List.cons_append, List.nil_append, List.getElem?_cons_succ, List.getElem?_cons_zero, List.set_cons_succ, List.set_cons_zero, if_true, if_false, Bool.false_eq_true, Bool.not_true, Bool.not_false, lw, hn1.1, LIM]
      have hv : (lw i most n w z S.length y6 y7 y8 y9)[5]? = some (some (.ref S.length)) := rfl
      cases hlk : lookK kvs6 [.inl 0, .inl (1 % n)] with
      | none =>
        have hm : mtF .popT (.ref S.length) [.tup [.int 0, .int (1 % n)], .int 0] (S2 S i (pen a6 b c6) (.dT kvs6)) = some (.int 0, S2 S i (pen a6 b c6) (.dT kvs6)) := by
          simp only [mtF, hd, T.keyT, T.keysOf, T.key, hlk]
        refine ⟨kvs6, ?_, k6, Nat.le_refl _⟩
        rw [ex_ite, t, tstS_ok, if_pos rfl, ex_seq, ex_expr, ev_meth, ev_var, hv, varK_s, bnd_ok, if_pos hty, args, bnd_ok, lstK_l, hm, mtK_some, bndS_ok, thn_nx, ex_nil]
      | some v =>
        have hm : mtF .popT (.ref S.length) [.tup [.int 0, .int (1 % n)], .int 0] (S2 S i (pen a6 b c6) (.dT kvs6)) = some (v, S2 S i (pen a6 b c6) (.dT (dropD kvs6 [.inl 0, .inl (1 % n)]))) := by
          simp only [mtF, hd, T.keyT, T.keysOf, T.key, hlk]
          rw [S2_seto]
        obtain ⟨d1, d2⟩ := kv_drop k6 [.inl 0, .inl (1 % n)]
        refine ⟨_, ?_, d1, d2⟩
        rw [ex_ite, t, tstS_ok, if_pos rfl, ex_seq, ex_expr, ev_meth, ev_var, hv, varK_s, bnd_ok, if_pos hty, args, bnd_ok, lstK_l, hm, mtK_some, bndS_ok, thn_nx, ex_nil]
    · have t : ev (.cmp .Eq (.var 3) (.int 3)) (lw i most n w z S.length y6 y7 y8 y9) (S2 S i (pen a6 b c6) (.dT kvs6)) = some (.ok (.bl false), S2 S i (pen a6 b c6) (.dT kvs6)) := by
        simp [fn_app, ex_nil, ex_skip, ex_seq, ex_expr, ex_asg, ex_par, ex_setI, ex_aug, ex_ret, ex_retN, ex_ite, bndS_ok, bndS_ite, tstS_ok, tstS_ite, thn_nx, thn_rt, thn_er, thn_none, thn_ite, fnK_rt, fnK_nx, fnK_er, fnK_ite, asgK_some, asgTg_name, asgTg_tup, asgTup_cons, asgTup_nil, putK_some, augK_int, augV_int, parK_l, ev_var, ev_gc, ev_int, ev_str, ev_bl, ev_non, ev_bin, ev_neg, ev_not, ev_cmp, ev_chain, ev_inr, ev_and, ev_or, ev_one, ev_ite, ev_nil, ev_cons, ev_tup, ev_lst, ev_dnew, ev_idx, ev_sl, ev_rev, ev_call, ev_bi, ev_isi, ev_meth, bnd_ok, bnd_none, bnd_ite, tstE_ok, tstE_ite, mrg_bl, mrg_int, notK_bl, negK_int, outB_some, outV_some, outK_val, outK_fr, outK_new, outK_ite, chainK_some, lstK_l, partK_int, nop_t, nonop_int, nonop_var, nonop_bin, nonop_neg, inrK_int, mtK_some, callK_t, varK_s, slK_nn, slK_ni, slK_in, slK_ii, b_add, b_sub, b_mul, b_fdiv, b_mod, b_pow, c_eq, c_ne, c_lt, c_le, c_gt, c_ge, bi_len, bi_abs, bi_max2, bi_min2, bi_max1, bi_min1, bi_sum, bi_all, bi_tuple, bi_list, bi_sorted, bi_int, bi_intb, bi_str, len_tup, len_lst, len_scr, rb1, rb2, List.map_cons, List.map_nil, List.length_cons, List.length_nil, List.replicate, List.cons_append, List.nil_append, List.getElem?_cons_succ, List.getElem?_cons_zero, List.set_cons_succ, List.set_cons_zero, if_true, if_false, Bool.false_eq_true, Bool.not_true, Bool.not_false, lw, hw]
      exact ⟨kvs6, by rw [ex_ite, t, tstS_ok, if_neg (by decide), ex_nil], k6, Nat.le_refl _⟩
  obtain ⟨l, s8, l8, lf⟩ := wb_ret (S := S) (i := i) (most := most) (n := n) (w := w) (z := z) (p := pen a6 b c6) k7 (by omega) (x6 := y6) (x7 := y7) (x8 := y8) (x9 := y9)
  refine ⟨a6, c6, kvs7, _, ?_, k7, n, l, rfl, by omega, by omega, by omega, lf⟩
  unfold F__law_web_by B__law_web_by
  rw [fn_app]
  show fnK (ex _ [some (.ref i), some (.int most), none, none, none, none, none, none, none, none] S) = _
  rw [ex_seq, s1, thn_nx, ex_seq, s2, thn_nx, ex_seq, s3, thn_nx, ex_seq, s4, thn_nx, ex_seq, s5, thn_nx, ex_seq, s6, thn_nx, ex_seq, s7, thn_nx, ex_seq, s8, thn_rt, fnK_rt]
end H

namespace H
open PySem PySem.Spec L2 TL
theorem c_eqb (a b : Bool) (S : Sto) : cmpB .Eq (.bl a) (.bl b) S = some (a == b) := by
  simp [cmpB, eqD, Sto.toD, T.toD, PyData.depth, PyData.eqv]
theorem pls_append {xs ys : List T} : pls (xs ++ ys) = (pls xs && pls ys) := by
  induction xs with
  | nil => rfl
  | cons x xs ih => simp [pls, ih, Bool.and_assoc]
theorem pls_take {xs : List T} (h : pls xs = true) (k : Nat) : pls (xs.take k) = true := by
  induction xs generalizing k with
  | nil => simp [pls]
  | cons x xs ih =>
    cases k with
    | zero => rfl
    | succ k =>
      obtain ⟨a, b⟩ := pls_cons h
      simp [pls, a, ih b k]
theorem pls_drop {xs : List T} (h : pls xs = true) (k : Nat) : pls (xs.drop k) = true := by
  induction xs generalizing k with
  | nil => simp [pls]
  | cons x xs ih =>
    cases k with
    | zero => exact h
    | succ k => exact ih (pls_cons h).2 k
theorem pls_cut {xs : List T} (h : pls xs = true) (a b : Option Int) : pls (cutT xs a b) = true := pls_take (pls_drop h _) _
theorem cut_len (xs : List T) (a b : Option Int) : (cutT xs a b).length ≤ xs.length := by
  unfold cutT
  rw [List.length_take, List.length_drop]
  omega
theorem pls_rev {xs : List T} (h : pls xs = true) : pls xs.reverse = true := by
  induction xs with
  | nil => rfl
  | cons x xs ih =>
    obtain ⟨a, b⟩ := pls_cons h
    rw [List.reverse_cons, pls_append, ih b]
    simp [pls, a]
theorem pls_map_ints (l : List (List Int)) : pls (l.map T.ofInts) = true := by
  induction l with
  | nil => rfl
  | cons x l ih =>
    have h1 : ∀ ns : List Int, pls (ns.map T.int) = true := by
      intro ns
      induction ns with
      | nil => rfl
      | cons n ns ih => simp [pls, pl, ih]
    simp [pls, ih, T.ofInts, pl, h1]
theorem idx_in {xs : List T} {d : Int} (h0 : 0 ≤ d) (h1 : d < xs.length) (S : Sto) : ∃ t ∈ xs, idxF (.lst xs) (.int d) S = some t := by
  have hd : d.toNat < xs.length := by omega
  refine ⟨xs[d.toNat], List.getElem_mem hd, ?_⟩
  simp only [idxF, Sto.seq, L2.atI, L2.ixN]
  rw [if_pos h0, if_pos h1]
  simp [hd]
theorem idx_in_tup {xs : List T} {d : Int} (h0 : 0 ≤ d) (h1 : d < xs.length) (S : Sto) : ∃ t ∈ xs, idxF (.tup xs) (.int d) S = some t := idx_in h0 h1 S
theorem add_tup (xs ys : List T) (S : Sto) : binF .Add (.tup xs) (.tup ys) S = if xs.length + ys.length ≤ LIM then some (.val (.tup (xs ++ ys))) else none := by
  show guardR _ _ = _
  unfold guardR
  simp
theorem add_lst (xs ys : List T) (S : Sto) : binF .Add (.lst xs) (.lst ys) S = if xs.length + ys.length ≤ LIM then some (.fresh (xs ++ ys)) else none := by
  have : binF .Add (.lst xs) (.lst ys) S = catF (.lst xs) (.lst ys) S := by
    cases xs <;> rfl
  rw [this]
  simp [catF, Sto.items, guardR]
theorem ne_tup_nil (xs : List T) (S : Sto) (h : ∀ t ∈ xs, ∃ a b c, t = trip a b c) : cmpB .NotEq (.tup xs) (.tup []) S = some (!xs.isEmpty) := by
  have hd : ∀ f, ∃ ds, T.toDs f xs = some ds ∧ ds.length = xs.length := by
    intro f
    induction xs with
    | nil => exact ⟨[], rfl, rfl⟩
    | cons t r ih =>
      obtain ⟨ds, e, el⟩ := ih fun u hu => h u (List.mem_cons_of_mem _ hu)
      obtain ⟨a, b, c, rfl⟩ := h t List.mem_cons_self
      exact ⟨PyData.tuple [PyData.int a, PyData.int b, PyData.int c] :: ds, by simp [T.toDs, trip, T.toD, e], by simp [el]⟩
  obtain ⟨ds, e, el⟩ := hd (S.refD 4)
  have e1 : Sto.toD S (.tup xs) = some (.tuple ds) := by simp [Sto.toD, T.toD, e]
  have e2 : Sto.toD S (.tup []) = some (.tuple []) := rfl
  cases ds with
  | nil =>
    have : xs = [] := by simpa using el.symm
    subst this
    simp [cmpB, eqD, e1, e2, PyData.depth, PyData.depthAll, PyData.eqv, PyData.eqvAll]
  | cons x ds =>
    have : xs ≠ [] := by rintro rfl; simp at el
    have hb : xs.isEmpty = false := by cases xs <;> simp_all
    have hd : min (PyData.tuple (x :: ds)).depth (PyData.tuple []).depth ≤ 60 := Nat.le_trans (Nat.min_le_right _ _) (by simp [PyData.depth, PyData.depthAll])
    simp [cmpB, eqD, e1, e2, hd, PyData.eqv, PyData.eqvAll, hb]
end H

namespace K01
open PySem PySem.Spec L2 TL H
def B__law_odd_arrow : Sm := (.seq (.asg (.name 2) (.idx (.var 0) (.int 0)))
  (.seq (.asg (.name 3) (.lst false (.cons (.tup (.cons (.int 0) (.cons (.var 2) (.cons (.int 1) .nil)))) (.cons (.tup (.cons (.var 2) (.cons (.int 0) (.cons (.int 1) .nil)))) (.cons (.tup (.cons (.neg (.int 1)) (.cons (.int 0) (.cons (.int 1) .nil)))) (.cons (.tup (.cons (.int 0) (.cons (.int 0) (.cons (.bin false .Pow (.int 10) (.int 30)) .nil)))) (.cons (.tup (.cons (.int 0) (.cons (.int 0) (.cons (.bin false .Add (.bin false .Pow (.int 10) (.int 30)) (.int 1)) .nil)))) (.cons (.tup (.cons (.int 0) (.cons (.int 0) (.cons (.bin false .Sub (.neg (.int 1)) (.bin false .Pow (.int 10) (.int 30))) .nil)))) (.cons .non .nil)))))))))
  (.seq (.asg (.name 3) (.bin false .Add (.var 3) (.lst false (.cons (.tup (.cons (.int 0) (.cons (.int 0) .nil))) (.cons (.tup (.cons (.int 0) (.cons (.int 0) (.cons (.int 1) (.cons (.int 1) .nil))))) (.cons (.lst false (.cons (.int 0) (.cons (.int 0) (.cons (.int 1) .nil)))) (.cons (.tup (.cons (.bl true) (.cons (.int 0) (.cons (.int 1) .nil)))) (.cons (.tup (.cons (.int 0) (.cons (.int 0) (.cons (.bl true) .nil)))) (.cons (.tup (.cons (.int 0) (.cons (.int 0) (.cons .non .nil)))) (.cons (.tup (.cons (.int 0) (.cons (.str "0") (.cons (.int 1) .nil)))) (.cons (.tup (.cons (.int 0) (.cons (.int 0) (.cons (.int 5) .nil)))) .nil)))))))))))
  (.seq (.ite (.cmp .NotEq (.idx (.var 0) (.int 1)) (.tup .nil)) (.seq (.asg (.tup [4, 5, 6]) (.idx (.idx (.var 0) (.int 1)) (.call true "_law_draw" F__law_draw (.cons (.var 1) (.cons (.bi false .len (.cons (.idx (.var 0) (.int 1)) .nil)) .nil)))))
  (.seq (.asg (.name 3) (.bin false .Add (.var 3) (.lst false (.cons (.tup (.cons (.var 4) (.cons (.var 5) (.cons (.bin false .Add (.var 6) (.int 1)) .nil)))) (.cons (.tup (.cons (.var 4) (.cons (.var 5) (.cons (.var 6) .nil)))) (.cons (.tup (.cons (.var 4) (.cons (.var 5) (.cons (.bin false .Sub (.int 0) (.var 6)) .nil)))) .nil))))))
  .nil)) .nil)
  (.seq (.ret (.idx (.var 3) (.call true "_law_draw" F__law_draw (.cons (.var 1) (.cons (.bi false .len (.cons (.var 3) .nil)) .nil)))))
  .nil)))))
def F__law_odd_arrow : FnS := fnS 7 B__law_odd_arrow
def B__law_odd_web : Sm := (.seq (.asg (.tup [5, 6]) (.var 0))
  (.seq (.asg (.name 2) (.call true "_law_draw" F__law_draw (.cons (.var 1) (.cons (.bin false .Add (.bi false .len (.cons (.var 6) .nil)) (.int 1)) .nil))))
  (.seq (.asg (.name 3) (.call true "_law_odd_arrow" F__law_odd_arrow (.cons (.var 0) (.cons (.var 1) .nil))))
  (.seq (.asg (.name 4) (.lst false (.cons (.tup (.cons (.var 5) (.cons (.bin false .Add (.bin false .Add (.sl false (.var 6) .nop (.var 2)) (.tup (.cons (.var 3) .nil))) (.sl false (.var 6) (.var 2) .nop)) .nil))) (.cons (.tup (.cons (.var 5) (.cons (.bin false .Add (.bin false .Add (.sl false (.var 6) .nop (.var 2)) (.tup (.cons (.var 3) .nil))) (.sl false (.var 6) (.bin false .Add (.var 2) (.int 1)) .nop)) .nil))) .nil))))
  (.seq (.asg (.name 4) (.bin false .Add (.var 4) (.lst false (.cons (.tup (.cons (.int 0) (.cons (.var 6) .nil))) (.cons (.tup (.cons (.int 9) (.cons (.var 6) .nil))) (.cons (.tup (.cons (.bl true) (.cons (.var 6) .nil))) (.cons (.tup (.cons .non (.cons (.var 6) .nil))) (.cons (.tup (.cons (.var 5) (.cons (.bi false .list (.cons (.var 6) .nil)) .nil))) (.cons (.lst false (.cons (.var 5) (.cons (.var 6) .nil))) .nil)))))))))
  (.seq (.asg (.name 4) (.bin false .Add (.var 4) (.lst false (.cons (.tup (.cons (.var 5) (.cons (.rev false (.var 6)) .nil))) (.cons (.tup (.cons (.var 5) (.cons (.bin false .Add (.var 6) (.sl false (.var 6) (.neg (.int 1)) .nop)) .nil))) (.cons (.tup (.cons (.var 5) (.cons (.var 6) (.cons (.tup .nil) .nil)))) (.cons (.var 6) (.cons .non (.cons (.dnew false false) (.cons (.tup (.cons (.var 5) .nil)) .nil))))))))))
  (.seq (.ret (.idx (.bin false .Add (.bin false .Mult (.sl false (.var 4) .nop (.int 2)) (.int 4)) (.var 4)) (.call true "_law_draw" F__law_draw (.cons (.var 1) (.cons (.int 23) .nil)))))
  .nil)))))))
def F__law_odd_web : FnS := fnS 7 B__law_odd_web
def B__law_right : Sm := (.seq (.asg (.name 1) (.call true "web_good" F_web_good (.cons (.var 0) .nil)))
  (.seq (.ret (.and (.isi (.var 1) "bool") (.and (.cmp .Eq (.var 1) (.call true "_law_web_good" F__law_web_good (.cons (.var 0) .nil))) (.one (.cmp .Eq (.call true "web_good" F_web_good (.cons (.var 0) .nil)) (.var 1))))))
  .nil))
def F__law_right : FnS := fnS 2 B__law_right
def B_law : Sm := (.seq (.asg (.name 1) (.bi false .tuple (.cons (.comp false [("_law_k", 7)] (.name 7) (.rng (.cons (.int 25) .nil)) .nop (.tup (.cons (.bin false .FloorDiv (.var 7) (.int 5)) (.cons (.bin false .Mod (.var 7) (.int 5)) (.cons (.var 7) .nil))))) .nil)))
  (.seq (.loop (.name 2) (.seq (.lst false (.cons (.tup (.cons (.int 5) (.cons (.sl false (.var 1) .nop (.int 24)) .nil))) (.cons (.tup (.cons (.int 5) (.cons (.var 1) .nil))) (.cons (.tup (.cons (.int 1) (.cons (.tup .nil) .nil))) (.cons (.tup (.cons (.int 1) (.cons (.tup (.cons (.tup (.cons (.int 0) (.cons (.int 0) (.cons (.int 3) .nil)))) .nil)) .nil))) (.cons (.tup (.cons (.int 0) (.cons (.tup .nil) .nil))) (.cons (.tup (.cons (.int 8) (.cons (.tup .nil) .nil))) (.cons (.tup (.cons (.int 9) (.cons (.tup .nil) .nil))) (.cons (.tup (.cons (.int 2) (.cons (.tup (.cons (.tup (.cons (.int 1) (.cons (.int 0) (.cons (.int 1) .nil)))) .nil)) .nil))) .nil)))))))))) (.seq (.ite (.not (.call true "_law_right" F__law_right (.cons (.var 2) .nil))) (.seq (.ret (.bl false))
  .nil) .nil)
  .nil))
  (.seq (.loop (.name 3) (.seq (.bin false .Add (.lst false (.cons (.call true "_law_cell_at" F__law_cell_at (.cons (.var 0) (.cons (.int 0) .nil))) .nil)) (.sl false (.var 0) (.int 1) (.int 8)))) (.seq (.asg (.name 4) (.call true "_law_pen_of" F__law_pen_of (.cons (.var 3) .nil)))
  (.seq (.asg (.name 5) (.call false "_law_web_by" F__law_web_by (.cons (.var 4) (.cons (.int 8) .nil))))
  (.seq (.ite (.not (.call true "_law_right" F__law_right (.cons (.var 5) .nil))) (.seq (.ret (.bl false))
  .nil) .nil)
  (.seq (.loop (.name 6) (.rng (.cons (.int 5) .nil)) (.seq (.ite (.not (.call true "_law_right" F__law_right (.cons (.call true "_law_odd_web" F__law_odd_web (.cons (.var 5) (.cons (.var 4) .nil))) .nil))) (.seq (.ret (.bl false))
  .nil) .nil)
  .nil))
  .nil)))))
  (.seq (.ret (.bl true))
  .nil))))
def F_law : FnS := fnS 8 B_law
end K01

namespace K01
open PySem PySem.Spec L2 TL H
theorem right_eq {t : T} {S : Sto} (h : pl t = true) : F__law_right [t] S = some (.ok (.bl true), S) := by
  unfold F__law_right B__law_right
  have hi : isiF "bool" (.bl (webB t)) S = some true := rfl
  simp [fn_app, ex_nil, ex_skip, ex_seq, ex_expr, ex_asg, ex_par, ex_setI, ex_aug, ex_ret, ex_retN, ex_ite, bndS_ok, bndS_ite, tstS_ok, tstS_ite, thn_nx, thn_rt, thn_er, thn_none, thn_ite, fnK_rt, fnK_nx, fnK_er, fnK_ite, asgK_some, asgTg_name, asgTg_tup, asgTup_cons, asgTup_nil, putK_some, augK_int, augV_int, parK_l, ev_var, ev_gc, ev_int, ev_str, ev_bl, ev_non, ev_bin, ev_neg, ev_not, ev_cmp, ev_chain, ev_inr, ev_and, ev_or, ev_one, ev_ite, ev_nil, ev_cons, ev_tup, ev_lst, ev_dnew, ev_idx, ev_sl, ev_rev, ev_call, ev_bi, ev_isi, ev_meth, bnd_ok, bnd_none, bnd_ite, tstE_ok, tstE_ite, mrg_bl, mrg_int, notK_bl, negK_int, outB_some, outV_some, outK_val, outK_fr, outK_new, outK_ite, chainK_some, lstK_l, partK_int, nop_t, nonop_int, nonop_var, nonop_bin, nonop_neg, inrK_int, mtK_some, callK_t, varK_s, slK_nn, slK_ni, slK_in, slK_ii, b_add, b_sub, b_mul, b_fdiv, b_mod, b_pow, c_eq, c_ne, c_lt, c_le, c_gt, c_ge, bi_len, bi_abs, bi_max2, bi_min2, bi_max1, bi_min1, bi_sum, bi_all, bi_tuple, bi_list, bi_sorted, bi_int, bi_intb, bi_str, len_tup, len_lst, len_scr, rb1, rb2, List.map_cons, List.map_nil, List.length_cons, List.length_nil, List.replicate, List.cons_append, List.nil_append, List.getElem?_cons_succ, List.getElem?_cons_zero, List.set_cons_succ, List.set_cons_zero, if_true, if_false, Bool.false_eq_true, Bool.not_true, Bool.not_false, web_good_eq t S h, law_web_good_eq t S h, c_eqb, hi]

/-- a web of triples -/
def WebT (n : Int) (arrows : List T) : Prop := (∀ t ∈ arrows, ∃ a b c, t = trip a b c) ∧ arrows.length ≤ 1000
theorem webT_pls {n : Int} {arrows : List T} (h : WebT n arrows) : pls arrows = true := by
  obtain ⟨h, _⟩ := h
  induction arrows with
  | nil => rfl
  | cons t r ih =>
    obtain ⟨a, b, c, rfl⟩ := h t List.mem_cons_self
    have := ih (fun u hu => h u (List.mem_cons_of_mem _ hu)) (by simp at *; omega)
    simp [pls, trip, pl, this]
theorem fin_idx {L : List T} {l : Lo} {d : Int} {S : Sto} (h0 : 0 ≤ d) (h1 : d < L.length) (hp : pls L = true) : ∃ t, fnK (TL.thn (bndS l (outV (idxF (.lst L) (.int d) S) S) fun t S1 => some (.rt t, S1)) fun l1 S1 => some (.nx l1, S1)) = some (.ok t, S) ∧ pl t = true := by
  obtain ⟨t, ht, e⟩ := idx_in h0 h1 S
  exact ⟨t, by rw [e, outV_some, bndS_ok, thn_rt, fnK_rt], pls_mem hp t ht⟩
theorem odd_arrow_ex {S : Sto} {i : Nat} {a b c n : Int} {arrows : List T} (h : S[i]? = some (pen a b c)) (hw : WebT n arrows) :
    ∃ a' c' t, F__law_odd_arrow [.tup [.int n, .tup arrows], .ref i] S = some (.ok t, S.set i (pen a' b c')) ∧ pl t = true := by
  have hi : i < S.length := (List.getElem?_eq_some_iff.mp h).1
  have gS : ∀ p, (S.set i p)[i]? = some p := fun p => List.getElem?_set_self hi
  have e0 : ∀ S, idxF (.tup [.int n, .tup arrows]) (.int 0) S = some (.int n) := fun _ => rfl
  have e1 : ∀ S, idxF (.tup [.int n, .tup arrows]) (.int 1) S = some (.tup arrows) := fun _ => rfl
  have hne : ∀ S, cmpB .NotEq (.tup arrows) (.tup []) S = some (!arrows.isEmpty) := fun S => ne_tup_nil arrows S hw.1
  unfold F__law_odd_arrow B__law_odd_arrow
  by_cases hemp : arrows = []
  · subst hemp
    obtain ⟨a2, c2, d2, e2, d20, d21⟩ := draw_ex h (m := 15) (by decide) (small_log (by decide) (by decide))
    simp [fn_app, ex_nil, ex_skip, ex_seq, ex_expr, ex_asg, ex_par, ex_setI, ex_aug, ex_ret, ex_retN, ex_ite, bndS_ok, bndS_ite, tstS_ok, tstS_ite, thn_nx, thn_rt, thn_er, thn_none, thn_ite, fnK_rt, fnK_nx, fnK_er, fnK_ite, asgK_some, asgTg_name, asgTg_tup, asgTup_cons, asgTup_nil, putK_some, augK_int, augV_int, parK_l, ev_var, ev_gc, ev_int, ev_str, ev_bl, ev_non, ev_bin, ev_neg, ev_not, ev_cmp, ev_chain, ev_inr, ev_and, ev_or, ev_one, ev_ite, ev_nil, ev_cons, ev_tup, ev_lst, ev_dnew, ev_idx, ev_sl, ev_rev, ev_call, ev_bi, ev_isi, ev_meth, bnd_ok, bnd_none, bnd_ite, tstE_ok, tstE_ite, mrg_bl, mrg_int, notK_bl, negK_int, outB_some, outV_some, outK_val, outK_fr, outK_new, outK_ite, chainK_some, lstK_l, partK_int, nop_t, nonop_int, nonop_var, nonop_bin, nonop_neg, inrK_int, mtK_some, callK_t, varK_s, slK_nn, slK_ni, slK_in, slK_ii, b_add, b_sub, b_mul, b_fdiv, b_mod, b_pow, c_eq, c_ne, c_lt, c_le, c_gt, c_ge, bi_len, bi_abs, bi_max2, bi_min2, bi_max1, bi_min1, bi_sum, bi_all, bi_tuple, bi_list, bi_sorted, bi_int, bi_intb, bi_str, len_tup, len_lst, len_scr, rb1, rb2, List.map_cons, List.map_nil, List.length_cons, List.length_nil, List.replicate, List.cons_append, List.nil_append, List.getElem?_cons_succ, List.getElem?_cons_zero, List.set_cons_succ, List.set_cons_zero, if_true, if_false, Bool.false_eq_true, Bool.not_true, Bool.not_false, e0, e1, hne, LIM, add_lst, e2]
    exact ⟨a2, c2, fin_idx d20 (by simpa using d21) (by simp [pls, pl])⟩
  · have hb : arrows.isEmpty = false := by cases arrows <;> simp_all
    have hlen : 0 < (arrows.length : Int) := by have := List.length_pos_iff.mpr hemp; omega
    have hlen2 : (arrows.length : Int) < 1000000 := by have := hw.2; omega
    obtain ⟨a1, c1, d1, e1', d10, d11⟩ := draw_ex h (m := arrows.length) hlen (small_log hlen hlen2)
    obtain ⟨t, ht, et⟩ := idx_in_tup d10 d11 (S.set i (pen a1 b c1))
    obtain ⟨x, y, z, rfl⟩ := hw.1 t ht
    obtain ⟨a2, c2, d2, e2, d20, d21⟩ := draw_ex (gS (pen a1 b c1)) (m := 18) (by decide) (small_log (by decide) (by decide))
    rw [List.set_set] at e2
    simp [fn_app, ex_nil, ex_skip, ex_seq, ex_expr, ex_asg, ex_par, ex_setI, ex_aug, ex_ret, ex_retN, ex_ite, bndS_ok, bndS_ite, tstS_ok, tstS_ite, thn_nx, thn_rt, thn_er, thn_none, thn_ite, fnK_rt, fnK_nx, fnK_er, fnK_ite, asgK_some, asgTg_name, asgTg_tup, asgTup_cons, asgTup_nil, putK_some, augK_int, augV_int, parK_l, ev_var, ev_gc, ev_int, ev_str, ev_bl, ev_non, ev_bin, ev_neg, ev_not, ev_cmp, ev_chain, ev_inr, ev_and, ev_or, ev_one, ev_ite, ev_nil, ev_cons, ev_tup, ev_lst, ev_dnew, ev_idx, ev_sl, ev_rev, ev_call, ev_bi, ev_isi, ev_meth, bnd_ok, bnd_none, bnd_ite, tstE_ok, tstE_ite, mrg_bl, mrg_int, notK_bl, negK_int, outB_some, outV_some, outK_val, outK_fr, outK_new, outK_ite, chainK_some, lstK_l, partK_int, nop_t, nonop_int, nonop_var, nonop_bin, nonop_neg, inrK_int, mtK_some, callK_t, varK_s, slK_nn, slK_ni, slK_in, slK_ii, b_add, b_sub, b_mul, b_fdiv, b_mod, b_pow, c_eq, c_ne, c_lt, c_le, c_gt, c_ge, bi_len, bi_abs, bi_max2, bi_min2, bi_max1, bi_min1, bi_sum, bi_all, bi_tuple, bi_list, bi_sorted, bi_int, bi_intb, bi_str, len_tup, len_lst, len_scr, rb1, rb2, List.map_cons, List.map_nil, List.length_cons, List.length_nil, List.replicate, List.cons_append, List.nil_append, List.getElem?_cons_succ, List.getElem?_cons_zero, List.set_cons_succ, List.set_cons_zero, if_true, if_false, Bool.false_eq_true, Bool.not_true, Bool.not_false, e0, e1, hne, hb, LIM, add_lst, e1', et, trip, e2]
    exact ⟨a2, c2, fin_idx d20 (by simpa using d21) (by simp [pls, pl])⟩
theorem sl_to (xs : List T) (a b : Option Int) (S : Sto) : slF (.tup xs) a b S = some (.val (.tup (cutT xs a b))) := rfl
theorem sl_lst (xs : List T) (a b : Option Int) (S : Sto) : slF (.lst xs) a b S = some (.fresh (cutT xs a b)) := rfl
theorem cut2 (x y : T) (r : List T) : cutT (x :: y :: r) none (some 2) = [x, y] := by
  have e1 : HT.sIx (x :: y :: r).length 0 none = 0 := HT.sIx_none ..
  have e2 : HT.sIx (x :: y :: r).length (x :: y :: r).length (some 2) = 2 := by
    have := HT.sIx_nat (x :: y :: r).length (x :: y :: r).length 2
    rw [show ((2 : Nat) : Int) = 2 by rfl] at this
    rw [this, List.length_cons, List.length_cons]
    omega
  unfold cutT
  rw [e1, e2]
  rfl
theorem mul4 (x y : T) (S : Sto) : binF .Mult (.lst [x, y]) (.int 4) S = some (.fresh [x, y, x, y, x, y, x, y]) := by
  have : binF .Mult (.lst [x, y]) (.int 4) S = repF (.lst [x, y]) 4 S := rfl
  rw [this]
  simp [repF, Sto.items, guardR, LIM]
theorem odd_web_ex {S : Sto} {i : Nat} {a b c n : Int} {arrows : List T} (h : S[i]? = some (pen a b c)) (hw : WebT n arrows) :
    ∃ a' c' t, F__law_odd_web [.tup [.int n, .tup arrows], .ref i] S = some (.ok t, S.set i (pen a' b c')) ∧ pl t = true := by
  have hi : i < S.length := (List.getElem?_eq_some_iff.mp h).1
  have gS : ∀ p, (S.set i p)[i]? = some p := fun p => List.getElem?_set_self hi
  have hp := webT_pls hw
  have hlen2 : (arrows.length : Int) + 1 < 1000000 := by have := hw.2; omega
  obtain ⟨a1, c1, d1, e1, d10, d11⟩ := draw_ex h (m := (arrows.length : Int) + 1) (by omega) (small_log (by omega) hlen2)
  obtain ⟨a2, c2, odd, e2, po⟩ := odd_arrow_ex (gS (pen a1 b c1)) hw
  rw [List.set_set] at e2
  obtain ⟨a3, c3, d3, e3, d30, d31⟩ := draw_ex (gS (pen a2 b c2)) (m := 23) (by decide) (small_log (by decide) (by decide))
  rw [List.set_set] at e3
  have cl : ∀ x y, (cutT arrows x y).length ≤ 1000 := fun x y => Nat.le_trans (cut_len _ _ _) hw.2
  have g1 : ∀ x y, (cutT arrows x y).length + 1 ≤ 1000000 := fun x y => by have := cl x y; omega
  have g2 : ∀ x y z w, (cutT arrows x y).length + 1 + (cutT arrows z w).length ≤ 1000000 := fun x y z w => by have := cl x y; have := cl z w; omega
  have g3 : ∀ x y, arrows.length + (cutT arrows x y).length ≤ 1000000 := fun x y => by have := cl x y; have := hw.2; omega
  have hlst : ∀ S, listF [.tup arrows] S = some (.fresh arrows) := fun _ => rfl
  have hrev : ∀ S, revF (.tup arrows) S = some (.val (.tup arrows.reverse)) := fun _ => rfl
  unfold F__law_odd_web B__law_odd_web
  simp [fn_app, ex_nil, ex_skip, ex_seq, ex_expr, ex_asg, ex_par, ex_setI, ex_aug, ex_ret, ex_retN, ex_ite, bndS_ok, bndS_ite, tstS_ok, tstS_ite, thn_nx, thn_rt, thn_er, thn_none, thn_ite, fnK_rt, fnK_nx, fnK_er, fnK_ite, asgK_some, asgTg_name, asgTg_tup, asgTup_cons, asgTup_nil, putK_some, augK_int, augV_int, parK_l, ev_var, ev_gc, ev_int, ev_str, ev_bl, ev_non, ev_bin, ev_neg, ev_not, ev_cmp, ev_chain, ev_inr, ev_and, ev_or, ev_one, ev_ite, ev_nil, ev_cons, ev_tup, ev_lst, ev_dnew, ev_idx, ev_sl, ev_rev, ev_call, ev_bi, ev_isi, ev_meth, bnd_ok, bnd_none, bnd_ite, tstE_ok, tstE_ite, mrg_bl, mrg_int, notK_bl, negK_int, outB_some, outV_some, outK_val, outK_fr, outK_new, outK_ite, chainK_some, lstK_l, partK_int, nop_t, nonop_int, nonop_var, nonop_bin, nonop_neg, inrK_int, mtK_some, callK_t, varK_s, slK_nn, slK_ni, slK_in, slK_ii, b_add, b_sub, b_mul, b_fdiv, b_mod, b_pow, c_eq, c_ne, c_lt, c_le, c_gt, c_ge, bi_len, bi_abs, bi_max2, bi_min2, bi_max1, bi_min1, bi_sum, bi_all, bi_tuple, bi_list, bi_sorted, bi_int, bi_intb, bi_str, len_tup, len_lst, len_scr, rb1, rb2, List.map_cons, List.map_nil, List.length_cons, List.length_nil, List.replicate, List.cons_append, List.nil_append, List.getElem?_cons_succ, List.getElem?_cons_zero, List.set_cons_succ, List.set_cons_zero, if_true, if_false, Bool.false_eq_true, Bool.not_true, Bool.not_false, e1, e2, e3, sl_to, sl_lst, add_tup, add_lst, g1, g2, g3, hlst, hrev, LIM, cut2, mul4]
  exact ⟨a3, c3, fin_idx d30 (by simpa using d31) (by simp [pls, pl, pls_append, pls_cut hp, hp, po, pls_rev hp])⟩

def PenS (S : Sto) : Prop := ∀ o ∈ S, ∃ a b c, o = pen a b c
theorem frzWs_ints (lo : Nat) (f : Nat → Option T) : ∀ ns : List Int, T.frzWs lo f (ns.map T.int) = some (ns.map T.int)
  | [] => rfl
  | n :: ns => by simp [T.frzWs, T.frzW, frzWs_ints lo f ns]
theorem frzWs_rows (lo : Nat) (f : Nat → Option T) : ∀ l : List (List Int), T.frzWs lo f (l.map T.ofInts) = some (l.map T.ofInts)
  | [] => rfl
  | x :: l => by
    have ih := frzWs_rows lo f l
    have h1 : T.frzW lo f (T.ofInts x) = some (T.ofInts x) := by simp [T.frzW, T.ofInts, frzWs_ints lo f x]
    simp only [List.map_cons, T.frzWs, h1, ih]
theorem frz_web {S : Sto} {i : Nat} {a b c n : Int} {kvs : List (List L2.Key × T)} {l : List (List Int)} (hS : PenS S) (hi : i < S.length) :
    frzR S.length (some (.ok (.tup [.int n, .tup (l.map T.ofInts)]), S2 S i (pen a b c) (.dT kvs))) = some (.ok (.tup [.int n, .tup (l.map T.ofInts)]), S.set i (pen a b c)) := by
  have ht : (S2 S i (pen a b c) (.dT kvs)).take S.length = S.set i (pen a b c) := by
    unfold S2
    rw [List.take_append_of_le_length (by simp)]
    rw [List.take_of_length_le (by simp)]
  have hall : (S.set i (pen a b c)).all (Ob.und S.length) = true := by
    rw [List.all_eq_true]
    intro o ho
    rcases List.mem_or_eq_of_mem_set ho with h | h
    · obtain ⟨x, y, z, rfl⟩ := hS o h; rfl
    · subst h; rfl
  simp only [frzR, ht, hall, if_true]
  simp [T.frzW, T.frzWs, frzWs_rows]
theorem pens_set {S : Sto} (h : PenS S) (i : Nat) (a b c : Int) : PenS (S.set i (pen a b c)) := by
  intro o ho
  rcases List.mem_or_eq_of_mem_set ho with h' | h'
  · exact h o h'
  · exact ⟨a, b, c, h'⟩
theorem pens_new {S : Sto} (h : PenS S) (a b c : Int) : PenS (S ++ [pen a b c]) := by
  intro o ho
  rcases List.mem_append.mp ho with h' | h'
  · exact h o h'
  · simp at h'; exact ⟨a, b, c, h'⟩
theorem rng5 : rngF [.int 5] = some (intRange 0 5) := by
  simp only [rngF, rngBounds]
  rw [if_pos ⟨by omega, by omega, by omega, by omega⟩]
theorem inner {S : Sto} {i : Nat} {a b c n : Int} {arrows : List T} {x0 x1 x2 x3 x6 x7 : Option T} (h : S[i]? = some (pen a b c)) (hw : WebT n arrows) :
    ∃ a' c' y6, ex (.loop (.name 6) (.rng (.cons (.int 5) .nil)) (.seq (.ite (.not (.call true "_law_right" F__law_right (.cons (.call true "_law_odd_web" F__law_odd_web (.cons (.var 5) (.cons (.var 4) .nil))) .nil))) (.seq (.ret (.bl false)) .nil) .nil) .nil)) [x0, x1, x2, x3, some (.ref i), some (.tup [.int n, .tup arrows]), x6, x7] S = some (.nx [x0, x1, x2, x3, some (.ref i), some (.tup [.int n, .tup arrows]), y6, x7], S.set i (pen a' b c')) := by
  have hi : i < S.length := (List.getElem?_eq_some_iff.mp h).1
  have key := loop_inv (tg := .name 6) (body := ex (.seq (.ite (.not (.call true "_law_right" F__law_right (.cons (.call true "_law_odd_web" F__law_odd_web (.cons (.var 5) (.cons (.var 4) .nil))) .nil))) (.seq (.ret (.bl false)) .nil) .nil) .nil)) (d := .tup [.non, .lst (intRange 0 5)]) (items := intRange 0 5)
    (fun k l S' => ∃ a' c' y6, l = [x0, x1, x2, x3, some (.ref i), some (.tup [.int n, .tup arrows]), y6, x7] ∧ S' = S.set i (pen a' b c')) (fun _ _ _ _ => rfl) (intRange 0 5) 0 (fun t ht k l S' _ _ hP => ?_)
    [x0, x1, x2, x3, some (.ref i), some (.tup [.int n, .tup arrows]), x6, x7] S ⟨a, c, x6, rfl, by
      apply List.ext_getElem?
      intro j
      by_cases hj : i = j
      · subst hj; rw [List.getElem?_set_self hi]; exact h
      · rw [List.getElem?_set_ne hj]⟩
  · obtain ⟨l', S', e, a', c', y6, rfl, rfl⟩ := key
    refine ⟨a', c', y6, ?_⟩
    rw [ex_loop]
    simp only [ev_rng, ev_cons, ev_nil, ev_int, bnd_ok, lstK_l, rng5, rngK_some, bndS_ok]
    exact e
  · obtain ⟨a', c', y6, rfl, rfl⟩ := hP
    obtain ⟨a2, c2, t2, e2, p2⟩ := odd_web_ex (List.getElem?_set_self hi (a := pen a' b c')) hw
    rw [List.set_set] at e2
    refine ⟨_, rfl, _, _, ?_, a2, c2, some t, rfl, rfl⟩
    simp [fn_app, ex_nil, ex_skip, ex_seq, ex_expr, ex_asg, ex_par, ex_setI, ex_aug, ex_ret, ex_retN, ex_ite, bndS_ok, bndS_ite, tstS_ok, tstS_ite, thn_nx, thn_rt, thn_er, thn_none, thn_ite, fnK_rt, fnK_nx, fnK_er, fnK_ite, asgK_some, asgTg_name, asgTg_tup, asgTup_cons, asgTup_nil, putK_some, augK_int, augV_int, parK_l, ev_var, ev_gc, ev_int, ev_str, ev_bl, ev_non, ev_bin, ev_neg, ev_not, ev_cmp, ev_chain, ev_inr, ev_and, ev_or, ev_one, ev_ite, ev_nil, ev_cons, ev_tup, ev_lst, ev_dnew, ev_idx, ev_sl, ev_rev, ev_call, ev_bi, ev_isi, ev_meth, bnd_ok, bnd_none, bnd_ite, tstE_ok, tstE_ite, mrg_bl, mrg_int, notK_bl, negK_int, outB_some, outV_some, outK_val, outK_fr, outK_new, outK_ite, chainK_some, lstK_l, partK_int, nop_t, nonop_int, nonop_var, nonop_bin, nonop_neg, inrK_int, mtK_some, callK_t, varK_s, slK_nn, slK_ni, slK_in, slK_ii, b_add, b_sub, b_mul, b_fdiv, b_mod, b_pow, c_eq, c_ne, c_lt, c_le, c_gt, c_ge, bi_len, bi_abs, bi_max2, bi_min2, bi_max1, bi_min1, bi_sum, bi_all, bi_tuple, bi_list, bi_sorted, bi_int, bi_intb, bi_str, len_tup, len_lst, len_scr, rb1, rb2, List.map_cons, List.map_nil, List.length_cons, List.length_nil, List.replicate, List.cons_append, List.nil_append, List.getElem?_cons_succ, List.getElem?_cons_zero, List.set_cons_succ, List.set_cons_zero, if_true, if_false, Bool.false_eq_true, Bool.not_true, Bool.not_false, e2, right_eq p2]
theorem law_pure (ns : List Int) (hn : ns.length ≤ 63) : ∃ S', F_law [.scr ns] [] = some (.ok (.bl true), S') := by
  unfold F_law B_law
  rw [fn_app]
  show ∃ S', fnK (ex _ [some (.scr ns), none, none, none, none, none, none, none] []) = _
  obtain ⟨full, hfull, hfp⟩ : ∃ full, ex (.asg (.name 1) (.bi false .tuple (.cons (.comp false [("_law_k", 7)] (.name 7) (.rng (.cons (.int 25) .nil)) .nop (.tup (.cons (.bin false .FloorDiv (.var 7) (.int 5)) (.cons (.bin false .Mod (.var 7) (.int 5)) (.cons (.var 7) .nil))))) .nil))) [some (.scr ns), none, none, none, none, none, none, none] [] = some (.nx [some (.scr ns), some (.tup full), none, none, none, none, none, none], []) ∧ pls full = true := by
    let g : T → T := fun t => match t with | .int k => .tup [.int (k / 5), .int (k % 5), .int k] | t => t
    have g5 : (5 : Int).natAbs.log2 < 9000 := small_log (by decide) (by decide)
    have cm := compL_map (i := 7) (c := ev .nop) (elt := ev (.tup (.cons (.bin false .FloorDiv (.var 7) (.int 5)) (.cons (.bin false .Mod (.var 7) (.int 5)) (.cons (.var 7) .nil))))) (d := .tup [.non, .lst (intRange 0 25)]) (items := intRange 0 25) (l0 := [some (.scr ns), none, none, none, none, none, none, none]) (S := []) (rest := intRange 0 25) g rfl (by
      intro t ht
      simp only [intRange, List.mem_map, List.mem_range] at ht
      obtain ⟨j, hj, rfl⟩ := ht
      have g5' : Nat.log2 5 < 9000 := g5
      simp [fn_app, ex_nil, ex_skip, ex_seq, ex_expr, ex_asg, ex_par, ex_setI, ex_aug, ex_ret, ex_retN, ex_ite, bndS_ok, bndS_ite, tstS_ok, tstS_ite, thn_nx, thn_rt, thn_er, thn_none, thn_ite, fnK_rt, fnK_nx, fnK_er, fnK_ite, asgK_some, asgTg_name, asgTg_tup, asgTup_cons, asgTup_nil, putK_some, augK_int, augV_int, parK_l, ev_var, ev_gc, ev_int, ev_str, ev_bl, ev_non, ev_bin, ev_neg, ev_not, ev_cmp, ev_chain, ev_inr, ev_and, ev_or, ev_one, ev_ite, ev_nil, ev_cons, ev_tup, ev_lst, ev_dnew, ev_idx, ev_sl, ev_rev, ev_call, ev_bi, ev_isi, ev_meth, bnd_ok, bnd_none, bnd_ite, tstE_ok, tstE_ite, mrg_bl, mrg_int, notK_bl, negK_int, outB_some, outV_some, outK_val, outK_fr, outK_new, outK_ite, chainK_some, lstK_l, partK_int, nop_t, nonop_int, nonop_var, nonop_bin, nonop_neg, inrK_int, mtK_some, callK_t, varK_s, slK_nn, slK_ni, slK_in, slK_ii, b_add, b_sub, b_mul, b_fdiv, b_mod, b_pow, c_eq, c_ne, c_lt, c_le, c_gt, c_ge, bi_len, bi_abs, bi_max2, bi_min2, bi_max1, bi_min1, bi_sum, bi_all, bi_tuple, bi_list, bi_sorted, bi_int, bi_intb, bi_str, len_tup, len_lst, len_scr, rb1, rb2, List.map_cons, List.map_nil, List.length_cons, List.length_nil, List.replicate, List.cons_append, List.nil_append, List.getElem?_cons_succ, List.getElem?_cons_zero, List.set_cons_succ, List.set_cons_zero, if_true, if_false, Bool.false_eq_true, Bool.not_true, Bool.not_false, g, g5', LIM])
    have hr : rngF [.int 25] = some (intRange 0 25) := by
      simp only [rngF, rngBounds]
      rw [if_pos ⟨by omega, by omega, by omega, by omega⟩]
    have hcomp := comp_val (own := [("_law_k", 7)]) (tg := .name 7) (it := .rng (.cons (.int 25) .nil)) (cond := .nop) (elt := .tup (.cons (.bin false .FloorDiv (.var 7) (.int 5)) (.cons (.bin false .Mod (.var 7) (.int 5)) (.cons (.var 7) .nil)))) (l := [some (.scr ns), none, none, none, none, none, none, none]) (S := []) (S1 := []) (d := .tup [.non, .lst (intRange 0 25)]) (items := intRange 0 25) (by
      simp only [fn_app, ex_nil, ex_skip, ex_seq, ex_expr, ex_asg, ex_par, ex_setI, ex_aug, ex_ret, ex_retN, ex_ite, bndS_ok, bndS_ite, tstS_ok, tstS_ite, thn_nx, thn_rt, thn_er, thn_none, thn_ite, fnK_rt, fnK_nx, fnK_er, fnK_ite, asgK_some, asgTg_name, asgTg_tup, asgTup_cons, asgTup_nil, putK_some, augK_int, augV_int, parK_l, ev_var, ev_gc, ev_int, ev_str, ev_bl, ev_non, ev_bin, ev_neg, ev_not, ev_cmp, ev_chain, ev_inr, ev_and, ev_or, ev_one, ev_ite, ev_nil, ev_cons, ev_tup, ev_lst, ev_dnew, ev_idx, ev_sl, ev_rev, ev_call, ev_bi, ev_isi, ev_meth, bnd_ok, bnd_none, bnd_ite, tstE_ok, tstE_ite, mrg_bl, mrg_int, notK_bl, negK_int, outB_some, outV_some, outK_val, outK_fr, outK_new, outK_ite, chainK_some, lstK_l, partK_int, nop_t, nonop_int, nonop_var, nonop_bin, nonop_neg, inrK_int, mtK_some, callK_t, varK_s, slK_nn, slK_ni, slK_in, slK_ii, b_add, b_sub, b_mul, b_fdiv, b_mod, b_pow, c_eq, c_ne, c_lt, c_le, c_gt, c_ge, bi_len, bi_abs, bi_max2, bi_min2, bi_max1, bi_min1, bi_sum, bi_all, bi_tuple, bi_list, bi_sorted, bi_int, bi_intb, bi_str, len_tup, len_lst, len_scr, rb1, rb2, List.map_cons, List.map_nil, List.length_cons, List.length_nil, List.replicate, List.cons_append, List.nil_append, List.getElem?_cons_succ, List.getElem?_cons_zero, List.set_cons_succ, List.set_cons_zero, if_true, if_false, Bool.false_eq_true, Bool.not_true, Bool.not_false, ev_rng, hr, rngK_some]) rfl (by simp [intRange, LIM]) cm
    have htup : ∀ xs S, tupleF [.lst xs] S = some (.val (.tup xs)) := fun _ _ => rfl
    refine ⟨(intRange 0 25).map g, by simp only [fn_app, ex_nil, ex_skip, ex_seq, ex_expr, ex_asg, ex_par, ex_setI, ex_aug, ex_ret, ex_retN, ex_ite, bndS_ok, bndS_ite, tstS_ok, tstS_ite, thn_nx, thn_rt, thn_er, thn_none, thn_ite, fnK_rt, fnK_nx, fnK_er, fnK_ite, asgK_some, asgTg_name, asgTg_tup, asgTup_cons, asgTup_nil, putK_some, augK_int, augV_int, parK_l, ev_var, ev_gc, ev_int, ev_str, ev_bl, ev_non, ev_bin, ev_neg, ev_not, ev_cmp, ev_chain, ev_inr, ev_and, ev_or, ev_one, ev_ite, ev_nil, ev_cons, ev_tup, ev_lst, ev_dnew, ev_idx, ev_sl, ev_rev, ev_call, ev_bi, ev_isi, ev_meth, bnd_ok, bnd_none, bnd_ite, tstE_ok, tstE_ite, mrg_bl, mrg_int, notK_bl, negK_int, outB_some, outV_some, outK_val, outK_fr, outK_new, outK_ite, chainK_some, lstK_l, partK_int, nop_t, nonop_int, nonop_var, nonop_bin, nonop_neg, inrK_int, mtK_some, callK_t, varK_s, slK_nn, slK_ni, slK_in, slK_ii, b_add, b_sub, b_mul, b_fdiv, b_mod, b_pow, c_eq, c_ne, c_lt, c_le, c_gt, c_ge, bi_len, bi_abs, bi_max2, bi_min2, bi_max1, bi_min1, bi_sum, bi_all, bi_tuple, bi_list, bi_sorted, bi_int, bi_intb, bi_str, len_tup, len_lst, len_scr, rb1, rb2, List.map_cons, List.map_nil, List.length_cons, List.length_nil, List.replicate, List.cons_append, List.nil_append, List.getElem?_cons_succ, List.getElem?_cons_zero, List.set_cons_succ, List.set_cons_zero, if_true, if_false, Bool.false_eq_true, Bool.not_true, Bool.not_false, hcomp, htup], ?_⟩
    have hp : ∀ l : List T, (∀ t ∈ l, ∃ k, t = .int k) → pls (l.map g) = true := by
      intro l
      induction l with
      | nil => intro _; rfl
      | cons t r ih =>
        intro h
        obtain ⟨k, rfl⟩ := h t List.mem_cons_self
        simp [pls, pl, g, ih fun u hu => h u (List.mem_cons_of_mem _ hu)]
    refine hp _ fun t ht => ?_
    simp only [intRange, List.mem_map] at ht
    obtain ⟨j, _, rfl⟩ := ht
    exact ⟨_, rfl⟩
  have loop2 : ∃ x2, ex (.loop (.name 2) (.seq (.lst false (.cons (.tup (.cons (.int 5) (.cons (.sl false (.var 1) .nop (.int 24)) .nil))) (.cons (.tup (.cons (.int 5) (.cons (.var 1) .nil))) (.cons (.tup (.cons (.int 1) (.cons (.tup .nil) .nil))) (.cons (.tup (.cons (.int 1) (.cons (.tup (.cons (.tup (.cons (.int 0) (.cons (.int 0) (.cons (.int 3) .nil)))) .nil)) .nil))) (.cons (.tup (.cons (.int 0) (.cons (.tup .nil) .nil))) (.cons (.tup (.cons (.int 8) (.cons (.tup .nil) .nil))) (.cons (.tup (.cons (.int 9) (.cons (.tup .nil) .nil))) (.cons (.tup (.cons (.int 2) (.cons (.tup (.cons (.tup (.cons (.int 1) (.cons (.int 0) (.cons (.int 1) .nil)))) .nil)) .nil))) .nil)))))))))) (.seq (.ite (.not (.call true "_law_right" F__law_right (.cons (.var 2) .nil))) (.seq (.ret (.bl false))
  .nil) .nil)
  .nil)) [some (.scr ns), some (.tup full), none, none, none, none, none, none] [] = some (.nx [some (.scr ns), some (.tup full), x2, none, none, none, none, none], []) := by
    obtain ⟨L, hL, hLp⟩ : ∃ L : List T, ev (.seq (.lst false (.cons (.tup (.cons (.int 5) (.cons (.sl false (.var 1) .nop (.int 24)) .nil))) (.cons (.tup (.cons (.int 5) (.cons (.var 1) .nil))) (.cons (.tup (.cons (.int 1) (.cons (.tup .nil) .nil))) (.cons (.tup (.cons (.int 1) (.cons (.tup (.cons (.tup (.cons (.int 0) (.cons (.int 0) (.cons (.int 3) .nil)))) .nil)) .nil))) (.cons (.tup (.cons (.int 0) (.cons (.tup .nil) .nil))) (.cons (.tup (.cons (.int 8) (.cons (.tup .nil) .nil))) (.cons (.tup (.cons (.int 9) (.cons (.tup .nil) .nil))) (.cons (.tup (.cons (.int 2) (.cons (.tup (.cons (.tup (.cons (.int 1) (.cons (.int 0) (.cons (.int 1) .nil)))) .nil)) .nil))) .nil)))))))))) [some (.scr ns), some (.tup full), none, none, none, none, none, none] [] = some (.ok (.tup [.int 0, .lst L]), []) ∧ pls L = true := by
      refine ⟨[.tup [.int 5, .tup (cutT full none (some 24))], .tup [.int 5, .tup full], .tup [.int 1, .tup []], .tup [.int 1, .tup [.tup [.int 0, .int 0, .int 3]]], .tup [.int 0, .tup []], .tup [.int 8, .tup []], .tup [.int 9, .tup []], .tup [.int 2, .tup [.tup [.int 1, .int 0, .int 1]]]], ?_, ?_⟩
      · simp [fn_app, ex_nil, ex_skip, ex_seq, ex_expr, ex_asg, ex_par, ex_setI, ex_aug, ex_ret, ex_retN, ex_ite, bndS_ok, bndS_ite, tstS_ok, tstS_ite, thn_nx, thn_rt, thn_er, thn_none, thn_ite, fnK_rt, fnK_nx, fnK_er, fnK_ite, asgK_some, asgTg_name, asgTg_tup, asgTup_cons, asgTup_nil, putK_some, augK_int, augV_int, parK_l, ev_var, ev_gc, ev_int, ev_str, ev_bl, ev_non, ev_bin, ev_neg, ev_not, ev_cmp, ev_chain, ev_inr, ev_and, ev_or, ev_one, ev_ite, ev_nil, ev_cons, ev_tup, ev_lst, ev_dnew, ev_idx, ev_sl, ev_rev, ev_call, ev_bi, ev_isi, ev_meth, bnd_ok, bnd_none, bnd_ite, tstE_ok, tstE_ite, mrg_bl, mrg_int, notK_bl, negK_int, outB_some, outV_some, outK_val, outK_fr, outK_new, outK_ite, chainK_some, lstK_l, partK_int, nop_t, nonop_int, nonop_var, nonop_bin, nonop_neg, inrK_int, mtK_some, callK_t, varK_s, slK_nn, slK_ni, slK_in, slK_ii, b_add, b_sub, b_mul, b_fdiv, b_mod, b_pow, c_eq, c_ne, c_lt, c_le, c_gt, c_ge, bi_len, bi_abs, bi_max2, bi_min2, bi_max1, bi_min1, bi_sum, bi_all, bi_tuple, bi_list, bi_sorted, bi_int, bi_intb, bi_str, len_tup, len_lst, len_scr, rb1, rb2, List.map_cons, List.map_nil, List.length_cons, List.length_nil, List.replicate, List.cons_append, List.nil_append, List.getElem?_cons_succ, List.getElem?_cons_zero, List.set_cons_succ, List.set_cons_zero, if_true, if_false, Bool.false_eq_true, Bool.not_true, Bool.not_false, ev_seq, sl_to, LIM]
      · simp [pls, pl, hfp, pls_cut hfp]
    obtain ⟨l', S', e, x2, rfl, rfl⟩ := loop_inv (tg := .name 2) (body := ex (.seq (.ite (.not (.call true "_law_right" F__law_right (.cons (.var 2) .nil))) (.seq (.ret (.bl false)) .nil) .nil) .nil)) (d := .tup [.int 0, .lst L]) (items := L)
      (fun k l S' => ∃ x2, l = [some (.scr ns), some (.tup full), x2, none, none, none, none, none] ∧ S' = []) (fun _ _ _ _ => rfl) L 0 (fun t ht k l S' _ _ hP => by
        obtain ⟨x2, rfl, rfl⟩ := hP
        refine ⟨_, rfl, _, _, ?_, some t, rfl, rfl⟩
        simp [fn_app, ex_nil, ex_skip, ex_seq, ex_expr, ex_asg, ex_par, ex_setI, ex_aug, ex_ret, ex_retN, ex_ite, bndS_ok, bndS_ite, tstS_ok, tstS_ite, thn_nx, thn_rt, thn_er, thn_none, thn_ite, fnK_rt, fnK_nx, fnK_er, fnK_ite, asgK_some, asgTg_name, asgTg_tup, asgTup_cons, asgTup_nil, putK_some, augK_int, augV_int, parK_l, ev_var, ev_gc, ev_int, ev_str, ev_bl, ev_non, ev_bin, ev_neg, ev_not, ev_cmp, ev_chain, ev_inr, ev_and, ev_or, ev_one, ev_ite, ev_nil, ev_cons, ev_tup, ev_lst, ev_dnew, ev_idx, ev_sl, ev_rev, ev_call, ev_bi, ev_isi, ev_meth, bnd_ok, bnd_none, bnd_ite, tstE_ok, tstE_ite, mrg_bl, mrg_int, notK_bl, negK_int, outB_some, outV_some, outK_val, outK_fr, outK_new, outK_ite, chainK_some, lstK_l, partK_int, nop_t, nonop_int, nonop_var, nonop_bin, nonop_neg, inrK_int, mtK_some, callK_t, varK_s, slK_nn, slK_ni, slK_in, slK_ii, b_add, b_sub, b_mul, b_fdiv, b_mod, b_pow, c_eq, c_ne, c_lt, c_le, c_gt, c_ge, bi_len, bi_abs, bi_max2, bi_min2, bi_max1, bi_min1, bi_sum, bi_all, bi_tuple, bi_list, bi_sorted, bi_int, bi_intb, bi_str, len_tup, len_lst, len_scr, rb1, rb2, List.map_cons, List.map_nil, List.length_cons, List.length_nil, List.replicate, List.cons_append, List.nil_append, List.getElem?_cons_succ, List.getElem?_cons_zero, List.set_cons_succ, List.set_cons_zero, if_true, if_false, Bool.false_eq_true, Bool.not_true, Bool.not_false, right_eq (pls_mem hLp t ht)]) [some (.scr ns), some (.tup full), none, none, none, none, none, none] [] ⟨none, rfl, rfl⟩
    refine ⟨x2, ?_⟩
    rw [ex_loop, hL, bndS_ok, show srcItems (.tup [.int 0, .lst L]) [] = some L from rfl, srcK_some]
    exact e
  obtain ⟨x2, loop2⟩ := loop2
  obtain ⟨L, hL, hLi⟩ : ∃ L : List T, ev (.seq (.bin false .Add (.lst false (.cons (.call true "_law_cell_at" F__law_cell_at (.cons (.var 0) (.cons (.int 0) .nil))) .nil)) (.sl false (.var 0) (.int 1) (.int 8)))) [some (.scr ns), some (.tup full), x2, none, none, none, none, none] [] = some (.ok (.tup [.int 0, .lst L]), []) ∧ ∀ t ∈ L, ∃ k, t = .int k := by
    have hsl : slF (.scr ns) (some 1) (some 8) [] = some (.fresh (cutT (ns.map T.int) (some 1) (some 8))) := rfl
    have hc := cut_len (ns.map T.int) (some 1) (some 8)
    rw [List.length_map] at hc
    have g : 1 + (cutT (ns.map T.int) (some 1) (some 8)).length ≤ 1000000 := by omega
    refine ⟨.int (ns.getD 0 0) :: cutT (ns.map T.int) (some 1) (some 8), ?_, ?_⟩
    · have hca := cell_at_eq ns 0 (Int.le_refl 0) []
      simp only [Int.toNat_zero] at hca
      simp only [fn_app, ex_nil, ex_skip, ex_seq, ex_expr, ex_asg, ex_par, ex_setI, ex_aug, ex_ret, ex_retN, ex_ite, bndS_ok, bndS_ite, tstS_ok, tstS_ite, thn_nx, thn_rt, thn_er, thn_none, thn_ite, fnK_rt, fnK_nx, fnK_er, fnK_ite, asgK_some, asgTg_name, asgTg_tup, asgTup_cons, asgTup_nil, putK_some, augK_int, augV_int, parK_l, ev_var, ev_gc, ev_int, ev_str, ev_bl, ev_non, ev_bin, ev_neg, ev_not, ev_cmp, ev_chain, ev_inr, ev_and, ev_or, ev_one, ev_ite, ev_nil, ev_cons, ev_tup, ev_lst, ev_dnew, ev_idx, ev_sl, ev_rev, ev_call, ev_bi, ev_isi, ev_meth, bnd_ok, bnd_none, bnd_ite, tstE_ok, tstE_ite, mrg_bl, mrg_int, notK_bl, negK_int, outB_some, outV_some, outK_val, outK_fr, outK_new, outK_ite, chainK_some, lstK_l, partK_int, nop_t, nonop_int, nonop_var, nonop_bin, nonop_neg, inrK_int, mtK_some, callK_t, varK_s, slK_nn, slK_ni, slK_in, slK_ii, b_add, b_sub, b_mul, b_fdiv, b_mod, b_pow, c_eq, c_ne, c_lt, c_le, c_gt, c_ge, bi_len, bi_abs, bi_max2, bi_min2, bi_max1, bi_min1, bi_sum, bi_all, bi_tuple, bi_list, bi_sorted, bi_int, bi_intb, bi_str, len_tup, len_lst, len_scr, rb1, rb2, List.map_cons, List.map_nil, List.length_cons, List.length_nil, List.replicate, List.cons_append, List.nil_append, List.getElem?_cons_succ, List.getElem?_cons_zero, List.set_cons_succ, List.set_cons_zero, if_true, if_false, Bool.false_eq_true, Bool.not_true, Bool.not_false, ev_seq, hca, LIM, hsl, add_lst, g, Nat.zero_add, Nat.le_refl, show (1 : Nat) ≤ 1000000 by decide]
    · intro t ht
      rcases List.mem_cons.mp ht with rfl | ht
      · exact ⟨_, rfl⟩
      · have := List.mem_of_mem_drop (List.mem_of_mem_take ht)
        obtain ⟨k, _, rfl⟩ := List.mem_map.mp this
        exact ⟨k, rfl⟩
  obtain ⟨l', S', e, x3, x4, x5, x6, rfl, _⟩ := loop_inv (tg := .name 3) (body := ex (.seq (.asg (.name 4) (.call true "_law_pen_of" F__law_pen_of (.cons (.var 3) .nil)))
  (.seq (.asg (.name 5) (.call false "_law_web_by" F__law_web_by (.cons (.var 4) (.cons (.int 8) .nil))))
  (.seq (.ite (.not (.call true "_law_right" F__law_right (.cons (.var 5) .nil))) (.seq (.ret (.bl false))
  .nil) .nil)
  (.seq (.loop (.name 6) (.rng (.cons (.int 5) .nil)) (.seq (.ite (.not (.call true "_law_right" F__law_right (.cons (.call true "_law_odd_web" F__law_odd_web (.cons (.var 5) (.cons (.var 4) .nil))) .nil))) (.seq (.ret (.bl false))
  .nil) .nil)
  .nil))
  .nil))))) (d := .tup [.int 0, .lst L]) (items := L)
    (fun k l S' => ∃ x3 x4 x5 x6, l = [some (.scr ns), some (.tup full), x2, x3, x4, x5, x6, none] ∧ PenS S') (fun _ _ _ _ => rfl) L 0 (fun t ht k l S' _ _ hP => by
      obtain ⟨x3, x4, x5, x6, rfl, hS⟩ := hP
      obtain ⟨v, rfl⟩ := hLi t ht
      refine ⟨_, rfl, ?_⟩
      obtain ⟨a, b, c, e1⟩ := pen_of_ex v S'
      have hS1 := pens_new hS a b c
      have hg : (S' ++ [pen a b c])[S'.length]? = some (pen a b c) := by simp
      have hi : S'.length < (S' ++ [pen a b c]).length := by simp
      obtain ⟨a2, c2, kvs, tw, e2, _, n, rows, rfl, n1, n2, n3, n4⟩ := web_by_ex hg (most := 8) (by decide) (by decide)
      have e2' := frz_web (n := n) (l := rows) (kvs := kvs) (a := a2) (b := b) (c := c2) hS1 hi
      rw [← e2] at e2'
      have hpl : pl (.tup [.int n, .tup (rows.map T.ofInts)]) = true := by simp [pl, pls, pls_map_ints]
      have hw : WebT n (rows.map T.ofInts) := by
        refine ⟨fun t ht => ?_, by rw [List.length_map]; omega⟩
        obtain ⟨x, hx, rfl⟩ := List.mem_map.mp ht
        obtain ⟨a, b, c, rfl⟩ := n4 x hx
        exact ⟨a, b, c, rfl⟩
      obtain ⟨a3, c3, y6, e3⟩ := inner (S := (S' ++ [pen a b c]).set S'.length (pen a2 b c2)) (i := S'.length) (x0 := some (.scr ns)) (x1 := some (.tup full)) (x2 := x2) (x3 := some (.int v)) (x6 := x6) (x7 := none) (List.getElem?_set_self hi) hw
      have s1 : ex (.asg (.name 4) (.call true "_law_pen_of" F__law_pen_of (.cons (.var 3) .nil))) [some (.scr ns), some (.tup full), x2, some (.int v), x4, x5, x6, none] S' = some (.nx [some (.scr ns), some (.tup full), x2, some (.int v), some (.ref S'.length), x5, x6, none], S' ++ [pen a b c]) := by
        simp only [fn_app, ex_nil, ex_skip, ex_seq, ex_expr, ex_asg, ex_par, ex_setI, ex_aug, ex_ret, ex_retN, ex_ite, bndS_ok, bndS_ite, tstS_ok, tstS_ite, thn_nx, thn_rt, thn_er, thn_none, thn_ite, fnK_rt, fnK_nx, fnK_er, fnK_ite, asgK_some, asgTg_name, asgTg_tup, asgTup_cons, asgTup_nil, putK_some, augK_int, augV_int, parK_l, ev_var, ev_gc, ev_int, ev_str, ev_bl, ev_non, ev_bin, ev_neg, ev_not, ev_cmp, ev_chain, ev_inr, ev_and, ev_or, ev_one, ev_ite, ev_nil, ev_cons, ev_tup, ev_lst, ev_dnew, ev_idx, ev_sl, ev_rev, ev_call, ev_bi, ev_isi, ev_meth, bnd_ok, bnd_none, bnd_ite, tstE_ok, tstE_ite, mrg_bl, mrg_int, notK_bl, negK_int, outB_some, outV_some, outK_val, outK_fr, outK_new, outK_ite, chainK_some, lstK_l, partK_int, nop_t, nonop_int, nonop_var, nonop_bin, nonop_neg, inrK_int, mtK_some, callK_t, varK_s, slK_nn, slK_ni, slK_in, slK_ii, b_add, b_sub, b_mul, b_fdiv, b_mod, b_pow, c_eq, c_ne, c_lt, c_le, c_gt, c_ge, bi_len, bi_abs, bi_max2, bi_min2, bi_max1, bi_min1, bi_sum, bi_all, bi_tuple, bi_list, bi_sorted, bi_int, bi_intb, bi_str, len_tup, len_lst, len_scr, rb1, rb2, List.map_cons, List.map_nil, List.length_cons, List.length_nil, List.replicate, List.cons_append, List.nil_append, List.getElem?_cons_succ, List.getElem?_cons_zero, List.set_cons_succ, List.set_cons_zero, if_true, if_false, Bool.false_eq_true, Bool.not_true, Bool.not_false, e1]
      have s2 : ex (.asg (.name 5) (.call false "_law_web_by" F__law_web_by (.cons (.var 4) (.cons (.int 8) .nil)))) [some (.scr ns), some (.tup full), x2, some (.int v), some (.ref S'.length), x5, x6, none] (S' ++ [pen a b c]) = some (.nx [some (.scr ns), some (.tup full), x2, some (.int v), some (.ref S'.length), some (.tup [.int n, .tup (rows.map T.ofInts)]), x6, none], (S' ++ [pen a b c]).set S'.length (pen a2 b c2)) := by
        simp only [fn_app, ex_nil, ex_skip, ex_seq, ex_expr, ex_asg, ex_par, ex_setI, ex_aug, ex_ret, ex_retN, ex_ite, bndS_ok, bndS_ite, tstS_ok, tstS_ite, thn_nx, thn_rt, thn_er, thn_none, thn_ite, fnK_rt, fnK_nx, fnK_er, fnK_ite, asgK_some, asgTg_name, asgTg_tup, asgTup_cons, asgTup_nil, putK_some, augK_int, augV_int, parK_l, ev_var, ev_gc, ev_int, ev_str, ev_bl, ev_non, ev_bin, ev_neg, ev_not, ev_cmp, ev_chain, ev_inr, ev_and, ev_or, ev_one, ev_ite, ev_nil, ev_cons, ev_tup, ev_lst, ev_dnew, ev_idx, ev_sl, ev_rev, ev_call, ev_bi, ev_isi, ev_meth, bnd_ok, bnd_none, bnd_ite, tstE_ok, tstE_ite, mrg_bl, mrg_int, notK_bl, negK_int, outB_some, outV_some, outK_val, outK_fr, outK_new, outK_ite, chainK_some, lstK_l, partK_int, nop_t, nonop_int, nonop_var, nonop_bin, nonop_neg, inrK_int, mtK_some, callK_t, varK_s, slK_nn, slK_ni, slK_in, slK_ii, b_add, b_sub, b_mul, b_fdiv, b_mod, b_pow, c_eq, c_ne, c_lt, c_le, c_gt, c_ge, bi_len, bi_abs, bi_max2, bi_min2, bi_max1, bi_min1, bi_sum, bi_all, bi_tuple, bi_list, bi_sorted, bi_int, bi_intb, bi_str, len_tup, len_lst, len_scr, rb1, rb2, List.map_cons, List.map_nil, List.length_cons, List.length_nil, List.replicate, List.cons_append, List.nil_append, List.getElem?_cons_succ, List.getElem?_cons_zero, List.set_cons_succ, List.set_cons_zero, if_true, if_false, Bool.false_eq_true, Bool.not_true, Bool.not_false, callK_f, e2']
      have s3 : ex (.ite (.not (.call true "_law_right" F__law_right (.cons (.var 5) .nil))) (.seq (.ret (.bl false)) .nil) .nil) [some (.scr ns), some (.tup full), x2, some (.int v), some (.ref S'.length), some (.tup [.int n, .tup (rows.map T.ofInts)]), x6, none] ((S' ++ [pen a b c]).set S'.length (pen a2 b c2)) = some (.nx [some (.scr ns), some (.tup full), x2, some (.int v), some (.ref S'.length), some (.tup [.int n, .tup (rows.map T.ofInts)]), x6, none], (S' ++ [pen a b c]).set S'.length (pen a2 b c2)) := by
        simp only [fn_app, ex_nil, ex_skip, ex_seq, ex_expr, ex_asg, ex_par, ex_setI, ex_aug, ex_ret, ex_retN, ex_ite, bndS_ok, bndS_ite, tstS_ok, tstS_ite, thn_nx, thn_rt, thn_er, thn_none, thn_ite, fnK_rt, fnK_nx, fnK_er, fnK_ite, asgK_some, asgTg_name, asgTg_tup, asgTup_cons, asgTup_nil, putK_some, augK_int, augV_int, parK_l, ev_var, ev_gc, ev_int, ev_str, ev_bl, ev_non, ev_bin, ev_neg, ev_not, ev_cmp, ev_chain, ev_inr, ev_and, ev_or, ev_one, ev_ite, ev_nil, ev_cons, ev_tup, ev_lst, ev_dnew, ev_idx, ev_sl, ev_rev, ev_call, ev_bi, ev_isi, ev_meth, bnd_ok, bnd_none, bnd_ite, tstE_ok, tstE_ite, mrg_bl, mrg_int, notK_bl, negK_int, outB_some, outV_some, outK_val, outK_fr, outK_new, outK_ite, chainK_some, lstK_l, partK_int, nop_t, nonop_int, nonop_var, nonop_bin, nonop_neg, inrK_int, mtK_some, callK_t, varK_s, slK_nn, slK_ni, slK_in, slK_ii, b_add, b_sub, b_mul, b_fdiv, b_mod, b_pow, c_eq, c_ne, c_lt, c_le, c_gt, c_ge, bi_len, bi_abs, bi_max2, bi_min2, bi_max1, bi_min1, bi_sum, bi_all, bi_tuple, bi_list, bi_sorted, bi_int, bi_intb, bi_str, len_tup, len_lst, len_scr, rb1, rb2, List.map_cons, List.map_nil, List.length_cons, List.length_nil, List.replicate, List.cons_append, List.nil_append, List.getElem?_cons_succ, List.getElem?_cons_zero, List.set_cons_succ, List.set_cons_zero, if_true, if_false, Bool.false_eq_true, Bool.not_true, Bool.not_false, right_eq hpl]
      refine ⟨[some (.scr ns), some (.tup full), x2, some (.int v), some (.ref S'.length), some (.tup [.int n, .tup (rows.map T.ofInts)]), y6, none], _, ?_, some (.int v), some (.ref S'.length), some (.tup [.int n, .tup (rows.map T.ofInts)]), y6, rfl, pens_set (pens_set hS1 S'.length a2 b c2) S'.length a3 b c3⟩
      rw [show [some (T.scr ns), some (T.tup full), x2, x3, x4, x5, x6, none].set 3 (some (T.int v)) = [some (T.scr ns), some (T.tup full), x2, some (T.int v), x4, x5, x6, none] from rfl]
      rw [ex_seq, s1, thn_nx, ex_seq, s2, thn_nx, ex_seq, s3, thn_nx, ex_seq, e3, thn_nx, ex_nil]) [some (.scr ns), some (.tup full), x2, none, none, none, none, none] [] ⟨none, none, none, none, rfl, fun _ h => by cases h⟩
  refine ⟨S', ?_⟩
  rw [ex_seq, hfull, thn_nx, ex_seq, loop2, thn_nx, ex_seq, ex_loop, hL, bndS_ok, show srcItems (.tup [.int 0, .lst L]) [] = some L from rfl, srcK_some, e, thn_nx, ex_seq, ex_ret, ev_bl, bndS_ok, thn_rt, fnK_rt]
end K01

namespace K01
open PySem PySem.Spec PyProof.Rows L2 TL H
abbrev st__law_cell_at : Stmt := PySem.Challenge.pw_meanrings_k01_what_is_a_web.main.body.getD 8 (.Pass ⟨0, 0, 0, 0⟩)
theorem sc__law_cell_at : FnScope ["_law_script", "_law_k"] ["_law_script", "_law_k"] (defScope st__law_cell_at) := ⟨rfl, rfl, rfl, by decide +kernel, rfl, by decide +kernel, by decide +kernel⟩
theorem ck__law_cell_at : chkS ["_law_script", "_law_k"] B__law_cell_at (defScope st__law_cell_at) (fun _ => true) (.sts (defBody st__law_cell_at)) = true := by decide +kernel
abbrev st__law_pen_of : Stmt := PySem.Challenge.pw_meanrings_k01_what_is_a_web.main.body.getD 10 (.Pass ⟨0, 0, 0, 0⟩)
theorem sc__law_pen_of : FnScope ["_law_cell", "_law_left"] ["_law_cell"] (defScope st__law_pen_of) := ⟨rfl, rfl, rfl, by decide +kernel, rfl, by decide +kernel, by decide +kernel⟩
theorem ck__law_pen_of : chkS ["_law_cell", "_law_left"] B__law_pen_of (defScope st__law_pen_of) (fun _ => true) (.sts (defBody st__law_pen_of)) = true := by decide +kernel
abbrev st__law_next : Stmt := PySem.Challenge.pw_meanrings_k01_what_is_a_web.main.body.getD 9 (.Pass ⟨0, 0, 0, 0⟩)
theorem sc__law_next : FnScope ["_law_seed"] ["_law_seed"] (defScope st__law_next) := ⟨rfl, rfl, rfl, by decide +kernel, rfl, by decide +kernel, by decide +kernel⟩
theorem ck__law_next : chkS ["_law_seed"] B__law_next (defScope st__law_next) (fun _ => true) (.sts (defBody st__law_next)) = true := by decide +kernel
abbrev st__law_draw : Stmt := PySem.Challenge.pw_meanrings_k01_what_is_a_web.main.body.getD 11 (.Pass ⟨0, 0, 0, 0⟩)
theorem sc__law_draw : FnScope ["_law_pen", "_law_many", "_law_found"] ["_law_pen", "_law_many"] (defScope st__law_draw) := ⟨rfl, rfl, rfl, by decide +kernel, rfl, by decide +kernel, by decide +kernel⟩
theorem ck__law_draw : chkS ["_law_pen", "_law_many", "_law_found"] B__law_draw (defScope st__law_draw) (fun _ => true) (.sts (defBody st__law_draw)) = true := by decide +kernel
abbrev st__law_web_by : Stmt := PySem.Challenge.pw_meanrings_k01_what_is_a_web.main.body.getD 13 (.Pass ⟨0, 0, 0, 0⟩)
theorem sc__law_web_by : FnScope ["_law_pen", "_law_most", "_law_many", "_law_way", "_law_size", "_law_found", "_law_turn", "_law_place", "_law_one", "_law_other"] ["_law_pen", "_law_most"] (defScope st__law_web_by) := ⟨rfl, rfl, rfl, by decide +kernel, rfl, by decide +kernel, by decide +kernel⟩
theorem ck__law_web_by : chkS ["_law_pen", "_law_most", "_law_many", "_law_way", "_law_size", "_law_found", "_law_turn", "_law_place", "_law_one", "_law_other"] B__law_web_by (defScope st__law_web_by) (fun _ => true) (.sts (defBody st__law_web_by)) = true := by decide +kernel
abbrev st__law_odd_arrow : Stmt := PySem.Challenge.pw_meanrings_k01_what_is_a_web.main.body.getD 16 (.Pass ⟨0, 0, 0, 0⟩)
theorem sc__law_odd_arrow : FnScope ["_law_web", "_law_pen", "_law_many", "_law_some", "_law_one", "_law_other", "_law_worth"] ["_law_web", "_law_pen"] (defScope st__law_odd_arrow) := ⟨rfl, rfl, rfl, by decide +kernel, rfl, by decide +kernel, by decide +kernel⟩
theorem ck__law_odd_arrow : chkS ["_law_web", "_law_pen", "_law_many", "_law_some", "_law_one", "_law_other", "_law_worth"] B__law_odd_arrow (defScope st__law_odd_arrow) (fun _ => true) (.sts (defBody st__law_odd_arrow)) = true := by decide +kernel
abbrev st__law_odd_web : Stmt := PySem.Challenge.pw_meanrings_k01_what_is_a_web.main.body.getD 17 (.Pass ⟨0, 0, 0, 0⟩)
theorem sc__law_odd_web : FnScope ["_law_web", "_law_pen", "_law_spot", "_law_odd", "_law_some", "_law_many", "_law_arrows"] ["_law_web", "_law_pen"] (defScope st__law_odd_web) := ⟨rfl, rfl, rfl, by decide +kernel, rfl, by decide +kernel, by decide +kernel⟩
theorem ck__law_odd_web : chkS ["_law_web", "_law_pen", "_law_spot", "_law_odd", "_law_some", "_law_many", "_law_arrows"] B__law_odd_web (defScope st__law_odd_web) (fun _ => true) (.sts (defBody st__law_odd_web)) = true := by decide +kernel
abbrev st_is_whole : Stmt := PySem.Challenge.pw_meanrings_k01_what_is_a_web.main.body.getD 4 (.Pass ⟨0, 0, 0, 0⟩)
theorem sc_is_whole : FnScope ["thing"] ["thing"] (defScope st_is_whole) := ⟨rfl, rfl, rfl, by decide +kernel, rfl, by decide +kernel, by decide +kernel⟩
theorem ck_is_whole : chkS ["thing"] B_is_whole (defScope st_is_whole) (fun _ => true) (.sts (defBody st_is_whole)) = true := by decide +kernel
abbrev st_arrow_good : Stmt := PySem.Challenge.pw_meanrings_k01_what_is_a_web.main.body.getD 5 (.Pass ⟨0, 0, 0, 0⟩)
theorem sc_arrow_good : FnScope ["many", "thing", "one"] ["many", "thing"] (defScope st_arrow_good) := ⟨rfl, rfl, rfl, by decide +kernel, rfl, by decide +kernel, by decide +kernel⟩
theorem ck_arrow_good : chkS ["many", "thing", "one"] B_arrow_good (defScope st_arrow_good) (fun _ => true) (.sts (defBody st_arrow_good)) = true := by decide +kernel
abbrev st_web_good : Stmt := PySem.Challenge.pw_meanrings_k01_what_is_a_web.main.body.getD 6 (.Pass ⟨0, 0, 0, 0⟩)
theorem sc_web_good : FnScope ["thing", "many", "arrows", "number", "arrow"] ["thing"] (defScope st_web_good) := ⟨rfl, rfl, rfl, by decide +kernel, rfl, by decide +kernel, by decide +kernel⟩
theorem ck_web_good : chkS ["thing", "many", "arrows", "number", "arrow"] B_web_good (defScope st_web_good) (fun _ => true) (.sts (defBody st_web_good)) = true := by decide +kernel
abbrev st__law_whole : Stmt := PySem.Challenge.pw_meanrings_k01_what_is_a_web.main.body.getD 12 (.Pass ⟨0, 0, 0, 0⟩)
theorem sc__law_whole : FnScope ["_law_found"] ["_law_found"] (defScope st__law_whole) := ⟨rfl, rfl, rfl, by decide +kernel, rfl, by decide +kernel, by decide +kernel⟩
theorem ck__law_whole : chkS ["_law_found"] B__law_whole (defScope st__law_whole) (fun _ => true) (.sts (defBody st__law_whole)) = true := by decide +kernel
abbrev st__law_arrow_good : Stmt := PySem.Challenge.pw_meanrings_k01_what_is_a_web.main.body.getD 14 (.Pass ⟨0, 0, 0, 0⟩)
theorem sc__law_arrow_good : FnScope ["_law_many", "_law_thing", "_law_one"] ["_law_many", "_law_thing"] (defScope st__law_arrow_good) := ⟨rfl, rfl, rfl, by decide +kernel, rfl, by decide +kernel, by decide +kernel⟩
theorem ck__law_arrow_good : chkS ["_law_many", "_law_thing", "_law_one"] B__law_arrow_good (defScope st__law_arrow_good) (fun _ => true) (.sts (defBody st__law_arrow_good)) = true := by decide +kernel
abbrev st__law_web_good : Stmt := PySem.Challenge.pw_meanrings_k01_what_is_a_web.main.body.getD 15 (.Pass ⟨0, 0, 0, 0⟩)
theorem sc__law_web_good : FnScope ["_law_thing", "_law_k", "_law_arrow"] ["_law_thing"] (defScope st__law_web_good) := ⟨rfl, rfl, rfl, by decide +kernel, rfl, by decide +kernel, by decide +kernel⟩
theorem ck__law_web_good : chkS ["_law_thing", "_law_k", "_law_arrow"] B__law_web_good (defScope st__law_web_good) (fun _ => true) (.sts (defBody st__law_web_good)) = true := by decide +kernel
abbrev st__law_right : Stmt := PySem.Challenge.pw_meanrings_k01_what_is_a_web.main.body.getD 18 (.Pass ⟨0, 0, 0, 0⟩)
theorem sc__law_right : FnScope ["_law_thing", "_law_found"] ["_law_thing"] (defScope st__law_right) := ⟨rfl, rfl, rfl, by decide +kernel, rfl, by decide +kernel, by decide +kernel⟩
theorem ck__law_right : chkS ["_law_thing", "_law_found"] B__law_right (defScope st__law_right) (fun _ => true) (.sts (defBody st__law_right)) = true := by decide +kernel
abbrev st_law : Stmt := PySem.Challenge.pw_meanrings_k01_what_is_a_web.main.body.getD 19 (.Pass ⟨0, 0, 0, 0⟩)
theorem sc_law : FnScope ["_law_script", "_law_full", "_law_thing", "_law_cell", "_law_pen", "_law_web", "_law_turn", "_law_k"] ["_law_script"] (defScope st_law) := ⟨rfl, rfl, rfl, by decide +kernel, rfl, by decide +kernel, by decide +kernel⟩
theorem ck_law : chkS ["_law_script", "_law_full", "_law_thing", "_law_cell", "_law_pen", "_law_web", "_law_turn", "_law_k"] B_law (defScope st_law) (fun _ => true) (.sts (defBody st_law)) = true := by decide +kernel
set_option maxHeartbeats 0 in
theorem all_mk {l : PySem.W.OpenLaw} {w : World} {K : PySem.W.Frag} {h : Heap} {mg : Str → Option Value} {fa : Addr} (X : K.In h) (G : h.Ns mainGlobals mg) (hfa : mg "law" = some (.ref fa))
    {f0 : Addr} {od0 an0 : Option Addr} {sl0 : Array (Option Value)} {oc0 kV0 dc0 pm0 cd0 ct0 : Value}
    {f1 : Addr} {od1 an1 : Option Addr} {sl1 : Array (Option Value)} {oc1 kV1 dc1 pm1 cd1 ct1 : Value}
    {f2 : Addr} {od2 an2 : Option Addr} {sl2 : Array (Option Value)} {oc2 kV2 dc2 pm2 cd2 ct2 : Value}
    {f3 : Addr} {od3 an3 : Option Addr} {sl3 : Array (Option Value)} {oc3 kV3 dc3 pm3 cd3 ct3 : Value}
    {f4 : Addr} {od4 an4 : Option Addr} {sl4 : Array (Option Value)} {oc4 kV4 dc4 pm4 cd4 ct4 : Value}
    {f5 : Addr} {od5 an5 : Option Addr} {sl5 : Array (Option Value)} {oc5 kV5 dc5 pm5 cd5 ct5 : Value}
    {f6 : Addr} {od6 an6 : Option Addr} {sl6 : Array (Option Value)} {oc6 kV6 dc6 pm6 cd6 ct6 : Value}
    {f7 : Addr} {od7 an7 : Option Addr} {sl7 : Array (Option Value)} {oc7 kV7 dc7 pm7 cd7 ct7 : Value}
    {f8 : Addr} {od8 an8 : Option Addr} {sl8 : Array (Option Value)} {oc8 kV8 dc8 pm8 cd8 ct8 : Value}
    {f9 : Addr} {od9 an9 : Option Addr} {sl9 : Array (Option Value)} {oc9 kV9 dc9 pm9 cd9 ct9 : Value}
    {f10 : Addr} {od10 an10 : Option Addr} {sl10 : Array (Option Value)} {oc10 kV10 dc10 pm10 cd10 ct10 : Value}
    {f11 : Addr} {od11 an11 : Option Addr} {sl11 : Array (Option Value)} {oc11 kV11 dc11 pm11 cd11 ct11 : Value}
    {f12 : Addr} {od12 an12 : Option Addr} {sl12 : Array (Option Value)} {oc12 kV12 dc12 pm12 cd12 ct12 : Value}
    {f13 : Addr} {od13 an13 : Option Addr} {sl13 : Array (Option Value)} {oc13 kV13 dc13 pm13 cd13 ct13 : Value}
    {f14 : Addr} {od14 an14 : Option Addr} {sl14 : Array (Option Value)} {oc14 kV14 dc14 pm14 cd14 ct14 : Value}
    {t0 : Tok}
    {t1 : Tok}
    {t2 : Tok}
    (a0 : PySem.W.nsIn K mainGlobals "_law_cell_at" = some (some (.ref f0))) (l0 : K.lookup f0 = some ⟨oc0, od0, .func (PySem.W.fnOf "_law_cell_at" "_law_cell_at" (defArgs st__law_cell_at) (defBody st__law_cell_at) (defScope st__law_cell_at) .none kV0 dc0 pm0 an0 cd0 ct0), sl0⟩) (c0 : PySem.W.codeIn K cd0 "_law_cell_at" = true) (k0 : PySem.W.keepIn K (.ref f0) = true)
    (a1 : PySem.W.nsIn K mainGlobals "_law_pen_of" = some (some (.ref f1))) (l1 : K.lookup f1 = some ⟨oc1, od1, .func (PySem.W.fnOf "_law_pen_of" "_law_pen_of" (defArgs st__law_pen_of) (defBody st__law_pen_of) (defScope st__law_pen_of) .none kV1 dc1 pm1 an1 cd1 ct1), sl1⟩) (c1 : PySem.W.codeIn K cd1 "_law_pen_of" = true) (k1 : PySem.W.keepIn K (.ref f1) = true)
    (a2 : PySem.W.nsIn K mainGlobals "_law_next" = some (some (.ref f2))) (l2 : K.lookup f2 = some ⟨oc2, od2, .func (PySem.W.fnOf "_law_next" "_law_next" (defArgs st__law_next) (defBody st__law_next) (defScope st__law_next) .none kV2 dc2 pm2 an2 cd2 ct2), sl2⟩) (c2 : PySem.W.codeIn K cd2 "_law_next" = true) (k2 : PySem.W.keepIn K (.ref f2) = true)
    (a3 : PySem.W.nsIn K mainGlobals "_law_draw" = some (some (.ref f3))) (l3 : K.lookup f3 = some ⟨oc3, od3, .func (PySem.W.fnOf "_law_draw" "_law_draw" (defArgs st__law_draw) (defBody st__law_draw) (defScope st__law_draw) .none kV3 dc3 pm3 an3 cd3 ct3), sl3⟩) (c3 : PySem.W.codeIn K cd3 "_law_draw" = true) (k3 : PySem.W.keepIn K (.ref f3) = true)
    (a4 : PySem.W.nsIn K mainGlobals "_law_web_by" = some (some (.ref f4))) (l4 : K.lookup f4 = some ⟨oc4, od4, .func (PySem.W.fnOf "_law_web_by" "_law_web_by" (defArgs st__law_web_by) (defBody st__law_web_by) (defScope st__law_web_by) .none kV4 dc4 pm4 an4 cd4 ct4), sl4⟩) (c4 : PySem.W.codeIn K cd4 "_law_web_by" = true) (k4 : PySem.W.keepIn K (.ref f4) = true)
    (a5 : PySem.W.nsIn K mainGlobals "_law_odd_arrow" = some (some (.ref f5))) (l5 : K.lookup f5 = some ⟨oc5, od5, .func (PySem.W.fnOf "_law_odd_arrow" "_law_odd_arrow" (defArgs st__law_odd_arrow) (defBody st__law_odd_arrow) (defScope st__law_odd_arrow) .none kV5 dc5 pm5 an5 cd5 ct5), sl5⟩) (c5 : PySem.W.codeIn K cd5 "_law_odd_arrow" = true) (k5 : PySem.W.keepIn K (.ref f5) = true)
    (a6 : PySem.W.nsIn K mainGlobals "_law_odd_web" = some (some (.ref f6))) (l6 : K.lookup f6 = some ⟨oc6, od6, .func (PySem.W.fnOf "_law_odd_web" "_law_odd_web" (defArgs st__law_odd_web) (defBody st__law_odd_web) (defScope st__law_odd_web) .none kV6 dc6 pm6 an6 cd6 ct6), sl6⟩) (c6 : PySem.W.codeIn K cd6 "_law_odd_web" = true) (k6 : PySem.W.keepIn K (.ref f6) = true)
    (a7 : PySem.W.nsIn K mainGlobals "is_whole" = some (some (.ref f7))) (l7 : K.lookup f7 = some ⟨oc7, od7, .func (PySem.W.fnOf "is_whole" "is_whole" (defArgs st_is_whole) (defBody st_is_whole) (defScope st_is_whole) .none kV7 dc7 pm7 an7 cd7 ct7), sl7⟩) (c7 : PySem.W.codeIn K cd7 "is_whole" = true) (k7 : PySem.W.keepIn K (.ref f7) = true)
    (a8 : PySem.W.nsIn K mainGlobals "arrow_good" = some (some (.ref f8))) (l8 : K.lookup f8 = some ⟨oc8, od8, .func (PySem.W.fnOf "arrow_good" "arrow_good" (defArgs st_arrow_good) (defBody st_arrow_good) (defScope st_arrow_good) .none kV8 dc8 pm8 an8 cd8 ct8), sl8⟩) (c8 : PySem.W.codeIn K cd8 "arrow_good" = true) (k8 : PySem.W.keepIn K (.ref f8) = true)
    (a9 : PySem.W.nsIn K mainGlobals "web_good" = some (some (.ref f9))) (l9 : K.lookup f9 = some ⟨oc9, od9, .func (PySem.W.fnOf "web_good" "web_good" (defArgs st_web_good) (defBody st_web_good) (defScope st_web_good) .none kV9 dc9 pm9 an9 cd9 ct9), sl9⟩) (c9 : PySem.W.codeIn K cd9 "web_good" = true) (k9 : PySem.W.keepIn K (.ref f9) = true)
    (a10 : PySem.W.nsIn K mainGlobals "_law_whole" = some (some (.ref f10))) (l10 : K.lookup f10 = some ⟨oc10, od10, .func (PySem.W.fnOf "_law_whole" "_law_whole" (defArgs st__law_whole) (defBody st__law_whole) (defScope st__law_whole) .none kV10 dc10 pm10 an10 cd10 ct10), sl10⟩) (c10 : PySem.W.codeIn K cd10 "_law_whole" = true) (k10 : PySem.W.keepIn K (.ref f10) = true)
    (a11 : PySem.W.nsIn K mainGlobals "_law_arrow_good" = some (some (.ref f11))) (l11 : K.lookup f11 = some ⟨oc11, od11, .func (PySem.W.fnOf "_law_arrow_good" "_law_arrow_good" (defArgs st__law_arrow_good) (defBody st__law_arrow_good) (defScope st__law_arrow_good) .none kV11 dc11 pm11 an11 cd11 ct11), sl11⟩) (c11 : PySem.W.codeIn K cd11 "_law_arrow_good" = true) (k11 : PySem.W.keepIn K (.ref f11) = true)
    (a12 : PySem.W.nsIn K mainGlobals "_law_web_good" = some (some (.ref f12))) (l12 : K.lookup f12 = some ⟨oc12, od12, .func (PySem.W.fnOf "_law_web_good" "_law_web_good" (defArgs st__law_web_good) (defBody st__law_web_good) (defScope st__law_web_good) .none kV12 dc12 pm12 an12 cd12 ct12), sl12⟩) (c12 : PySem.W.codeIn K cd12 "_law_web_good" = true) (k12 : PySem.W.keepIn K (.ref f12) = true)
    (a13 : PySem.W.nsIn K mainGlobals "_law_right" = some (some (.ref f13))) (l13 : K.lookup f13 = some ⟨oc13, od13, .func (PySem.W.fnOf "_law_right" "_law_right" (defArgs st__law_right) (defBody st__law_right) (defScope st__law_right) .none kV13 dc13 pm13 an13 cd13 ct13), sl13⟩) (c13 : PySem.W.codeIn K cd13 "_law_right" = true) (k13 : PySem.W.keepIn K (.ref f13) = true)
    (a14 : PySem.W.nsIn K mainGlobals "law" = some (some (.ref f14))) (l14 : K.lookup f14 = some ⟨oc14, od14, .func (PySem.W.fnOf "law" "law" (defArgs st_law) (defBody st_law) (defScope st_law) .none kV14 dc14 pm14 an14 cd14 ct14), sl14⟩) (c14 : PySem.W.codeIn K cd14 "law" = true) (k14 : PySem.W.keepIn K (.ref f14) = true)
    (z0 : PySem.W.nsIn K mainGlobals "len" = some none)
    (z1 : PySem.W.nsIn K mainGlobals "abs" = some none)
    (z2 : PySem.W.nsIn K mainGlobals "max" = some none)
    (z3 : PySem.W.nsIn K mainGlobals "min" = some none)
    (z4 : PySem.W.nsIn K mainGlobals "sum" = some none)
    (z5 : PySem.W.nsIn K mainGlobals "all" = some none)
    (z6 : PySem.W.nsIn K mainGlobals "tuple" = some none)
    (z7 : PySem.W.nsIn K mainGlobals "list" = some none)
    (z8 : PySem.W.nsIn K mainGlobals "sorted" = some none)
    (z9 : PySem.W.nsIn K mainGlobals "int" = some none)
    (z10 : PySem.W.nsIn K mainGlobals "str" = some none)
    (z11 : PySem.W.nsIn K mainGlobals "dict" = some none)
    (z12 : PySem.W.nsIn K mainGlobals "bool" = some none)
    (z13 : PySem.W.nsIn K mainGlobals "isinstance" = some none)
    (z14 : PySem.W.nsIn K mainGlobals "range" = some none)
    (z15 : PySem.W.nsIn K mainGlobals "enumerate" = some none)
    (z16 : PySem.W.nsIn K mainGlobals "zip" = some none)
    (cst0 : PySem.W.nsIn K mainGlobals "MOST_WORTH" = some (some (.int 1000000000000000000000000000000 t0)))
    (cst1 : PySem.W.nsIn K mainGlobals "MOST_ARROWS" = some (some (.int 24 t1)))
    (cst2 : PySem.W.nsIn K mainGlobals "MOST_PLACES" = some (some (.int 8 t2))) :
    ∃ fd : FuncData, (∀ (s : Shared) (v : Value), BindsTo s fd ⟨[v], []⟩ [("_law_script", v)]) ∧ ∀ base : Heap, K.In base → base.Ns mainGlobals mg → FnOk l.prog w K mg base (L2.CX l.prog w) 5 fa fd ["_law_script"] (spT K XR0 1 F_law) := by
  have e := hfa.symm.trans (PySem.W.mg_of X G a14)
  cases e
  have hblt : ∀ y ∈ bltNames, mg y = none := by
    intro y hy
    simp only [bltNames, List.mem_cons, List.not_mem_nil, or_false] at hy
    rcases hy with rfl | rfl | rfl | rfl | rfl | rfl | rfl | rfl | rfl | rfl | rfl | rfl | rfl | rfl | rfl | rfl | rfl
    · exact PySem.W.mg_none_of X G z0
    · exact PySem.W.mg_none_of X G z1
    · exact PySem.W.mg_none_of X G z2
    · exact PySem.W.mg_none_of X G z3
    · exact PySem.W.mg_none_of X G z4
    · exact PySem.W.mg_none_of X G z5
    · exact PySem.W.mg_none_of X G z6
    · exact PySem.W.mg_none_of X G z7
    · exact PySem.W.mg_none_of X G z8
    · exact PySem.W.mg_none_of X G z9
    · exact PySem.W.mg_none_of X G z10
    · exact PySem.W.mg_none_of X G z11
    · exact PySem.W.mg_none_of X G z12
    · exact PySem.W.mg_none_of X G z13
    · exact PySem.W.mg_none_of X G z14
    · exact PySem.W.mg_none_of X G z15
    · exact PySem.W.mg_none_of X G z16
  have cg0 := PySem.W.mg_of X G cst0
  have cg1 := PySem.W.mg_of X G cst1
  have cg2 := PySem.W.mg_of X G cst2
  refine ⟨PySem.W.fnOf "law" "law" (defArgs st_law) (defBody st_law) (defScope st_law) .none kV14 dc14 pm14 an14 cd14 ct14, fun s v => .of_eq rfl, fun base _ _ => ?_⟩
  have F0 := fun_mk (st := st__law_cell_at) l0 c0 k0
  have b0 := F0.binds (ps := ["_law_script", "_law_k"]) fun _ _ _ _ _ _ us hl => match us, hl with | [_, _], _ => rfl
  have o0 : FnOk l.prog w K mg base (L2.CX l.prog w) 1 f0 _ ["_law_script", "_law_k"] (spT K XR0 2 F__law_cell_at) := fn_ok xok0 F0 sc__law_cell_at hblt ck__law_cell_at (by (repeat' apply And.intro) <;> first | trivial)
  have n__law_cell_at : ∀ lv, 1 ≤ lv → FnNeed ⟨l.prog, w, K, mg, base⟩ XR0 lv "_law_cell_at" 2 F__law_cell_at := fun lv h => need_of (ps := ["_law_script", "_law_k"]) o0 h (PySem.W.mg_of X G a0) k0 b0
  have F1 := fun_mk (st := st__law_pen_of) l1 c1 k1
  have b1 := F1.binds (ps := ["_law_cell"]) fun _ _ _ _ _ _ us hl => match us, hl with | [_], _ => rfl
  have o1 : FnOk l.prog w K mg base (L2.CX l.prog w) 1 f1 _ ["_law_cell"] (spT K XR0 1 F__law_pen_of) := fn_ok xok0 F1 sc__law_pen_of hblt ck__law_pen_of (by (repeat' apply And.intro) <;> first | trivial)
  have n__law_pen_of : ∀ lv, 1 ≤ lv → FnNeed ⟨l.prog, w, K, mg, base⟩ XR0 lv "_law_pen_of" 1 F__law_pen_of := fun lv h => need_of (ps := ["_law_cell"]) o1 h (PySem.W.mg_of X G a1) k1 b1
  have F2 := fun_mk (st := st__law_next) l2 c2 k2
  have b2 := F2.binds (ps := ["_law_seed"]) fun _ _ _ _ _ _ us hl => match us, hl with | [_], _ => rfl
  have o2 : FnOk l.prog w K mg base (L2.CX l.prog w) 1 f2 _ ["_law_seed"] (spT K XR0 1 F__law_next) := fn_ok xok0 F2 sc__law_next hblt ck__law_next (by (repeat' apply And.intro) <;> first | trivial)
  have n__law_next : ∀ lv, 1 ≤ lv → FnNeed ⟨l.prog, w, K, mg, base⟩ XR0 lv "_law_next" 1 F__law_next := fun lv h => need_of (ps := ["_law_seed"]) o2 h (PySem.W.mg_of X G a2) k2 b2
  have F3 := fun_mk (st := st__law_draw) l3 c3 k3
  have b3 := F3.binds (ps := ["_law_pen", "_law_many"]) fun _ _ _ _ _ _ us hl => match us, hl with | [_, _], _ => rfl
  have o3 : FnOk l.prog w K mg base (L2.CX l.prog w) 2 f3 _ ["_law_pen", "_law_many"] (spT K XR0 2 F__law_draw) := fn_ok xok0 F3 sc__law_draw hblt ck__law_draw (by (repeat' apply And.intro) <;> first | trivial | exact n__law_next _ (by decide))
  have n__law_draw : ∀ lv, 2 ≤ lv → FnNeed ⟨l.prog, w, K, mg, base⟩ XR0 lv "_law_draw" 2 F__law_draw := fun lv h => need_of (ps := ["_law_pen", "_law_many"]) o3 h (PySem.W.mg_of X G a3) k3 b3
  have F4 := fun_mk (st := st__law_web_by) l4 c4 k4
  have b4 := F4.binds (ps := ["_law_pen", "_law_most"]) fun _ _ _ _ _ _ us hl => match us, hl with | [_, _], _ => rfl
  have o4 : FnOk l.prog w K mg base (L2.CX l.prog w) 3 f4 _ ["_law_pen", "_law_most"] (spT K XR0 2 F__law_web_by) := fn_ok xok0 F4 sc__law_web_by hblt ck__law_web_by (by (repeat' apply And.intro) <;> first | trivial | exact n__law_draw _ (by decide))
  have n__law_web_by : ∀ lv, 3 ≤ lv → FnNeed ⟨l.prog, w, K, mg, base⟩ XR0 lv "_law_web_by" 2 F__law_web_by := fun lv h => need_of (ps := ["_law_pen", "_law_most"]) o4 h (PySem.W.mg_of X G a4) k4 b4
  have F5 := fun_mk (st := st__law_odd_arrow) l5 c5 k5
  have b5 := F5.binds (ps := ["_law_web", "_law_pen"]) fun _ _ _ _ _ _ us hl => match us, hl with | [_, _], _ => rfl
  have o5 : FnOk l.prog w K mg base (L2.CX l.prog w) 3 f5 _ ["_law_web", "_law_pen"] (spT K XR0 2 F__law_odd_arrow) := fn_ok xok0 F5 sc__law_odd_arrow hblt ck__law_odd_arrow (by (repeat' apply And.intro) <;> first | trivial | exact n__law_draw _ (by decide))
  have n__law_odd_arrow : ∀ lv, 3 ≤ lv → FnNeed ⟨l.prog, w, K, mg, base⟩ XR0 lv "_law_odd_arrow" 2 F__law_odd_arrow := fun lv h => need_of (ps := ["_law_web", "_law_pen"]) o5 h (PySem.W.mg_of X G a5) k5 b5
  have F6 := fun_mk (st := st__law_odd_web) l6 c6 k6
  have b6 := F6.binds (ps := ["_law_web", "_law_pen"]) fun _ _ _ _ _ _ us hl => match us, hl with | [_, _], _ => rfl
  have o6 : FnOk l.prog w K mg base (L2.CX l.prog w) 4 f6 _ ["_law_web", "_law_pen"] (spT K XR0 2 F__law_odd_web) := fn_ok xok0 F6 sc__law_odd_web hblt ck__law_odd_web (by (repeat' apply And.intro) <;> first | trivial | exact n__law_draw _ (by decide) | exact n__law_odd_arrow _ (by decide))
  have n__law_odd_web : ∀ lv, 4 ≤ lv → FnNeed ⟨l.prog, w, K, mg, base⟩ XR0 lv "_law_odd_web" 2 F__law_odd_web := fun lv h => need_of (ps := ["_law_web", "_law_pen"]) o6 h (PySem.W.mg_of X G a6) k6 b6
  have F7 := fun_mk (st := st_is_whole) l7 c7 k7
  have b7 := F7.binds (ps := ["thing"]) fun _ _ _ _ _ _ us hl => match us, hl with | [_], _ => rfl
  have o7 : FnOk l.prog w K mg base (L2.CX l.prog w) 1 f7 _ ["thing"] (spT K XR0 1 F_is_whole) := fn_ok xok0 F7 sc_is_whole hblt ck_is_whole (by (repeat' apply And.intro) <;> first | trivial)
  have n_is_whole : ∀ lv, 1 ≤ lv → FnNeed ⟨l.prog, w, K, mg, base⟩ XR0 lv "is_whole" 1 F_is_whole := fun lv h => need_of (ps := ["thing"]) o7 h (PySem.W.mg_of X G a7) k7 b7
  have F8 := fun_mk (st := st_arrow_good) l8 c8 k8
  have b8 := F8.binds (ps := ["many", "thing"]) fun _ _ _ _ _ _ us hl => match us, hl with | [_, _], _ => rfl
  have o8 : FnOk l.prog w K mg base (L2.CX l.prog w) 2 f8 _ ["many", "thing"] (spT K XR0 2 F_arrow_good) := fn_ok xok0 F8 sc_arrow_good hblt ck_arrow_good (by (repeat' apply And.intro) <;> first | trivial | exact n_is_whole _ (by decide) | exact ⟨_, cg0⟩)
  have n_arrow_good : ∀ lv, 2 ≤ lv → FnNeed ⟨l.prog, w, K, mg, base⟩ XR0 lv "arrow_good" 2 F_arrow_good := fun lv h => need_of (ps := ["many", "thing"]) o8 h (PySem.W.mg_of X G a8) k8 b8
  have F9 := fun_mk (st := st_web_good) l9 c9 k9
  have b9 := F9.binds (ps := ["thing"]) fun _ _ _ _ _ _ us hl => match us, hl with | [_], _ => rfl
  have o9 : FnOk l.prog w K mg base (L2.CX l.prog w) 3 f9 _ ["thing"] (spT K XR0 1 F_web_good) := fn_ok xok0 F9 sc_web_good hblt ck_web_good (by (repeat' apply And.intro) <;> first | trivial | exact n_is_whole _ (by decide) | exact n_arrow_good _ (by decide) | exact ⟨_, cg1⟩ | exact ⟨_, cg2⟩)
  have n_web_good : ∀ lv, 3 ≤ lv → FnNeed ⟨l.prog, w, K, mg, base⟩ XR0 lv "web_good" 1 F_web_good := fun lv h => need_of (ps := ["thing"]) o9 h (PySem.W.mg_of X G a9) k9 b9
  have F10 := fun_mk (st := st__law_whole) l10 c10 k10
  have b10 := F10.binds (ps := ["_law_found"]) fun _ _ _ _ _ _ us hl => match us, hl with | [_], _ => rfl
  have o10 : FnOk l.prog w K mg base (L2.CX l.prog w) 1 f10 _ ["_law_found"] (spT K XR0 1 F__law_whole) := fn_ok xok0 F10 sc__law_whole hblt ck__law_whole (by (repeat' apply And.intro) <;> first | trivial)
  have n__law_whole : ∀ lv, 1 ≤ lv → FnNeed ⟨l.prog, w, K, mg, base⟩ XR0 lv "_law_whole" 1 F__law_whole := fun lv h => need_of (ps := ["_law_found"]) o10 h (PySem.W.mg_of X G a10) k10 b10
  have F11 := fun_mk (st := st__law_arrow_good) l11 c11 k11
  have b11 := F11.binds (ps := ["_law_many", "_law_thing"]) fun _ _ _ _ _ _ us hl => match us, hl with | [_, _], _ => rfl
  have o11 : FnOk l.prog w K mg base (L2.CX l.prog w) 2 f11 _ ["_law_many", "_law_thing"] (spT K XR0 2 F__law_arrow_good) := fn_ok xok0 F11 sc__law_arrow_good hblt ck__law_arrow_good (by (repeat' apply And.intro) <;> first | trivial | exact n__law_whole _ (by decide))
  have n__law_arrow_good : ∀ lv, 2 ≤ lv → FnNeed ⟨l.prog, w, K, mg, base⟩ XR0 lv "_law_arrow_good" 2 F__law_arrow_good := fun lv h => need_of (ps := ["_law_many", "_law_thing"]) o11 h (PySem.W.mg_of X G a11) k11 b11
  have F12 := fun_mk (st := st__law_web_good) l12 c12 k12
  have b12 := F12.binds (ps := ["_law_thing"]) fun _ _ _ _ _ _ us hl => match us, hl with | [_], _ => rfl
  have o12 : FnOk l.prog w K mg base (L2.CX l.prog w) 3 f12 _ ["_law_thing"] (spT K XR0 1 F__law_web_good) := fn_ok xok0 F12 sc__law_web_good hblt ck__law_web_good (by (repeat' apply And.intro) <;> first | trivial | exact n__law_whole _ (by decide) | exact n__law_arrow_good _ (by decide))
  have n__law_web_good : ∀ lv, 3 ≤ lv → FnNeed ⟨l.prog, w, K, mg, base⟩ XR0 lv "_law_web_good" 1 F__law_web_good := fun lv h => need_of (ps := ["_law_thing"]) o12 h (PySem.W.mg_of X G a12) k12 b12
  have F13 := fun_mk (st := st__law_right) l13 c13 k13
  have b13 := F13.binds (ps := ["_law_thing"]) fun _ _ _ _ _ _ us hl => match us, hl with | [_], _ => rfl
  have o13 : FnOk l.prog w K mg base (L2.CX l.prog w) 4 f13 _ ["_law_thing"] (spT K XR0 1 F__law_right) := fn_ok xok0 F13 sc__law_right hblt ck__law_right (by (repeat' apply And.intro) <;> first | trivial | exact n_web_good _ (by decide) | exact n__law_web_good _ (by decide))
  have n__law_right : ∀ lv, 4 ≤ lv → FnNeed ⟨l.prog, w, K, mg, base⟩ XR0 lv "_law_right" 1 F__law_right := fun lv h => need_of (ps := ["_law_thing"]) o13 h (PySem.W.mg_of X G a13) k13 b13
  have F14 := fun_mk (st := st_law) l14 c14 k14
  have o14 : FnOk l.prog w K mg base (L2.CX l.prog w) 5 fa _ ["_law_script"] (spT K XR0 1 F_law) := fn_ok xok0 F14 sc_law hblt ck_law (by (repeat' apply And.intro) <;> first | trivial | exact n__law_cell_at _ (by decide) | exact n__law_pen_of _ (by decide) | exact n__law_web_by _ (by decide) | exact n__law_odd_web _ (by decide) | exact n__law_right _ (by decide))
  exact o14
end K01

open PySem PySem.W PyProof.Rows
set_option maxHeartbeats 0 in
theorem PySem.Challenge.cw_meanrings_k01_what_is_a_web_holds : PySem.Challenge.rw_meanrings_k01_what_is_a_web.Holds := by
  w_on; o_law; k_head; (case hw => w_witness2)
  k_fill
  refine L2.walk_of (l := PySem.Challenge.rw_meanrings_k01_what_is_a_web) (n := 63) (k := 5) (x := "_law_script") (CX := fun w => L2.CX PySem.Challenge.rw_meanrings_k01_what_is_a_web.prog w) (sp := fun w => TL.spT _ TL.XR0 1 K01.F_law) rfl (by decide) rfl ⟨rfl, by decide, by decide⟩ (fun w h Y => PySem.W.kIn_of Y) ?F (fun _ _ a ns hl _ hS => (let ⟨_, q⟩ := K01.law_pure ns hl; TL.law_sp q hS)) (fun _ _ _ _ _ h => by obtain ⟨_, _, _, _, _, _, _, _, _, _, _, _, z⟩ := h; exact z)
  case F =>
    intro w mg fa h KX G hmg
    refine' K01.all_mk KX G hmg ?a0 ?l0 ?c0 ?k0 ?a1 ?l1 ?c1 ?k1 ?a2 ?l2 ?c2 ?k2 ?a3 ?l3 ?c3 ?k3 ?a4 ?l4 ?c4 ?k4 ?a5 ?l5 ?c5 ?k5 ?a6 ?l6 ?c6 ?k6 ?a7 ?l7 ?c7 ?k7 ?a8 ?l8 ?c8 ?k8 ?a9 ?l9 ?c9 ?k9 ?a10 ?l10 ?c10 ?k10 ?a11 ?l11 ?c11 ?k11 ?a12 ?l12 ?c12 ?k12 ?a13 ?l13 ?c13 ?k13 ?a14 ?l14 ?c14 ?k14 ?z0 ?z1 ?z2 ?z3 ?z4 ?z5 ?z6 ?z7 ?z8 ?z9 ?z10 ?z11 ?z12 ?z13 ?z14 ?z15 ?z16 ?cst0 ?cst1 ?cst2
    (case a0 => k_is); (case l0 => k_is); (case c0 => k_is); (case k0 => k_is); (case a1 => k_is); (case l1 => k_is); (case c1 => k_is); (case k1 => k_is); (case a2 => k_is); (case l2 => k_is); (case c2 => k_is); (case k2 => k_is); (case a3 => k_is); (case l3 => k_is); (case c3 => k_is); (case k3 => k_is); (case a4 => k_is); (case l4 => k_is); (case c4 => k_is); (case k4 => k_is); (case a5 => k_is); (case l5 => k_is); (case c5 => k_is); (case k5 => k_is); (case a6 => k_is); (case l6 => k_is); (case c6 => k_is); (case k6 => k_is); (case a7 => k_is); (case l7 => k_is); (case c7 => k_is); (case k7 => k_is); (case a8 => k_is); (case l8 => k_is); (case c8 => k_is); (case k8 => k_is); (case a9 => k_is); (case l9 => k_is); (case c9 => k_is); (case k9 => k_is); (case a10 => k_is); (case l10 => k_is); (case c10 => k_is); (case k10 => k_is); (case a11 => k_is); (case l11 => k_is); (case c11 => k_is); (case k11 => k_is); (case a12 => k_is); (case l12 => k_is); (case c12 => k_is); (case k12 => k_is); (case a13 => k_is); (case l13 => k_is); (case c13 => k_is); (case k13 => k_is); (case a14 => k_is); (case l14 => k_is); (case c14 => k_is); (case k14 => k_is); (case z0 => k_is); (case z1 => k_is); (case z2 => k_is); (case z3 => k_is); (case z4 => k_is); (case z5 => k_is); (case z6 => k_is); (case z7 => k_is); (case z8 => k_is); (case z9 => k_is); (case z10 => k_is); (case z11 => k_is); (case z12 => k_is); (case z13 => k_is); (case z14 => k_is); (case z15 => k_is); (case z16 => k_is); (case cst0 => k_is); (case cst1 => k_is); (case cst2 => k_is)
