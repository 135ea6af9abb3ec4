import PyProof.Rows.All
import Wide.All
import OpenK.AllK
import Wide.FinOn
import HandS.ForMost
import HandS.ForExc
import HandS.Wide
import HandS.CallSlots
import HandS.Deep
import KE.DataEq
import HandS.TupAny
import HandS.TupMul
import HandS.TupLe
import HandS.Style
import PyProof.StrOps2
import KE.SortData
import HandS.Text
import HandS.ExcCtx
import HandS.IsInst
import HandS.SortInts
import HandS.Conv
import HandS.TupLen
import HandS.Zip
import HandS.Walk
import PyProof.WalksMore
import KE.DataMinMax
import KE.SortCalls
import HandS.More
import KE.KDictSum
import HandS.Sort
import KE.GoesMore
import KE.GoesEnum
import KE.KDictZip
import HandS.Comp
import HandS.DictTup
import HandS.Small
import KE.KDictPairs
import KE.KDictKeyed
import HandS.SetFor
import HandS.TupSets
import PyProof.Rows.SetFrom
import HandS.Dict
import HandS.Set
import HandS.Flow
import HandS.ReplaceLit
import HandS.HotCalls
import HandS.ExcInit
import HandS.ExcInitHot
import HandS.ExcField
import KE.KExcIs
import HandS.WordsExc
import KE.KIntText
import PySem.Challenge.RW_meanrings_k71_texts_that_write_none
set_option Elab.async false
set_option linter.all false
set_option maxRecDepth 100000
namespace TL
open PySem PySem.Spec PyProof.Rows L2
inductive T where
  | non | bl (b : Bool) | int (i : Int) | str (s : Str)
  | tup (xs : List T) | lst (xs : List T) | dK (kvs : List (Key × T)) | dT (kvs : List (List Key × T)) | ref (i : Nat) | scr (ns : List Int) | fn (a : Addr)
  deriving Inhabited
inductive Ob where
  | lst (xs : List T) | dK (kvs : List (Key × T)) | dT (kvs : List (List Key × T))
  deriving Inhabited
abbrev Sto := List Ob
abbrev Lo := List (Option T)
mutual
inductive Is (K : PySem.W.Frag) (Z : Addr → Prop) (H : Hp) (ι : Nat → Addr) (n : Nat) : V → T → Prop
  | non : Is K Z H ι n .non .non
  | bl (b : Bool) : Is K Z H ι n (.bl b) (.bl b)
  | int (i : Int) : Is K Z H ι n (.int i) (.int i)
  | str (s : Str) : Is K Z H ι n (.str s) (.str s)
  | fn (a : Addr) : Is K Z H ι n (.ref a) (.fn a)
  | tup {a : Addr} {vs : List V} {ts : List T} : H a = some (.tup vs) → IsAll K Z H ι n vs ts → Is K Z H ι n (.ref a) (.tup ts)
  | lst {a : Addr} {vs : List V} {ts : List T} : H a = some (.lst vs) → (∀ i, i < n → ι i ≠ a) → ¬ Z a → IsAll K Z H ι n vs ts → Is K Z H ι n (.ref a) (.lst ts)
  | dK {a : Addr} {ks : List Key} {vs : List V} {ts : List T} : H a = some (.dK (ks.zip vs)) → (∀ i, i < n → ι i ≠ a) → ¬ Z a → ks.length = vs.length → IsAll K Z H ι n vs ts → Is K Z H ι n (.ref a) (.dK (ks.zip ts))
  | dT {a : Addr} {ks : List (List Key)} {vs : List V} {ts : List T} : H a = some (.dT (ks.zip vs)) → (∀ i, i < n → ι i ≠ a) → ¬ Z a → ks.length = vs.length → IsAll K Z H ι n vs ts → Is K Z H ι n (.ref a) (.dT (ks.zip ts))
  | ref {i : Nat} : i < n → Is K Z H ι n (.ref (ι i)) (.ref i)
  | scrK {a : Addr} {ns : List Int} : (∃ (o : Obj) (its : Array Value) (n : Nat), K.lookup a = some o ∧ o.cls = .type "list" ∧ o.dict = none ∧ o.data = .seq its n ∧ its.size ≤ sizeLine ∧ Vals (ns.map V.int) its.toList) → Is K Z H ι n (.ref a) (.scr ns)
  | scr {a : Addr} {ns : List Int} : Rd H a (.lst (ns.map V.int)) → (∀ i, i < n → ι i ≠ a) → ¬ Z a → Is K Z H ι n (.ref a) (.scr ns)
inductive IsAll (K : PySem.W.Frag) (Z : Addr → Prop) (H : Hp) (ι : Nat → Addr) (n : Nat) : List V → List T → Prop
  | nil : IsAll K Z H ι n [] []
  | cons {v : V} {vs : List V} {t : T} {ts : List T} : Is K Z H ι n v t → IsAll K Z H ι n vs ts → IsAll K Z H ι n (v :: vs) (t :: ts)
end
section
variable {K : PySem.W.Frag} {Z : Addr → Prop} {H H' : Hp} {ι ι' : Nat → Addr} {n n' : Nat}
theorem IsAll.length : ∀ {vs : List V} {ts : List T}, IsAll K Z H ι n vs ts → vs.length = ts.length
  | _, _, .nil => rfl
  | _, _, .cons _ h => by simp [IsAll.length h]
theorem IsAll.get : ∀ {vs : List V} {ts : List T} {i : Nat} {t : T}, IsAll K Z H ι n vs ts → ts[i]? = some t → ∃ v, vs[i]? = some v ∧ Is K Z H ι n v t
  | _, _, _, _, .nil, e => by simp at e
  | _, _, 0, _, .cons h _, e => by simp at e; subst e; exact ⟨_, rfl, h⟩
  | _, _, i + 1, t, .cons _ hs, e => by
    obtain ⟨u, h1, h2⟩ := IsAll.get (i := i) (t := t) hs (by simpa using e)
    exact ⟨u, by simpa using h1, h2⟩
theorem IsAll.get' : ∀ {vs : List V} {ts : List T} {i : Nat} {v : V}, IsAll K Z H ι n vs ts → vs[i]? = some v → ∃ t, ts[i]? = some t ∧ Is K Z H ι n v t
  | _, _, _, _, .nil, e => by simp at e
  | _, _, 0, _, .cons h _, e => by simp at e; subst e; exact ⟨_, rfl, h⟩
  | _, _, i + 1, t, .cons _ hs, e => by
    obtain ⟨u, h1, h2⟩ := IsAll.get' (i := i) (v := t) hs (by simpa using e)
    exact ⟨u, by simpa using h1, h2⟩
theorem IsAll.set {v : V} {t : T} (r : Is K Z H ι n v t) : ∀ {vs : List V} {ts : List T} (i : Nat), IsAll K Z H ι n vs ts → IsAll K Z H ι n (vs.set i v) (ts.set i t)
  | _, _, _, .nil => .nil
  | _, _, 0, .cons _ hs => .cons r hs
  | _, _, i + 1, .cons q hs => .cons q (IsAll.set r i hs)
theorem IsAll.append : ∀ {vs ws : List V} {ts us : List T}, IsAll K Z H ι n vs ts → IsAll K Z H ι n ws us → IsAll K Z H ι n (vs ++ ws) (ts ++ us)
  | _, _, _, _, .nil, s => s
  | _, _, _, _, .cons r q, s => .cons r (IsAll.append q s)
theorem IsAll.one {v : V} {t : T} (r : Is K Z H ι n v t) : IsAll K Z H ι n [v] [t] := .cons r .nil
theorem IsAll.take : ∀ {vs : List V} {ts : List T} (k : Nat), IsAll K Z H ι n vs ts → IsAll K Z H ι n (vs.take k) (ts.take k)
  | _, _, 0, _ => .nil
  | _, _, _ + 1, .nil => .nil
  | _, _, k + 1, .cons r q => .cons r (IsAll.take k q)
theorem IsAll.drop : ∀ {vs : List V} {ts : List T} (k : Nat), IsAll K Z H ι n vs ts → IsAll K Z H ι n (vs.drop k) (ts.drop k)
  | _, _, 0, r => r
  | _, _, _ + 1, .nil => .nil
  | _, _, k + 1, .cons _ q => IsAll.drop k q
theorem IsAll.rev : ∀ {vs : List V} {ts : List T}, IsAll K Z H ι n vs ts → IsAll K Z H ι n vs.reverse ts.reverse
  | _, _, .nil => .nil
  | _, _, .cons r q => by
    rw [List.reverse_cons, List.reverse_cons]
    exact IsAll.append (IsAll.rev q) (.one r)
theorem IsAll.rep {vs : List V} {ts : List T} (h : IsAll K Z H ι n vs ts) : ∀ k : Nat, IsAll K Z H ι n (List.replicate k vs).flatten (List.replicate k ts).flatten
  | 0 => .nil
  | k + 1 => by
    rw [List.replicate_succ, List.replicate_succ, List.flatten_cons, List.flatten_cons]
    exact IsAll.append h (IsAll.rep h k)
theorem IsAll.nil_iff {vs : List V} {ts : List T} (r : IsAll K Z H ι n vs ts) : vs = [] ↔ ts = [] := by
  cases r <;> simp
theorem IsAll.inv1 {vs : List V} {t : T} (h : IsAll K Z H ι n vs [t]) : ∃ v, vs = [v] ∧ Is K Z H ι n v t := by
  cases h with
  | cons a b => cases b; exact ⟨_, rfl, a⟩
theorem IsAll.inv2 {vs : List V} {t u : T} (h : IsAll K Z H ι n vs [t, u]) : ∃ v w, vs = [v, w] ∧ Is K Z H ι n v t ∧ Is K Z H ι n w u := by
  cases h with
  | cons a b => obtain ⟨w, rfl, r⟩ := b.inv1; exact ⟨_, _, rfl, a, r⟩
theorem IsAll.inv0 {vs : List V} (h : IsAll K Z H ι n vs []) : vs = [] := by cases h; rfl
structure Step (ι : Nat → Addr) (n : Nat) (H : Hp) (ι' : Nat → Addr) (n' : Nat) (H' : Hp) : Prop where
  le : n ≤ n'
  ext : ∀ i, i < n → ι' i = ι i
  new : ∀ i, n ≤ i → i < n' → H (ι' i) = none
  keep : ∀ a o, H a = some o → (∀ i, i < n → ι i ≠ a) → H' a = some o
  there : ∀ a o, H a = some o → ∃ o', H' a = some o'
theorem Step.refl : Step ι n H ι n H := ⟨Nat.le_refl _, fun _ _ => rfl, fun i h1 h2 => absurd h2 (Nat.not_lt.mpr h1), fun _ _ e _ => e, fun _ o e => ⟨o, e⟩⟩
theorem Step.same (s : Same H H') : Step ι n H ι n H' := ⟨Nat.le_refl _, fun _ _ => rfl, fun i h1 h2 => absurd h2 (Nat.not_lt.mpr h1), fun a o e _ => s a o e, fun a o e => ⟨o, s a o e⟩⟩
theorem Step.trans {ι1 ι2 : Nat → Addr} {n1 n2 : Nat} {H1 H2 : Hp} (a : Step ι n H ι1 n1 H1) (b : Step ι1 n1 H1 ι2 n2 H2) : Step ι n H ι2 n2 H2 where
  le := Nat.le_trans a.le b.le
  ext := fun i h => (b.ext i (Nat.lt_of_lt_of_le h a.le)).trans (a.ext i h)
  new := fun i h1 h2 => by
    by_cases h : i < n1
    · rw [b.ext i h]; exact a.new i h1 h
    · cases q : H (ι2 i) with
      | none => rfl
      | some o =>
        obtain ⟨o', e⟩ := a.there _ _ q
        rw [b.new i (Nat.le_of_not_lt h) h2] at e; cases e
  keep := fun c o e hc => b.keep c o (a.keep c o e hc) fun i h => by
    by_cases hi : i < n
    · rw [a.ext i hi]; exact hc i hi
    · intro z
      have := a.new i (Nat.le_of_not_lt hi) h
      rw [z, e] at this; cases this
  there := fun c o e => by
    obtain ⟨o1, e1⟩ := a.there c o e
    exact b.there c o1 e1
theorem Rd.step {u : HO} {a : Addr} (s : Step ι n H ι' n' H') (h : Rd H a u) (hn : ∀ i, i < n → ι i ≠ a) : Rd H' a u := by
  rcases h with h | ⟨o, h⟩
  · exact .inl (s.keep _ _ h hn)
  · exact .inr ⟨o, s.keep _ _ h hn⟩
theorem SqL.step {a : Addr} {vs : List V} (s : Step ι n H ι' n' H') (h : SqL K H a vs) (hn : ∀ i, i < n → ι i ≠ a) : SqL K H' a vs := by
  rcases h with h | h
  · exact .inl (Rd.step s h hn)
  · exact .inr h
inductive ObIs (K : PySem.W.Frag) (Z : Addr → Prop) (H : Hp) (ι : Nat → Addr) (n : Nat) (a : Addr) : Ob → Prop
  | lst {vs : List V} {ts : List T} : H a = some (.lst vs) → IsAll K Z H ι n vs ts → ObIs K Z H ι n a (.lst ts)
  | dK {ks : List Key} {vs : List V} {ts : List T} : H a = some (.dK (ks.zip vs)) → ks.length = vs.length → IsAll K Z H ι n vs ts → ObIs K Z H ι n a (.dK (ks.zip ts))
  | dT {ks : List (List Key)} {vs : List V} {ts : List T} : H a = some (.dT (ks.zip vs)) → ks.length = vs.length → IsAll K Z H ι n vs ts → ObIs K Z H ι n a (.dT (ks.zip ts))
structure Rel (K : PySem.W.Frag) (Z : Addr → Prop) (ι : Nat → Addr) (S : Sto) (H : Hp) : Prop where
  inj : ∀ i j, i < S.length → j < S.length → ι i = ι j → i = j
  obj : ∀ i o, S[i]? = some o → ObIs K Z H ι S.length (ι i) o
  zt : ∀ a, Z a → ∃ o, H a = some o
  nz : ∀ i, i < S.length → ¬ Z (ι i)
theorem ObIs.notup {a : Addr} {o : Ob} (h : ObIs K Z H ι n a o) : ∀ vs, ¬ Rd H a (.tup vs) := by
  intro vs r
  cases h with
  | lst e _ => rcases r with r | ⟨_, r⟩ <;> rw [e] at r <;> cases r
  | dK e _ _ => rcases r with r | ⟨_, r⟩ <;> rw [e] at r <;> cases r
  | dT e _ _ => rcases r with r | ⟨_, r⟩ <;> rw [e] at r <;> cases r
theorem ObIs.some {a : Addr} {o : Ob} (h : ObIs K Z H ι n a o) : ∃ u, H a = Option.some u := by
  cases h with
  | lst e _ => exact ⟨_, e⟩
  | dK e _ _ => exact ⟨_, e⟩
  | dT e _ _ => exact ⟨_, e⟩
theorem Rel.notup {S : Sto} (R : Rel K Z ι S H) {a : Addr} {vs : List V} (h : Rd H a (.tup vs)) : ∀ i, i < S.length → ι i ≠ a := fun i hi z => by
  have := R.obj i S[i] (List.getElem?_eq_getElem hi)
  rw [z] at this
  exact this.notup vs h
theorem Rd.is {u : HO} {a : Addr} (h : Rd H a u) : ∃ o, H a = Option.some o := by
  rcases h with h | ⟨o, h⟩ <;> exact ⟨_, h⟩
theorem Step.nrec {S : Nat} (s : Step ι S H ι' n' H') {a : Addr} {o : HO} (h : H a = Option.some o) (hn : ∀ i, i < S → ι i ≠ a) : ∀ i, i < n' → ι' i ≠ a := fun i hi z => by
  by_cases hi' : i < S
  · rw [s.ext i hi'] at z; exact hn i hi' z
  · have := s.new i (Nat.le_of_not_lt hi') hi
    rw [z, h] at this; cases this
-- a value stays through a step (from a related state; the recorded grows or stays)
mutual
theorem Is.step {S : Sto} (R : Rel K Z ι S H) (s : Step ι S.length H ι' n' H') : ∀ {v : V} {t : T}, Is K Z H ι S.length v t → Is K Z H' ι' n' v t
  | _, _, .non => .non
  | _, _, .bl b => .bl b
  | _, _, .int i => .int i
  | _, _, .str x => .str x
  | _, _, .fn a => .fn a
  | _, _, .tup (a := a) h hs => .tup (s.keep _ _ h (R.notup (.of h))) (IsAll.step R s hs)
  | _, _, .lst h hn hz hs => .lst (s.keep _ _ h hn) (s.nrec h hn) hz (IsAll.step R s hs)
  | _, _, .scrK h => .scrK h
  | _, _, .scr (a := a) h hn hz => by
    obtain ⟨o, e⟩ := Rd.is h
    exact .scr (Rd.step s h hn) (s.nrec e hn) hz
  | _, _, .dK h hn hz hl hs => .dK (s.keep _ _ h hn) (s.nrec h hn) hz hl (IsAll.step R s hs)
  | _, _, .dT h hn hz hl hs => .dT (s.keep _ _ h hn) (s.nrec h hn) hz hl (IsAll.step R s hs)
  | _, _, .ref (i := i) hi => by
    rw [← s.ext i hi]
    exact .ref (Nat.lt_of_lt_of_le hi s.le)
theorem IsAll.step {S : Sto} (R : Rel K Z ι S H) (s : Step ι S.length H ι' n' H') : ∀ {vs : List V} {ts : List T}, IsAll K Z H ι S.length vs ts → IsAll K Z H' ι' n' vs ts
  | _, _, .nil => .nil
  | _, _, .cons h hs => .cons (Is.step R s h) (IsAll.step R s hs)
end
end
def Sl (K : PySem.W.Frag) (Z : Addr → Prop) (H : Hp) (ι : Nat → Addr) (n : Nat) (σ : L2.St) (l : Lo) : Prop :=
  σ.length = l.length ∧ ∀ (j : Nat) (t : T), l[j]? = some (some t) → ∃ v, σ[j]? = some (some v) ∧ Is K Z H ι n v t
section
variable {K : PySem.W.Frag} {Z : Addr → Prop} {H H' : Hp} {ι ι' : Nat → Addr} {n n' : Nat} {σ : L2.St} {l : Lo}
theorem Sl.step {S : Sto} (R : Rel K Z ι S H) (s : Step ι S.length H ι' n' H') (h : Sl K Z H ι S.length σ l) : Sl K Z H' ι' n' σ l :=
  ⟨h.1, fun j t e => let ⟨v, e1, r⟩ := h.2 j t e; ⟨v, e1, Is.step R s r⟩⟩
theorem Sl.set {v : V} {t : T} (h : Sl K Z H ι n σ l) (j : Nat) (r : Is K Z H ι n v t) : Sl K Z H ι n (σ.set j (some v)) (l.set j (some t)) := by
  refine ⟨by simp [h.1], fun k u e => ?_⟩
  by_cases hk : j = k
  · subst hk
    have hj : j < l.length := by
      have := (List.getElem?_eq_some_iff.mp e).1
      simpa using this
    rw [List.getElem?_set_self hj] at e
    cases e
    exact ⟨v, by rw [List.getElem?_set_self (by rw [h.1]; exact hj)], r⟩
  · rw [List.getElem?_set_ne hk] at e
    obtain ⟨w, e1, r1⟩ := h.2 k u e
    exact ⟨w, by rw [List.getElem?_set_ne hk]; exact e1, r1⟩
def wipeL (l : Lo) : List Nat → Lo
  | [] => l
  | v :: vs => (wipeL l vs).set v none
theorem Sl.wipe (h : Sl K Z H ι n σ l) : ∀ vs : List Nat, Sl K Z H ι n (L2.wipe σ vs) (wipeL l vs)
  | [] => h
  | v :: vs => by
    have ih := Sl.wipe h vs
    refine ⟨by simp [L2.wipe, wipeL, ih.1], fun k u e => ?_⟩
    unfold wipeL at e
    unfold L2.wipe
    by_cases hk : v = k
    · subst hk
      rw [List.getElem?_set] at e
      simp at e
    · rw [List.getElem?_set_ne hk] at e
      obtain ⟨w, e1, r1⟩ := ih.2 k u e
      exact ⟨w, by rw [List.getElem?_set_ne hk]; exact e1, r1⟩
theorem Sl.none_any {vs : List V} {ts : List T} (h : IsAll K Z H ι n vs ts) (N : Nat) : Sl K Z H ι n (vs.map some ++ List.replicate (N - vs.length) none) (ts.map some ++ List.replicate (N - ts.length) none) := by
  refine ⟨by simp [h.length], fun j t e => ?_⟩
  by_cases hj : j < ts.length
  · rw [List.getElem?_append_left (by simpa using hj)] at e
    rw [List.getElem?_map] at e
    cases q : ts[j]? with
    | none => rw [q] at e; cases e
    | some u =>
      rw [q] at e
      have e' : u = t := by simpa using e
      subst e'
      obtain ⟨v, hv, r⟩ := h.get q
      refine ⟨v, ?_, r⟩
      rw [List.getElem?_append_left (by simpa [h.length] using hj), List.getElem?_map, hv]
      rfl
  · rw [List.getElem?_append_right (by simpa using Nat.le_of_not_lt hj)] at e
    rw [List.getElem?_replicate] at e
    split at e
    · cases e
    · cases e
end
section
variable {K : PySem.W.Frag} {Z : Addr → Prop} {H H' : Hp} {ι ι' : Nat → Addr} {S : Sto}
theorem Step.fresh {n : Nat} {p : Addr} {o : HO} (hp : H p = none) : Step ι n H ι n (upd H p o) :=
  .same fun b u e => by rw [upd_ne (ne_of_none e hp)]; exact e
theorem Rel.step_same (R : Rel K Z ι S H) (s : Step ι S.length H ι S.length H') (h : ∀ i, i < S.length → H' (ι i) = H (ι i)) : Rel K Z ι S H' where
  inj := R.inj
  obj := fun i o e => by
    have hi := (List.getElem?_eq_some_iff.mp e).1
    have q := h i hi
    cases R.obj i o e with
    | lst e1 hs => exact .lst (by rw [q]; exact e1) (IsAll.step R s hs)
    | dK e1 hl hs => exact .dK (by rw [q]; exact e1) hl (IsAll.step R s hs)
    | dT e1 hl hs => exact .dT (by rw [q]; exact e1) hl (IsAll.step R s hs)
  zt := fun a z => let ⟨o, e⟩ := R.zt a z; s.there a o e
  nz := R.nz
theorem Rel.same (R : Rel K Z ι S H) (s : Same H H') : Rel K Z ι S H' := R.step_same (.same s) fun i hi => by
  obtain ⟨u, e⟩ := ObIs.some (R.obj i S[i] (List.getElem?_eq_getElem hi))
  rw [e, s _ _ e]
theorem Rel.fresh (R : Rel K Z ι S H) {p : Addr} {o : HO} (hp : H p = none) : Rel K Z ι S (upd H p o) := R.same fun b u e => by rw [upd_ne (ne_of_none e hp)]; exact e
theorem Rel.record (R : Rel K Z ι S H) {p : Addr} {o : HO} {ob : Ob} (hp : H p = none) (h : ObIs K Z (upd H p o) (fun i => if i = S.length then p else ι i) (S.length + 1) p ob) :
    Rel K Z (fun i => if i = S.length then p else ι i) (S ++ [ob]) (upd H p o) ∧ Step ι S.length H (fun i => if i = S.length then p else ι i) (S.length + 1) (upd H p o) := by
  have nr : ∀ i, i < S.length → ι i ≠ p := fun i hi z => by
    obtain ⟨u, e⟩ := ObIs.some (R.obj i S[i] (List.getElem?_eq_getElem hi))
    rw [z, hp] at e; cases e
  have st : Step ι S.length H (fun i => if i = S.length then p else ι i) (S.length + 1) (upd H p o) :=
    ⟨Nat.le_succ _, fun i hi => by simp [show i ≠ S.length by omega], fun i h1 h2 => by simp [show i = S.length by omega, hp], fun a u e _ => by rw [upd_ne (ne_of_none e hp)]; exact e, fun a u e => ⟨u, by rw [upd_ne (ne_of_none e hp)]; exact e⟩⟩
  refine ⟨⟨fun i j hi hj e => ?_, fun i ob' e => ?_, fun a z => let ⟨u, e⟩ := R.zt a z; st.there a u e, fun i hi z => ?_⟩, st⟩
  rotate_left 2
  · by_cases e1 : i = S.length
    · rw [if_pos e1] at z
      obtain ⟨o, e⟩ := R.zt p z
      rw [hp] at e; cases e
    · rw [if_neg e1] at z
      have hi : i < S.length + 1 := by simpa using hi
      exact R.nz i (by omega) z
  · have hi : i < S.length + 1 := by simpa using hi
    have hj : j < S.length + 1 := by simpa using hj
    by_cases e1 : i = S.length <;> by_cases e2 : j = S.length
    · omega
    · simp only [e1, e2, if_true, if_false] at e
      exact absurd e.symm (nr j (by omega))
    · simp only [e1, e2, if_true, if_false] at e
      exact absurd e (nr i (by omega))
    · simp only [e1, e2, if_false] at e
      exact R.inj i j (by omega) (by omega) e
  · have hlen : (S ++ [ob]).length = S.length + 1 := by simp
    rw [hlen]
    by_cases e1 : i = S.length
    · subst e1
      have : ob' = ob := by simpa using e.symm
      subst this
      simpa using h
    · have hi : i < S.length := by
        have := (List.getElem?_eq_some_iff.mp e).1
        simp at this; omega
      rw [List.getElem?_append_left hi] at e
      have h0 := R.obj i ob' e
      have q : upd H p o (ι i) = H (ι i) := upd_ne (nr i hi)
      show ObIs K Z _ _ _ (if i = S.length then p else ι i) ob'
      rw [if_neg e1]
      cases h0 with
      | lst e1 hs => exact .lst (by rw [q]; exact e1) (IsAll.step R st hs)
      | dK e1 hl hs => exact .dK (by rw [q]; exact e1) hl (IsAll.step R st hs)
      | dT e1 hl hs => exact .dT (by rw [q]; exact e1) hl (IsAll.step R st hs)
theorem Rel.write (R : Rel K Z ι S H) {i : Nat} {o : HO} {ob : Ob} (hi : i < S.length) (hw : ∀ vs, o ≠ .tup vs) (h : ObIs K Z (upd H (ι i) o) ι S.length (ι i) ob) :
    Rel K Z ι (S.set i ob) (upd H (ι i) o) ∧ Step ι S.length H ι S.length (upd H (ι i) o) := by
  have st : Step ι S.length H ι S.length (upd H (ι i) o) :=
    ⟨Nat.le_refl _, fun _ _ => rfl, fun j h1 h2 => absurd h2 (Nat.not_lt.mpr h1), fun a u e hn => by rw [upd_ne (fun z => hn i hi z.symm)]; exact e, fun a u e => by
      by_cases z : a = ι i
      · subst z; exact ⟨_, upd_same⟩
      · exact ⟨u, by rw [upd_ne z]; exact e⟩⟩
  refine ⟨⟨fun j k hj hk e => R.inj j k (by simpa using hj) (by simpa using hk) e, fun j ob' e => ?_, fun a z => let ⟨u, e⟩ := R.zt a z; st.there a u e, fun j hj => R.nz j (by simpa using hj)⟩, st⟩
  rw [List.length_set]
  by_cases e1 : i = j
  · subst e1
    rw [List.getElem?_set_self hi] at e
    cases e
    exact h
  · rw [List.getElem?_set_ne e1] at e
    have hj := (List.getElem?_eq_some_iff.mp e).1
    have q : upd H (ι i) o (ι j) = H (ι j) := upd_ne fun z => e1 (R.inj i j hi hj z.symm)
    cases R.obj j ob' e with
    | lst e1 hs => exact .lst (by rw [q]; exact e1) (IsAll.step R st hs)
    | dK e1 hl hs => exact .dK (by rw [q]; exact e1) hl (IsAll.step R st hs)
    | dT e1 hl hs => exact .dT (by rw [q]; exact e1) hl (IsAll.step R st hs)
mutual
theorem Is.less {Z' : Addr → Prop} {n : Nat} (hz : ∀ a, Z' a → Z a) : ∀ {v : V} {t : T}, Is K Z H ι n v t → Is K Z' H ι n v t
  | _, _, .non => .non
  | _, _, .bl b => .bl b
  | _, _, .int i => .int i
  | _, _, .str x => .str x
  | _, _, .fn a => .fn a
  | _, _, .tup h hs => .tup h (IsAll.less hz hs)
  | _, _, .lst h hn z hs => .lst h hn (fun q => z (hz _ q)) (IsAll.less hz hs)
  | _, _, .scrK h => .scrK h
  | _, _, .scr h hn z => .scr h hn (fun q => z (hz _ q))
  | _, _, .dK h hn z hl hs => .dK h hn (fun q => z (hz _ q)) hl (IsAll.less hz hs)
  | _, _, .dT h hn z hl hs => .dT h hn (fun q => z (hz _ q)) hl (IsAll.less hz hs)
  | _, _, .ref hi => .ref hi
theorem IsAll.less {Z' : Addr → Prop} {n : Nat} (hz : ∀ a, Z' a → Z a) : ∀ {vs : List V} {ts : List T}, IsAll K Z H ι n vs ts → IsAll K Z' H ι n vs ts
  | _, _, .nil => .nil
  | _, _, .cons h hs => .cons (Is.less hz h) (IsAll.less hz hs)
end
theorem Rel.less {Z' : Addr → Prop} (hz : ∀ a, Z' a → Z a) (R : Rel K Z ι S H) : Rel K Z' ι S H where
  inj := R.inj
  obj := fun i o e => by
    cases R.obj i o e with
    | lst e1 hs => exact .lst e1 (IsAll.less hz hs)
    | dK e1 hl hs => exact .dK e1 hl (IsAll.less hz hs)
    | dT e1 hl hs => exact .dT e1 hl (IsAll.less hz hs)
  zt := fun a z => R.zt a (hz a z)
  nz := fun i hi z => R.nz i hi (hz _ z)
mutual
/-- what stands free may be held back -/
theorem Is.more {n : Nat} {D : Addr} (hD : H D = none) : ∀ {v : V} {t : T}, Is K Z H ι n v t → Is K (fun a => Z a ∨ a = D) H ι n v t
  | _, _, .non => .non
  | _, _, .bl b => .bl b
  | _, _, .int i => .int i
  | _, _, .str x => .str x
  | _, _, .fn a => .fn a
  | _, _, .tup h hs => .tup h (IsAll.more hD hs)
  | _, _, .lst h hn z hs => .lst h hn (fun q => q.elim z fun q => by rw [q, hD] at h; cases h) (IsAll.more hD hs)
  | _, _, .scrK h => .scrK h
  | _, _, .scr h hn z => .scr h hn (fun q => q.elim z fun q => by obtain ⟨o, e⟩ := Rd.is h; rw [q, hD] at e; cases e)
  | _, _, .dK h hn z hl hs => .dK h hn (fun q => q.elim z fun q => by rw [q, hD] at h; cases h) hl (IsAll.more hD hs)
  | _, _, .dT h hn z hl hs => .dT h hn (fun q => q.elim z fun q => by rw [q, hD] at h; cases h) hl (IsAll.more hD hs)
  | _, _, .ref hi => .ref hi
theorem IsAll.more {n : Nat} {D : Addr} (hD : H D = none) : ∀ {vs : List V} {ts : List T}, IsAll K Z H ι n vs ts → IsAll K (fun a => Z a ∨ a = D) H ι n vs ts
  | _, _, .nil => .nil
  | _, _, .cons h hs => .cons (Is.more hD h) (IsAll.more hD hs)
end
mutual
theorem Is.fresh2 {n : Nat} {D : Addr} {o : HO} (hD : H D = none) : ∀ {v : V} {t : T}, Is K Z H ι n v t → Is K Z (L2.upd H D o) ι n v t
  | _, _, .non => .non
  | _, _, .bl b => .bl b
  | _, _, .int i => .int i
  | _, _, .str x => .str x
  | _, _, .fn a => .fn a
  | _, _, .tup h hs => .tup (by rw [upd_ne (ne_of_none h hD)]; exact h) (IsAll.fresh2 hD hs)
  | _, _, .lst h hn z hs => .lst (by rw [upd_ne (ne_of_none h hD)]; exact h) hn z (IsAll.fresh2 hD hs)
  | _, _, .scrK h => .scrK h
  | _, _, .scr h hn z => .scr (by obtain ⟨o, e⟩ := Rd.is h; unfold Rd at h ⊢; rw [upd_ne (ne_of_none e hD)]; exact h) hn z
  | _, _, .dK h hn z hl hs => .dK (by rw [upd_ne (ne_of_none h hD)]; exact h) hn z hl (IsAll.fresh2 hD hs)
  | _, _, .dT h hn z hl hs => .dT (by rw [upd_ne (ne_of_none h hD)]; exact h) hn z hl (IsAll.fresh2 hD hs)
  | _, _, .ref hi => .ref hi
theorem IsAll.fresh2 {n : Nat} {D : Addr} {o : HO} (hD : H D = none) : ∀ {vs : List V} {ts : List T}, IsAll K Z H ι n vs ts → IsAll K Z (L2.upd H D o) ι n vs ts
  | _, _, .nil => .nil
  | _, _, .cons h hs => .cons (Is.fresh2 hD h) (IsAll.fresh2 hD hs)
end
theorem Rel.more {D : Addr} {o : HO} (hD : H D = none) (R : Rel K Z ι S H) : Rel K (fun a => Z a ∨ a = D) ι S (L2.upd H D o) where
  inj := R.inj
  obj := fun i ob e => by
    have R1 := R.fresh (o := o) hD
    have st : Step ι S.length H ι S.length (L2.upd H D o) := Step.fresh hD
    have all : ∀ {vs ts}, IsAll K Z H ι S.length vs ts → IsAll K (fun a => Z a ∨ a = D) (L2.upd H D o) ι S.length vs ts := fun h => IsAll.fresh2 hD (IsAll.more hD h)
    have nd : ι i ≠ D := fun q => by
      obtain ⟨u, e'⟩ := ObIs.some (R.obj i ob e)
      rw [q, hD] at e'; cases e'
    cases R.obj i ob e with
    | lst e1 hs => exact .lst (by rw [upd_ne nd]; exact e1) (all hs)
    | dK e1 hl hs => exact .dK (by rw [upd_ne nd]; exact e1) hl (all hs)
    | dT e1 hl hs => exact .dT (by rw [upd_ne nd]; exact e1) hl (all hs)
  zt := fun a z => by
    by_cases q : a = D
    · subst q; exact ⟨_, upd_same⟩
    · obtain ⟨u, e⟩ := R.zt a (z.elim id fun w => absurd w q)
      exact ⟨u, by rw [upd_ne q]; exact e⟩
  nz := fun i hi z => z.elim (R.nz i hi) fun q => by
    obtain ⟨u, e'⟩ := ObIs.some (R.obj i S[i] (List.getElem?_eq_getElem hi))
    rw [q, hD] at e'; cases e'
mutual
/-- the held back one is written: no value speaks of it -/
theorem Is.updZ {n : Nat} {D : Addr} {o u : HO} (hD : H D = some u) (hu : ∀ vs, u ≠ .tup vs) (hz : Z D) : ∀ {v : V} {t : T}, Is K Z H ι n v t → Is K Z (L2.upd H D o) ι n v t
  | _, _, .non => .non
  | _, _, .bl b => .bl b
  | _, _, .int i => .int i
  | _, _, .str x => .str x
  | _, _, .fn a => .fn a
  | _, _, .tup h hs => .tup (by rw [upd_ne (fun q => by rw [q, hD] at h; cases h; exact hu _ rfl)]; exact h) (IsAll.updZ hD hu hz hs)
  | _, _, .lst h hn z hs => .lst (by rw [upd_ne (fun q => z (by rw [q]; exact hz))]; exact h) hn z (IsAll.updZ hD hu hz hs)
  | _, _, .scrK h => .scrK h
  | _, _, .scr h hn z => .scr (by unfold Rd at h ⊢; rw [upd_ne (fun q => z (by rw [q]; exact hz))]; exact h) hn z
  | _, _, .dK h hn z hl hs => .dK (by rw [upd_ne (fun q => z (by rw [q]; exact hz))]; exact h) hn z hl (IsAll.updZ hD hu hz hs)
  | _, _, .dT h hn z hl hs => .dT (by rw [upd_ne (fun q => z (by rw [q]; exact hz))]; exact h) hn z hl (IsAll.updZ hD hu hz hs)
  | _, _, .ref hi => .ref hi
theorem IsAll.updZ {n : Nat} {D : Addr} {o u : HO} (hD : H D = some u) (hu : ∀ vs, u ≠ .tup vs) (hz : Z D) : ∀ {vs : List V} {ts : List T}, IsAll K Z H ι n vs ts → IsAll K Z (L2.upd H D o) ι n vs ts
  | _, _, .nil => .nil
  | _, _, .cons h hs => .cons (Is.updZ hD hu hz h) (IsAll.updZ hD hu hz hs)
end
theorem Rel.updZ {D : Addr} {o u : HO} (hD : H D = some u) (hu : ∀ vs, u ≠ .tup vs) (hz : Z D) (hn : ∀ i, i < S.length → ι i ≠ D) (R : Rel K Z ι S H) : Rel K Z ι S (L2.upd H D o) where
  inj := R.inj
  obj := fun i ob e => by
    have hi := (List.getElem?_eq_some_iff.mp e).1
    have q : L2.upd H D o (ι i) = H (ι i) := upd_ne (hn i hi)
    cases R.obj i ob e with
    | lst e1 hs => exact .lst (by rw [q]; exact e1) (IsAll.updZ hD hu hz hs)
    | dK e1 hl hs => exact .dK (by rw [q]; exact e1) hl (IsAll.updZ hD hu hz hs)
    | dT e1 hl hs => exact .dT (by rw [q]; exact e1) hl (IsAll.updZ hD hu hz hs)
  zt := fun a z => by
    by_cases q : a = D
    · subst q; exact ⟨_, upd_same⟩
    · obtain ⟨u, e⟩ := R.zt a z
      exact ⟨u, by rw [upd_ne q]; exact e⟩
  nz := R.nz
theorem Rel.notZ {p : Addr} (R : Rel K Z ι S H) (hp : H p = none) : ¬ Z p := fun z => by
  obtain ⟨o, e⟩ := R.zt p z
  rw [hp] at e; cases e
end
structure Exn where
  cls : Str
  fs : List (Str × T)
inductive Res where
  | ok (t : T) | err (x : Exn)
abbrev SE := Lo → Sto → Option (Res × Sto)
abbrev XRel := (Addr → Prop) → Exn → Value → Option Addr → Hp → (Nat → Addr) → Nat → Prop
section
variable (K : PySem.W.Frag) (XR : XRel) (W : WX)
def Post (Z : Addr → Prop) (ι : Nat → Addr) (n : Nat) (H : Hp) (σ : L2.St) (Q : VK) : Option (Res × Sto) → Prop
  | none => False
  | some (.ok t, S') => ∀ ι' H' v, Step ι n H ι' S'.length H' → Rel K Z ι' S' H' → Is K Z H' ι' S'.length v t → Q v H'
  | some (.err x, S') => ∀ ι' H' cls d, Step ι n H ι' S'.length H' → Rel K Z ι' S' H' → XR Z x cls d H' ι' S'.length → W cls d σ H'
def liftK (xs : List V) (f : List T → SE) : TE := fun σ H Q => ∃ (Z : Addr → Prop) (ι : Nat → Addr) (S : Sto) (l : Lo) (ts : List T), Rel K Z ι S H ∧ Sl K Z H ι S.length σ l ∧ IsAll K Z H ι S.length xs ts ∧ Post K XR W Z ι S.length H σ Q (f ts l S)
def liftE (f : SE) : TE := liftK K XR W [] fun _ => f
end
def bindE (f : SE) (g : T → SE) : SE := fun l S => match f l S with
  | none => none
  | some (.err x, S') => some (.err x, S')
  | some (.ok t, S') => g t l S'
section
variable {K : PySem.W.Frag} {Z : Addr → Prop} {XR : XRel} {W : WX}
theorem Post.of_step {ι ι1 : Nat → Addr} {n n1 : Nat} {H H1 : Hp} {σ : L2.St} {Q : VK} (s : Step ι n H ι1 n1 H1) : ∀ {o : Option (Res × Sto)}, Post K XR W Z ι n H σ Q o → Post K XR W Z ι1 n1 H1 σ Q o
  | none, h => h
  | some (.ok t, S'), h => fun ι' H' v st R i => h ι' H' v (s.trans st) R i
  | some (.err x, S'), h => fun ι' H' cls d st R i => h ι' H' cls d (s.trans st) R i
theorem Post.mono {ι : Nat → Addr} {n : Nat} {H : Hp} {σ : L2.St} {Q Q' : VK} (hq : ∀ v H, Q v H → Q' v H) : ∀ {o : Option (Res × Sto)}, Post K XR W Z ι n H σ Q o → Post K XR W Z ι n H σ Q' o
  | none, h => h
  | some (.ok t, S'), h => fun ι' H' v st R i => hq _ _ (h ι' H' v st R i)
  | some (.err x, S'), h => h
theorem lift_bind {xs : List V} {f : SE} {g : List T → T → SE} {σ : L2.St} {H : Hp} {Q : VK} (h : liftK K XR W xs (fun ts => bindE f (g ts)) σ H Q) :
    liftE K XR W f σ H (fun x H1 => liftK K XR W (x :: xs) (fun ts => match ts with | t :: r => g r t | [] => fun _ _ => none) σ H1 Q) := by
  obtain ⟨Z, ι, S, l, ts, R, sl, ia, p⟩ := h
  refine ⟨Z, ι, S, l, [], R, sl, .nil, ?_⟩
  simp only [bindE] at p
  show Post K XR W Z ι S.length H σ _ (f l S)
  cases e : f l S with
  | none => rw [e] at p; exact p
  | some r =>
    obtain ⟨r, S'⟩ := r
    rw [e] at p
    cases r with
    | err x => exact p
    | ok t =>
      intro ι' H' v st R' i
      exact ⟨Z, ι', S', l, t :: ts, R', Sl.step R st sl, .cons i (IsAll.step R st ia), p.of_step st⟩
theorem lift_bind0 {f : SE} {g : T → SE} {σ : L2.St} {H : Hp} {Q : VK} (h : liftE K XR W (bindE f g) σ H Q) :
    liftE K XR W f σ H (fun x H1 => liftK K XR W [x] (fun ts => match ts with | [t] => g t | _ => fun _ _ => none) σ H1 Q) := by
  obtain ⟨Z, ι, S, l, ts, R, sl, ia, p⟩ := h
  refine ⟨Z, ι, S, l, [], R, sl, .nil, ?_⟩
  simp only [bindE] at p
  show Post K XR W Z ι S.length H σ _ (f l S)
  cases e : f l S with
  | none => rw [e] at p; exact p
  | some r =>
    obtain ⟨r, S'⟩ := r
    rw [e] at p
    cases r with
    | err x => exact p
    | ok t =>
      intro ι' H' v st R' i
      exact ⟨Z, ι', S', l, [t], R', Sl.step R st sl, .cons i .nil, p.of_step st⟩
theorem lift_mono {xs : List V} {f : List T → SE} {σ : L2.St} {H : Hp} {Q Q' : VK} (hq : ∀ v H, Q v H → Q' v H) (h : liftK K XR W xs f σ H Q) : liftK K XR W xs f σ H Q' := by
  obtain ⟨Z, ι, S, l, ts, R, sl, ia, p⟩ := h
  exact ⟨Z, ι, S, l, ts, R, sl, ia, p.mono hq⟩
theorem PE.imp {X : Cx} {e : Expr} {t t' : TE} (h : PE X e t) (i : ∀ σ H Q, t' σ H Q → t σ H Q) : PE X e t' := ⟨fun pins s σ H Q I q => h.run pins s σ H Q I (i σ H Q q)⟩
theorem PT.imp {X : Cx} {e : Expr} {t t' : TT} (h : PT X e t) (i : ∀ σ H Q, t' σ H Q → t σ H Q) : PT X e t' := ⟨fun pins s σ H Q I q => h.run pins s σ H Q I (i σ H Q q)⟩
theorem PA.imp {X : Cx} {e : List Expr} {t t' : TA} (h : PA X e t) (i : ∀ σ H Q, t' σ H Q → t σ H Q) : PA X e t' := ⟨fun pos pins s σ H Q I q => h.run pos pins s σ H Q I (i σ H Q q)⟩
theorem PS.imp {X : Cx} {e : Stmt} {t t' : TS} (h : PS X e t) (i : ∀ D σ H, t' D σ H → t D σ H) : PS X e t' := ⟨fun pins s σ H D I q => h.run pins s σ H D I (i D σ H q)⟩
theorem PSs.imp {X : Cx} {e : List Stmt} {t t' : TS} (h : PSs X e t) (i : ∀ D σ H, t' D σ H → t D σ H) : PSs X e t' := ⟨fun pins s σ H D I q => h.run pins s σ H D I (i D σ H q)⟩
inductive Raw where
  | val (t : T) | fresh (ts : List T)
def outR (nw : Bool) : Option Raw → SE
  | none => fun _ _ => none
  | some (.val t) => fun _ S => if nw then none else some (.ok t, S)
  | some (.fresh ts) => fun _ S => if nw then some (.ok (.ref S.length), S ++ [.lst ts]) else some (.ok (.lst ts), S)
def RawOk (K : PySem.W.Frag) (Z : Addr → Prop) (ι : Nat → Addr) (n : Nat) (H : Hp) (Q : VK) : Raw → Prop
  | .val t => ∀ H' v, Same H H' → Is K Z H' ι n v t → Q v H'
  | .fresh ts => ∀ vs p, IsAll K Z H ι n vs ts → H p = none → Q (.ref p) (L2.upd H p (.lst vs))
theorem IsAll.fresh {H : Hp} {ι : Nat → Addr} {S : Sto} {vs : List V} {ts : List T} {p : Addr} {o : HO} (R : Rel K Z ι S H) (hp : H p = none) (h : IsAll K Z H ι S.length vs ts) : IsAll K Z (L2.upd H p o) ι S.length vs ts := IsAll.step R (Step.fresh hp) h
theorem Rel.free {H : Hp} {ι : Nat → Addr} {S : Sto} (R : Rel K Z ι S H) {p : Addr} (hp : H p = none) : ∀ i, i < S.length → ι i ≠ p := fun i hi z => by
  obtain ⟨u, e⟩ := ObIs.some (R.obj i S[i] (List.getElem?_eq_getElem hi))
  rw [z, hp] at e; cases e
theorem IsAll.reNewU {H : Hp} {ι : Nat → Addr} {S : Sto} {vs : List V} {ts : List T} {p : Addr} {o : HO} (R : Rel K Z ι S H) (hp : H p = none) (h : IsAll K Z H ι S.length vs ts) :
    IsAll K Z (L2.upd H p o) (fun i => if i = S.length then p else ι i) (S.length + 1) vs ts :=
  IsAll.step R ⟨Nat.le_succ _, fun i hi => by simp [show i ≠ S.length by omega], fun i h1 h2 => by simp [show i = S.length by omega, hp], fun a u e _ => by rw [upd_ne (ne_of_none e hp)]; exact e, fun a u e => ⟨u, by rw [upd_ne (ne_of_none e hp)]; exact e⟩⟩ h
theorem out_ok {ι : Nat → Addr} {S : Sto} {l : Lo} {H : Hp} {σ : L2.St} {Q : VK} {nw : Bool} {o : Option Raw} (R : Rel K Z ι S H) (h : Post K XR W Z ι S.length H σ Q (outR nw o l S)) : ∃ r, o = some r ∧ RawOk K Z ι S.length H Q r := by
  cases o with
  | none => exact h.elim
  | some r =>
    refine ⟨r, rfl, ?_⟩
    cases r with
    | val t =>
      cases nw with
      | true => exact h.elim
      | false => exact fun H' v s i => h ι H' v (.same s) (R.same s) i
    | fresh ts =>
      intro vs p ia hp
      cases nw with
      | false => exact h ι _ _ (Step.fresh hp) (R.fresh hp) (.lst upd_same (R.free hp) (R.notZ hp) (ia.fresh R hp))
      | true =>
        have ia' := ia.reNewU (o := .lst vs) R hp
        obtain ⟨R', st⟩ := R.record (ob := .lst ts) hp (.lst (vs := vs) upd_same ia')
        have e : V.ref p = V.ref ((fun i => if i = S.length then p else ι i) S.length) := by simp
        have h' := h (fun i => if i = S.length then p else ι i) (L2.upd H p (.lst vs)) (.ref p) (by simpa using st) R'
        exact h' (by rw [e]; exact .ref (by simp))
def rRaw (K : PySem.W.Frag) (f : T → T → Sto → Option Raw) : R2 := fun x y H Q => ∃ (Z : Addr → Prop) (ι : Nat → Addr) (S : Sto) (a b : T) (r : Raw), Rel K Z ι S H ∧ Is K Z H ι S.length x a ∧ Is K Z H ι S.length y b ∧ f a b S = some r ∧ RawOk K Z ι S.length H Q r
def binE (nw : Bool) (f : T → T → Sto → Option Raw) (fa fb : SE) : SE := bindE fa fun a => bindE fb fun b => fun l S => outR nw (f a b S) l S
theorem bin_lift {nw : Bool} {f : T → T → Sto → Option Raw} {fa fb : SE} {σ : L2.St} {H : Hp} {Q : VK} (h : liftE K XR W (binE nw f fa fb) σ H Q) : tOp (rRaw K f) (liftE K XR W fa) (liftE K XR W fb) σ H Q := by
  refine lift_mono (fun x H1 h1 => ?_) (lift_bind0 h)
  have h1' : liftK K XR W [x] (fun ts => bindE fb fun b => fun l S => match ts with | [a] => outR nw (f a b S) l S | _ => none) σ H1 Q := by
    obtain ⟨Z, ι, S, l, ts, R, sl, ia, p⟩ := h1
    refine ⟨Z, ι, S, l, ts, R, sl, ia, ?_⟩
    cases ia with
    | cons i j => cases j; exact p
  refine lift_mono (fun y H2 h2 => ?_) (lift_bind h1')
  obtain ⟨Z, ι, S, l, ts, R, sl, ia, p⟩ := h2
  cases ia with
  | cons iy j =>
    cases j with
    | cons ix k =>
      cases k
      obtain ⟨r, e, ok⟩ := out_ok R p
      exact ⟨Z, ι, S, _, _, r, R, ix, iy, e, ok⟩
end
def LIM : Nat := 1000000
theorem LIM_le : LIM ≤ sizeLine := by rw [sizeLine_eq]; decide
theorem LIM_lt : LIM < sizeLine := by rw [sizeLine_eq]; decide
def Sto.items (S : Sto) : T → Option (List T)
  | .lst xs => some xs
  | .ref i => match S[i]? with
    | some (.lst xs) => some xs
    | _ => none
  | _ => none
def Sto.seq (S : Sto) : T → Option (List T)
  | .lst xs => some xs
  | .tup xs => some xs
  | .scr ns => some (ns.map T.int)
  | .ref i => match S[i]? with
    | some (.lst xs) => some xs
    | _ => none
  | _ => none
section
variable {K : PySem.W.Frag} {Z : Addr → Prop} {H : Hp} {ι : Nat → Addr} {S : Sto} {x : V} {t : T} {ts : List T}
theorem isAll_ints : ∀ (ns : List Int), IsAll K Z H ι n (ns.map V.int) (ns.map T.int)
  | [] => .nil
  | n :: ns => .cons (.int n) (isAll_ints ns)
theorem items_ok (R : Rel K Z ι S H) (h : Is K Z H ι S.length x t) (e : S.items t = some ts) : ∃ a vs, x = .ref a ∧ H a = some (.lst vs) ∧ IsAll K Z H ι S.length vs ts := by
  cases h with
  | lst h hn hz hs => cases e; exact ⟨_, _, rfl, h, hs⟩
  | ref hi =>
    rename_i i
    have q : S[i]? = some S[i] := List.getElem?_eq_getElem hi
    have h := R.obj _ _ q
    simp only [Sto.items, q] at e
    cases ho : S[i] with
    | lst xs =>
      rw [ho] at e h
      cases e
      cases h with
      | lst h hs => exact ⟨_, _, rfl, h, hs⟩
    | dK _ => rw [ho] at e; cases e
    | dT _ => rw [ho] at e; cases e
  | _ => cases e
theorem seq_ok (R : Rel K Z ι S H) (h : Is K Z H ι S.length x t) (e : S.seq t = some ts) : ∃ a vs, x = .ref a ∧ (SqL K H a vs ∨ SqT K H a vs) ∧ IsAll K Z H ι S.length vs ts := by
  cases h with
  | lst h hn hz hs => cases e; exact ⟨_, _, rfl, .inl (.of h), hs⟩
  | tup h hs => cases e; exact ⟨_, _, rfl, .inr (.of h), hs⟩
  | scr h hn hz => cases e; exact ⟨_, _, rfl, .inl (.inl h), isAll_ints _⟩
  | scrK h => cases e; exact ⟨_, _, rfl, .inl (.inr h), isAll_ints _⟩
  | ref hi =>
    rename_i i
    obtain ⟨a, vs, e1, e2, e3⟩ := items_ok (ts := ts) R (.ref hi) (by unfold Sto.items; unfold Sto.seq at e; exact e)
    exact ⟨a, vs, e1, .inl (.of e2), e3⟩
  | _ => cases e
end
mutual
def T.toD (f : Nat → Option PyData) : T → Option PyData
  | .non => some .none
  | .bl b => some (.bool b)
  | .int i => some (.int i)
  | .str s => some (.str s)
  | .tup xs => (T.toDs f xs).map .tuple
  | .lst xs => (T.toDs f xs).map .list
  | .scr ns => some (.list (ns.map .int))
  | .ref i => f i
  | .dK _ => none
  | .dT _ => none
  | .fn _ => none
def T.toDs (f : Nat → Option PyData) : List T → Option (List PyData)
  | [] => some []
  | t :: r => match T.toD f t, T.toDs f r with
    | some d, some ds => some (d :: ds)
    | _, _ => none
end
def Sto.refD (S : Sto) : Nat → Nat → Option PyData
  | 0, _ => none
  | k + 1, i => match S[i]? with
    | some (.lst xs) => (T.toDs (S.refD k) xs).map .list
    | _ => none
def Sto.toD (S : Sto) (t : T) : Option PyData := T.toD (S.refD 4) t
section
variable {K : PySem.W.Frag} {Z : Addr → Prop} {H : Hp} {ι : Nat → Addr} {n : Nat} {f : Nat → Option PyData}
theorem plainAll_map_int : ∀ ns : List Int, PyData.plainAll (ns.map .int) = true
  | [] => rfl
  | n :: ns => by simp [PyData.plainAll, PyData.plain, plainAll_map_int ns]
theorem dpAll_ints : ∀ ns : List Int, DpAll K H (ns.map V.int) (ns.map .int)
  | [] => .nil
  | n :: ns => .cons (.int n) (dpAll_ints ns)
mutual
theorem toD_ok (hf : ∀ i d, i < n → f i = some d → Dp K H (.ref (ι i)) d ∧ d.plain = true) : ∀ {x : V} {t : T} {d : PyData}, Is K Z H ι n x t → T.toD f t = some d → Dp K H x d ∧ d.plain = true
  | _, _, _, .non, e => by cases e; exact ⟨.non, rfl⟩
  | _, _, _, .bl b, e => by cases e; exact ⟨.bl b, rfl⟩
  | _, _, _, .int b, e => by cases e; exact ⟨.int b, rfl⟩
  | _, _, _, .str b, e => by cases e; exact ⟨.str b, rfl⟩
  | _, _, _, .fn b, e => by cases e
  | _, _, _, .tup (ts := ts) h hs, e => by
    simp only [T.toD] at e
    cases q : T.toDs f ts with
    | none => rw [q] at e; cases e
    | some ds =>
      rw [q] at e
      cases e
      obtain ⟨a, b⟩ := toDs_ok hf hs q
      exact ⟨.tup (.of h) a, by simpa [PyData.plain] using b⟩
  | _, _, _, .lst (ts := ts) h _ _ hs, e => by
    simp only [T.toD] at e
    cases q : T.toDs f ts with
    | none => rw [q] at e; cases e
    | some ds =>
      rw [q] at e
      cases e
      obtain ⟨a, b⟩ := toDs_ok hf hs q
      exact ⟨.lst (.of h) a, by simpa [PyData.plain] using b⟩
  | _, _, _, .scrK h, e => by
    cases e
    exact ⟨.lst (.inr h) (dpAll_ints _), by simpa [PyData.plain] using plainAll_map_int _⟩
  | _, _, _, .scr h _ _, e => by
    cases e
    exact ⟨.lst (.inl h) (dpAll_ints _), by simpa [PyData.plain] using plainAll_map_int _⟩
  | _, _, _, .ref hi, e => hf _ _ hi e
  | _, _, _, .dK _ _ _ _ _, e => by cases e
  | _, _, _, .dT _ _ _ _ _, e => by cases e
theorem toDs_ok (hf : ∀ i d, i < n → f i = some d → Dp K H (.ref (ι i)) d ∧ d.plain = true) : ∀ {xs : List V} {ts : List T} {ds : List PyData}, IsAll K Z H ι n xs ts → T.toDs f ts = some ds → DpAll K H xs ds ∧ PyData.plainAll ds = true
  | _, _, _, .nil, e => by cases e; exact ⟨.nil, rfl⟩
  | _, _, _, .cons (t := t) (ts := ts) h hs, e => by
    simp only [T.toDs] at e
    cases q : T.toD f t with
    | none => rw [q] at e; cases e
    | some d =>
      cases q2 : T.toDs f ts with
      | none => rw [q, q2] at e; cases e
      | some ds =>
        rw [q, q2] at e
        cases e
        obtain ⟨a, b⟩ := toD_ok hf h q
        obtain ⟨a2, b2⟩ := toDs_ok hf hs q2
        exact ⟨.cons a a2, by simp [PyData.plainAll, b, b2]⟩
end
theorem refD_ok {S : Sto} (R : Rel K Z ι S H) : ∀ (k i : Nat) (d : PyData), i < S.length → S.refD k i = some d → Dp K H (.ref (ι i)) d ∧ d.plain = true
  | 0, _, _, _, e => by cases e
  | k + 1, i, d, hi, e => by
    have q : S[i]? = some S[i] := List.getElem?_eq_getElem hi
    have h := R.obj _ _ q
    simp only [Sto.refD, q] at e
    cases ho : S[i] with
    | lst xs =>
      rw [ho] at e h
      dsimp only at e
      cases q2 : T.toDs (S.refD k) xs with
      | none => rw [q2] at e; cases e
      | some ds =>
        rw [q2] at e
        cases e
        cases h with
        | lst h hs =>
          obtain ⟨a, b⟩ := toDs_ok (fun j d hj => refD_ok R k j d hj) hs q2
          exact ⟨.lst (.of h) a, by simpa [PyData.plain] using b⟩
    | dK _ => rw [ho] at e; cases e
    | dT _ => rw [ho] at e; cases e
theorem Sto.toD_ok {S : Sto} (R : Rel K Z ι S H) {x : V} {t : T} {d : PyData} (h : Is K Z H ι S.length x t) (e : S.toD t = some d) : Dp K H x d ∧ d.plain = true :=
  TL.toD_ok (fun i d hi => refD_ok R 4 i d hi) h e
end
end TL
namespace L2
open PySem PySem.Spec PyProof.Rows
def repS (a : Str) (k : Int) : Str := ⟨(List.replicate k.toNat a.cps).foldl (· ++ ·) #[]⟩
theorem repS_size (a : Array Nat) : ∀ (k : Nat) (acc : Array Nat), ((List.replicate k a).foldl (· ++ ·) acc).size = acc.size + k * a.size
  | 0, acc => by simp
  | k + 1, acc => by
    rw [List.replicate_succ, List.foldl_cons, repS_size a k, Array.size_append, Nat.add_mul, Nat.one_mul]
    omega
theorem repS_len (a : Str) (k : Int) : (repS a k).length = k.toNat * a.length := by
  show ((List.replicate k.toNat a.cps).foldl (· ++ ·) #[]).size = _
  rw [repS_size]
  simp [Str.length]
def rRepS : R2 := fun x y H Q => ∃ a k, x = .str a ∧ y = .int k ∧ 2 ≤ k ∧ k ≤ 1000 ∧ 1 ≤ a.length ∧ a.length ≤ 1000 ∧ Q (.str (repS a k)) H
section
variable {X : Cx}
theorem op_repS : OpR X (binaryOp .Mult) rRepS := by
  intro pins s σ H x y v u Q I rx ry h
  obtain ⟨a, k, rfl, rfl, h1, h2, h3, h4, q⟩ := h
  obtain ⟨t, rfl⟩ := rx
  obtain ⟨t', rfl⟩ := ry
  have hm : a.length * k.toNat ≤ 1000 * 1000 := Nat.mul_le_mul h4 (by omega)
  have hlen := repS_len a k
  rw [Nat.mul_comm] at hlen
  refine PySem.P.mul_str (by rw [decide_eq_false (by omega), decide_eq_false (by omega)]; rfl) (fun _ _ => ?_) (fun _ _ => ?_) ?_
  · have : (a.length : Int) ≤ (2 ^ 63 - 1) / k := by
      refine Int.le_ediv_of_mul_le (by omega) ?_
      have : (a.length : Int) * k ≤ 1000 * 1000 := by
        have e : (a.length : Int) * k = ((a.length * k.toNat : Nat) : Int) := by
          rw [Int.natCast_mul, Int.toNat_of_nonneg (by omega)]
        rw [e]
        omega
      omega
    omega
  · show decide (a.length * k.toNat > 2 ^ 24) = false
    exact decide_eq_false (by omega)
  · rw [if_neg (by omega), if_neg (by simp; omega)]
    refine ⟨?_, ?_⟩
    · show (repS a k).length ≤ 2 ^ 24
      rw [hlen]
      omega
    · exact ⟨.str (repS a k), H, I.tok _, ⟨_, rfl⟩, q⟩
end
end L2
namespace L2
open PySem PySem.Spec PyProof.Rows
theorem tuple_mul1 (l : Addr) (items : Array Value) (n : Nat) (dd : Option Addr) (sl : Array (Option Value)) (u : Tok) :
    Meets (Builtin.«tuple.__mul__» ⟨[.ref l, .int 1 u], []⟩) (fun _ R s => s.heap.get? l = some { cls := .type "tuple", dict := dd, data := .seq items n, slots := sl } ∧
      R (.ok (.ret (Value.ref l))) s) :=
  .of_wp fun prog w A R s h => by
    obtain ⟨hp, g, d, tk, os⟩ := s
    obtain ⟨hl, h⟩ := h
    have f1 := AutoSeq1.idx_int
    have c0 : (decide ((1 : Int) < -(2 ^ 63)) || decide ((1 : Int) ≥ 2 ^ 63)) = false := by decide
    have c1 : (items.isEmpty || (1 : Int) == 1) = true := by simp
    wp_walk using wpAny_loadPart' hl
    repeat (first
      | (refine wpAny_ite_false (decide_eq_false (by rw [c0]; exact Bool.false_ne_true)) ?_; wp_walk using wpAny_loadPart' hl)
      | (refine wpAny_ite_true (decide_eq_true (by rw [c1])) ?_; wp_walk using wpAny_loadPart' hl))
    exact ⟨_, rfl, h⟩
def rRepT1 (K : PySem.W.Frag) : R2 := fun x y H Q => ∃ l xs, x = .ref l ∧ y = .int 1 ∧ SqT K H l xs ∧ Q (.ref l) H
section
variable {X : Cx}
theorem op_repT1 : OpR X (binaryOp .Mult) (rRepT1 X.K) := by
  intro pins s σ H x y v u Q I rx ry h
  obtain ⟨l, xs, rfl, rfl, hT, q⟩ := h
  cases rx
  obtain ⟨t, rfl⟩ := ry
  obtain ⟨its, r, ⟨⟨cls, dd, data, sl⟩, ho, hc, n, hd⟩, hs⟩ := I.tuple hT
  simp only at hc hd
  subst hc hd
  refine wpAny_binaryOp_repeat_ref (T := "tuple") (U := "int") (by decide) ⟨_, ho, rfl⟩ (fun s' => typeIs_int s' 1 t) noFill_tuple_mul F.fills_int_mul F.slot_int_rmul repeat_tuple F.slot_int_index.lookup
    (call_meets F.slot_int_rmul (typeIs_int s 1 t) F.entry_int_rmul (F.args_int_rmul_2 _ _) (int_rmul_tuple 1 t l its.toArray n dd sl)
      ⟨ho, rfl, ⟨_, ho, rfl⟩, call_meets F.slot_tuple_mul ⟨_, ho, rfl⟩ F.entry_tuple_mul (F.args_tuple_mul_2 _ _) (tuple_mul1 l its.toArray n dd sl t) ⟨ho, ?_⟩⟩)
  exact ⟨.ref l, _, I, rfl, q⟩
end
end L2
namespace TL
open PySem PySem.Spec PyProof.Rows L2
def guardR (b : Bool) (r : Raw) : Option Raw := if b then some r else none
def catF (a b : T) (S : Sto) : Option Raw := match S.items a, S.items b with
  | some xs, some ys => guardR (decide (xs.length + ys.length ≤ LIM)) (.fresh (xs ++ ys))
  | _, _ => none
def addF : T → T → Sto → Option Raw
  | .int i, .int j, _ => some (.val (.int (i + j)))
  | .str x, .str y, _ => guardR (decide (x.length + y.length ≤ LIM)) (.val (.str (x ++ y)))
  | .tup xs, .tup ys, _ => guardR (decide (xs.length + ys.length ≤ LIM)) (.val (.tup (xs ++ ys)))
  | a, b, S => catF a b S
def subF : T → T → Sto → Option Raw
  | .int i, .int j, _ => some (.val (.int (i - j)))
  | _, _, _ => none
def repF (a : T) (k : Int) (S : Sto) : Option Raw := match S.items a with
  | some xs => guardR (decide (-(2 ^ 63) ≤ k ∧ k < 2 ^ 63 ∧ xs.length * k.toNat ≤ LIM)) (.fresh (List.replicate k.toNat xs).flatten)
  | none => none
def mulF : T → T → Sto → Option Raw
  | .int i, .int j, _ => guardR (decide (i.natAbs.log2 + j.natAbs.log2 < 1000000)) (.val (.int (i * j)))
  | .tup xs, .int k, _ => guardR (decide (xs ≠ [] ∧ 1 ≤ k ∧ k ≤ 1000 ∧ xs.length ≤ 1000)) (.val (.tup (List.replicate k.toNat xs).flatten))
  | .str x, .int k, _ => guardR (decide (2 ≤ k ∧ k ≤ 1000 ∧ 1 ≤ x.length ∧ x.length ≤ 1000)) (.val (.str (L2.repS x k)))
  | a, .int k, S => repF a k S
  | _, _, _ => none
def fdivF : T → T → Sto → Option Raw
  | .int i, .int j, _ => guardR (decide (0 < j ∧ j.natAbs.log2 < 9000)) (.val (.int (i / j)))
  | _, _, _ => none
def modF : T → T → Sto → Option Raw
  | .int i, .int j, _ => guardR (decide (0 < j)) (.val (.int (i % j)))
  | _, _, _ => none
def powF : T → T → Sto → Option Raw
  | .int i, .int j, _ => guardR (decide (0 ≤ j ∧ j ≤ 1000000 ∧ i.natAbs < 2 ^ 64)) (.val (.int (i ^ j.toNat)))
  | _, _, _ => none
def shrF : T → T → Sto → Option Raw
  | .int i, .int j, _ => guardR (decide (0 ≤ j)) (.val (.int (i / 2 ^ j.toNat)))
  | _, _, _ => none
def andF : T → T → Sto → Option Raw
  | .int i, .int j, _ => some (.val (.int (Builtin.bitAnd i j)))
  | _, _, _ => none
def binF : Operator → T → T → Sto → Option Raw
  | .Add => addF
  | .Sub => subF
  | .Mult => mulF
  | .FloorDiv => fdivF
  | .Mod => modF
  | .Pow => powF
  | .RShift => shrF
  | .BitAnd => andF
  | _ => fun _ _ _ => none
theorem guardR_some {b : Bool} {r r' : Raw} (h : guardR b r = some r') : b = true ∧ r' = r := by
  unfold guardR at h
  split at h
  · rename_i hb; cases h; exact ⟨hb, rfl⟩
  · cases h
section
variable {X : Cx} {K : PySem.W.Frag} {Z : Addr → Prop} {H : Hp} {ι : Nat → Addr} {S : Sto}
theorem raw_int {Q : VK} {n : Nat} {i : Int} (h : RawOk K Z ι n H Q (.val (.int i))) : Q (.int i) H := h H (.int i) (Same.refl H) (.int i)
theorem raw_str {Q : VK} {n : Nat} {i : Str} (h : RawOk K Z ι n H Q (.val (.str i))) : Q (.str i) H := h H (.str i) (Same.refl H) (.str i)
theorem raw_bl {Q : VK} {n : Nat} {i : Bool} (h : RawOk K Z ι n H Q (.val (.bl i))) : Q (.bl i) H := h H (.bl i) (Same.refl H) (.bl i)
theorem same_fresh {p : Addr} {o : HO} (hp : H p = none) : Same H (L2.upd H p o) := fun b u e => by rw [upd_ne (ne_of_none e hp)]; exact e
theorem raw_tup {Q : VK} {ts : List T} {vs : List V} (R : Rel K Z ι S H) (h : RawOk K Z ι S.length H Q (.val (.tup ts))) (ia : IsAll K Z H ι S.length vs ts) : ∀ p, H p = none → Q (.ref p) (L2.upd H p (.tup vs)) := fun p hp =>
  h _ _ (same_fresh hp) (.tup upd_same (ia.fresh R hp))
theorem raw_tup' {Q : VK} {ts : List T} {a : Addr} {vs : List V} (h : RawOk K Z ι S.length H Q (.val (.tup ts))) (hs : H a = some (.tup vs)) (ia : IsAll K Z H ι S.length vs ts) : Q (.ref a) H :=
  h _ _ (Same.refl H) (.tup hs ia)
theorem is_int {n : Nat} {x : V} {i : Int} (h : Is K Z H ι n x (.int i)) : x = .int i := by cases h; rfl
theorem is_str {n : Nat} {x : V} {i : Str} (h : Is K Z H ι n x (.str i)) : x = .str i := by cases h; rfl
theorem is_bl {n : Nat} {x : V} {i : Bool} (h : Is K Z H ι n x (.bl i)) : x = .bl i := by cases h; rfl
theorem is_tup {n : Nat} {x : V} {ts : List T} (h : Is K Z H ι n x (.tup ts)) : ∃ a vs, x = .ref a ∧ H a = some (.tup vs) ∧ IsAll K Z H ι n vs ts := by
  cases h with
  | tup h hs => exact ⟨_, _, rfl, h, hs⟩
theorem cat_ok {Q : VK} {x y : V} {a b : T} {r : Raw} (R : Rel K Z ι S H) (ha : Is K Z H ι S.length x a) (hb : Is K Z H ι S.length y b) (e : catF a b S = some r) (ok : RawOk K Z ι S.length H Q r) : rCat x y H Q := by
  unfold catF at e
  split at e
  · rename_i xs ys e1 e2
    obtain ⟨g, rfl⟩ := guardR_some e
    obtain ⟨p, vs, rfl, hp, ip⟩ := items_ok R ha e1
    obtain ⟨q, ws, rfl, hq, iq⟩ := items_ok R hb e2
    have g := of_decide_eq_true g
    exact ⟨p, q, vs, ws, rfl, rfl, hp, hq, by rw [ip.length, iq.length]; exact Nat.le_trans g LIM_le, fun z hz => ok _ z (ip.append iq) hz⟩
  · cases e
theorem rep_ok {Q : VK} {x : V} {a : T} {k : Int} {r : Raw} (R : Rel K Z ι S H) (ha : Is K Z H ι S.length x a) (e : repF a k S = some r) (ok : RawOk K Z ι S.length H Q r) : rRep x (.int k) H Q := by
  unfold repF at e
  split at e
  · rename_i xs e1
    obtain ⟨g, rfl⟩ := guardR_some e
    obtain ⟨p, vs, rfl, hp, ip⟩ := items_ok R ha e1
    obtain ⟨g1, g2, g3⟩ := of_decide_eq_true g
    exact ⟨p, k, vs, rfl, rfl, hp, g1, g2, by rw [ip.length]; exact Nat.le_trans g3 LIM_le, fun z hz => ok _ z (ip.rep _) hz⟩
  · cases e
theorem op_addF : OpR X (binaryOp .Add) (rRaw X.K addF) := by
  intro pins s σ H x y v u Q I rx ry h
  obtain ⟨Z, ι, S, a, b, r, R, ha, hb, e, ok⟩ := h
  have lists : ∀ {a b : T}, Is X.K Z H ι S.length x a → Is X.K Z H ι S.length y b → catF a b S = some r → wpAny (model X.prog X.w) X.A (binaryOp .Add v u) (EP X pins σ Q) X.xe s := fun ha hb e =>
    op_cat pins s σ H x y v u Q I rx ry (cat_ok R ha hb e ok)
  unfold addF at e
  split at e
  · cases e
    exact op_add pins s σ H x y v u Q I rx ry ⟨_, _, is_int ha, is_int hb, raw_int ok⟩
  · obtain ⟨g, rfl⟩ := guardR_some e
    exact op_add_str pins s σ H x y v u Q I rx ry ⟨_, _, is_str ha, is_str hb, Nat.le_trans (of_decide_eq_true g) LIM_le, raw_str ok⟩
  · obtain ⟨g, rfl⟩ := guardR_some e
    obtain ⟨p, vs, rfl, hp, ip⟩ := is_tup ha
    obtain ⟨q, ws, rfl, hq, iq⟩ := is_tup hb
    refine op_catA pins s σ H _ _ v u Q I rx ry ⟨p, q, vs, ws, rfl, rfl, .of hp, .of hq, by rw [ip.length, iq.length]; exact Nat.le_trans (of_decide_eq_true g) LIM_le, fun z => ?_, fun _ z => ?_, fun _ _ => raw_tup R ok (ip.append iq)⟩
    · have := ip.nil_iff.mp z
      subst this
      exact raw_tup' ok hq (by simpa using iq)
    · have := iq.nil_iff.mp z
      subst this
      exact raw_tup' ok hp (by simpa using ip)
  · exact lists ha hb e
theorem op_subF : OpR X (binaryOp .Sub) (rRaw X.K subF) := by
  intro pins s σ H x y v u Q I rx ry h
  obtain ⟨Z, ι, S, a, b, r, R, ha, hb, e, ok⟩ := h
  unfold subF at e
  split at e
  · cases e
    exact op_sub pins s σ H x y v u Q I rx ry ⟨_, _, is_int ha, is_int hb, raw_int ok⟩
  · cases e
theorem op_mulF : OpR X (binaryOp .Mult) (rRaw X.K mulF) := by
  intro pins s σ H x y v u Q I rx ry h
  obtain ⟨Z, ι, S, a, b, r, R, ha, hb, e, ok⟩ := h
  unfold mulF at e
  split at e
  · obtain ⟨g, rfl⟩ := guardR_some e
    have g := of_decide_eq_true g
    exact op_mulW pins s σ H x y v u Q I rx ry ⟨_, _, is_int ha, is_int hb, g, raw_int ok⟩
  · rename_i xs k
    obtain ⟨g, rfl⟩ := guardR_some e
    obtain ⟨g1, g2, g3, g4⟩ := of_decide_eq_true g
    obtain ⟨p, vs, rfl, hp, ip⟩ := is_tup ha
    by_cases hk1 : k = 1
    · subst hk1
      have e1 : (List.replicate (1 : Int).toNat xs).flatten = xs := by simp
      rw [e1] at ok
      exact op_repT1 pins s σ H _ y v u Q I rx ry ⟨p, vs, rfl, is_int hb, .of hp, raw_tup' ok hp ip⟩
    have g2 : 2 ≤ k := by omega
    exact op_repT pins s σ H _ y v u Q I rx ry ⟨p, _, vs, rfl, is_int hb, .of hp, fun z => g1 (ip.nil_iff.mp z), g2, g3, by rw [ip.length]; exact g4, raw_tup R ok (ip.rep _)⟩
  · rename_i x k
    obtain ⟨g, rfl⟩ := guardR_some e
    obtain ⟨g1, g2, g3, g4⟩ := of_decide_eq_true g
    exact op_repS pins s σ H _ y v u Q I rx ry ⟨_, _, is_str ha, is_int hb, g1, g2, g3, g4, raw_str ok⟩
  · rw [is_int hb] at ry
    exact op_rep pins s σ H x _ v u Q I rx ry (rep_ok R ha e ok)
  · cases e
theorem op_fdivF : OpR X (binaryOp .FloorDiv) (rRaw X.K fdivF) := by
  intro pins s σ H x y v u Q I rx ry h
  obtain ⟨Z, ι, S, a, b, r, R, ha, hb, e, ok⟩ := h
  unfold fdivF at e
  split at e
  · obtain ⟨g, rfl⟩ := guardR_some e
    have g := of_decide_eq_true g
    exact op_fdivW pins s σ H x y v u Q I rx ry ⟨_, _, is_int ha, is_int hb, g, raw_int ok⟩
  · cases e
theorem op_modF : OpR X (binaryOp .Mod) (rRaw X.K modF) := by
  intro pins s σ H x y v u Q I rx ry h
  obtain ⟨Z, ι, S, a, b, r, R, ha, hb, e, ok⟩ := h
  unfold modF at e
  split at e
  · obtain ⟨g, rfl⟩ := guardR_some e
    exact op_mod pins s σ H x y v u Q I rx ry ⟨_, _, is_int ha, is_int hb, of_decide_eq_true g, raw_int ok⟩
  · cases e
theorem op_powF : OpR X (binaryOp .Pow) (rRaw X.K powF) := by
  intro pins s σ H x y v u Q I rx ry h
  obtain ⟨Z, ι, S, a, b, r, R, ha, hb, e, ok⟩ := h
  unfold powF at e
  split at e
  · obtain ⟨g, rfl⟩ := guardR_some e
    have g := of_decide_eq_true g
    exact op_pow pins s σ H x y v u Q I rx ry ⟨_, _, is_int ha, is_int hb, g, raw_int ok⟩
  · cases e
theorem op_shrF : OpR X (binaryOp .RShift) (rRaw X.K shrF) := by
  intro pins s σ H x y v u Q I rx ry h
  obtain ⟨Z, ι, S, a, b, r, R, ha, hb, e, ok⟩ := h
  unfold shrF at e
  split at e
  · obtain ⟨g, rfl⟩ := guardR_some e
    exact op_shr pins s σ H x y v u Q I rx ry ⟨_, _, is_int ha, is_int hb, of_decide_eq_true g, raw_int ok⟩
  · cases e
theorem op_andF : OpR X (binaryOp .BitAnd) (rRaw X.K andF) := by
  intro pins s σ H x y v u Q I rx ry h
  obtain ⟨Z, ι, S, a, b, r, R, ha, hb, e, ok⟩ := h
  unfold andF at e
  split at e
  · cases e
    exact op_and pins s σ H x y v u Q I rx ry ⟨_, _, is_int ha, is_int hb, raw_int ok⟩
  · cases e
theorem op_binF (op : Operator) : OpR X (binaryOp op) (rRaw X.K (binF op)) := by
  cases op with
  | Add => exact op_addF
  | Sub => exact op_subF
  | Mult => exact op_mulF
  | FloorDiv => exact op_fdivF
  | Mod => exact op_modF
  | Pow => exact op_powF
  | RShift => exact op_shrF
  | BitAnd => exact op_andF
  | _ =>
    intro pins s σ H x y v u Q I rx ry h
    obtain ⟨Z, ι, S, a, b, r, R, ha, hb, e, ok⟩ := h
    cases e
end
def eqD (a b : T) (S : Sto) : Option Bool := match S.toD a, S.toD b with
  | some d, some e => if decide (min d.depth e.depth ≤ 60) then some (PyData.eqv d e) else none
  | _, _ => none
def T.ints : List T → Option (List Int)
  | [] => some []
  | .int i :: r => (T.ints r).map (i :: ·)
  | _ :: _ => none
def lexLe (ns ms : List Int) : Bool := Ob.lexAt (fun j => decide (ns.getD j 0 = ms.getD j 0)) (fun j => decide (ns.getD j 0 ≤ ms.getD j 0)) (decide (ns.length ≤ ms.length)) 0 (min ns.length ms.length)
def lexGe (ns ms : List Int) : Bool := Ob.lexAt (fun j => decide (ns.getD j 0 = ms.getD j 0)) (fun j => decide (ms.getD j 0 ≤ ns.getD j 0)) (decide (ns.length ≥ ms.length)) 0 (min ns.length ms.length)
def lexGt (ns ms : List Int) : Bool := Ob.lexAt (fun j => decide (ns.getD j 0 = ms.getD j 0)) (fun j => decide (ms.getD j 0 < ns.getD j 0)) (decide (ns.length > ms.length)) 0 (min ns.length ms.length)
def ordF (fi : Int → Int → Bool) (ft : List Int → List Int → Bool) : T → T → Option Bool
  | .int i, .int j => some (fi i j)
  | .tup xs, .tup ys => match T.ints xs, T.ints ys with
    | some ns, some ms => some (ft ns ms)
    | _, _ => none
  | _, _ => none
def T.key : T → Option Key
  | .int i => some (.inl i)
  | .str s => some (.inr s)
  | _ => none
def T.keysOf : List T → Option (List Key)
  | [] => some []
  | t :: r => match T.key t, T.keysOf r with
    | some k, some ks => some (k :: ks)
    | _, _ => none
def T.keyT : T → Option (List Key)
  | .tup xs => T.keysOf xs
  | _ => none
def lookK {κ α : Type} [DecidableEq κ] (kvs : List (κ × α)) (k : κ) : Option α := (kvs.find? fun kv => decide (kv.1 = k)).map (·.2)
inductive DV where
  | k (kvs : List (Key × T)) | t (kvs : List (List Key × T))
def Sto.dict (S : Sto) : T → Option DV
  | .dK l => some (.k l)
  | .dT l => some (.t l)
  | .ref i => match S[i]? with
    | some (.dK l) => some (.k l)
    | some (.dT l) => some (.t l)
    | _ => none
  | _ => none
def DV.look : DV → T → Option (Option T)
  | .k l, x => (T.key x).map (lookK l)
  | .t l, x => (T.keyT x).map (lookK l)
def inF (a b : T) (S : Sto) : Option Bool := match b with
  | .str y => match a with
    | .str x => some (!(Builtin.Str.occurrences y x 0 y.length 1).isEmpty)
    | _ => none
  | b => match S.dict b with
    | some d => (d.look a).map (·.isSome)
    | none => match S.toD a, (S.seq b).bind (T.toDs (S.refD 4)) with
      | some d, some ds => if decide (min (PyData.depthAll ds) d.depth ≤ 60) then some (ds.any fun z => PyData.eqv z d) else none
      | _, _ => none
def isF : T → T → Option Bool
  | .non, .non => some true
  | _, .non => some false
  | .bl a, .bl b => some (decide (a = b))
  | _, _ => none
def cmpB : CmpOp → T → T → Sto → Option Bool
  | .Eq, a, b, S => eqD a b S
  | .NotEq, a, b, S => (eqD a b S).map (!·)
  | .Lt, a, b, _ => ordF (fun i j => decide (i < j)) HT.lexLt a b
  | .LtE, a, b, _ => ordF (fun i j => decide (i ≤ j)) lexLe a b
  | .Gt, a, b, _ => ordF (fun i j => decide (j < i)) lexGt a b
  | .GtE, a, b, _ => ordF (fun i j => decide (j ≤ i)) lexGe a b
  | .Is, a, b, _ => isF a b
  | .IsNot, a, b, _ => (isF a b).map (!·)
  | .In, a, b, S => inF a b S
  | .NotIn, a, b, S => (inF a b S).map (!·)
def cmpF (op : CmpOp) (a b : T) (S : Sto) : Option Raw := (cmpB op a b S).map fun k => .val (.bl k)
end TL
namespace TL
open PySem PySem.Spec PyProof.Rows L2
section
variable {K : PySem.W.Frag} {Z : Addr → Prop} {H : Hp} {ι : Nat → Addr} {S : Sto} {n : Nat}
theorem lookK_zip {κ : Type} [DecidableEq κ] (k : κ) : ∀ {ks : List κ} {vs : List V} {ts : List T}, ks.length = vs.length → IsAll K Z H ι n vs ts →
    (valV (ks.zip vs) k = none ∧ lookK (ks.zip ts) k = none) ∨ ∃ v t, valV (ks.zip vs) k = some v ∧ lookK (ks.zip ts) k = some t ∧ Is K Z H ι n v t
  | [], _, _, _, _ => .inl ⟨rfl, rfl⟩
  | c :: ks, [], _, hl, _ => by simp at hl
  | c :: ks, v :: vs, _, hl, .cons (t := t) (ts := ts) i is => by
    by_cases e : c = k
    · exact .inr ⟨v, t, by simp [valV, List.zip_cons_cons, List.find?_cons, e], by simp [lookK, List.zip_cons_cons, List.find?_cons, e], i⟩
    · have ih := lookK_zip k (by simpa using hl) is
      have e1 : valV ((c :: ks).zip (v :: vs)) k = valV (ks.zip vs) k := by simp [valV, List.zip_cons_cons, List.find?_cons, e]
      have e2 : lookK ((c :: ks).zip (t :: ts)) k = lookK (ks.zip ts) k := by simp [lookK, List.zip_cons_cons, List.find?_cons, e]
      rw [e1, e2]
      exact ih
theorem key_ok {x : V} {t : T} {k : Key} (h : Is K Z H ι n x t) (e : T.key t = some k) : x = kV k := by
  cases h <;> cases e <;> rfl
theorem keysOf_ok : ∀ {vs : List V} {ts : List T} {ks : List Key}, IsAll K Z H ι n vs ts → T.keysOf ts = some ks → vs = ks.map kV
  | _, _, _, .nil, e => by cases e; rfl
  | _, _, _, .cons (t := t) (ts := ts) i is, e => by
    simp only [T.keysOf] at e
    cases q : T.key t with
    | none => rw [q] at e; cases e
    | some k =>
      cases q2 : T.keysOf ts with
      | none => rw [q, q2] at e; cases e
      | some ks =>
        rw [q, q2] at e
        cases e
        rw [key_ok i q, keysOf_ok is q2]
        rfl
theorem keyT_ok {x : V} {t : T} {ks : List Key} (h : Is K Z H ι n x t) (e : T.keyT t = some ks) : ∃ b, x = .ref b ∧ H b = some (.tup (ks.map kV)) := by
  cases h with
  | tup h hs =>
    have := keysOf_ok hs e
    subst this
    exact ⟨_, rfl, h⟩
  | _ => cases e
inductive DIs (K : PySem.W.Frag) (Z : Addr → Prop) (H : Hp) (ι : Nat → Addr) (n : Nat) (a : Addr) : DV → Prop
  | k {ks : List Key} {vs : List V} {ts : List T} : H a = some (.dK (ks.zip vs)) → ks.length = vs.length → IsAll K Z H ι n vs ts → DIs K Z H ι n a (.k (ks.zip ts))
  | t {ks : List (List Key)} {vs : List V} {ts : List T} : H a = some (.dT (ks.zip vs)) → ks.length = vs.length → IsAll K Z H ι n vs ts → DIs K Z H ι n a (.t (ks.zip ts))
theorem dict_ok {x : V} {t : T} {d : DV} (R : Rel K Z ι S H) (h : Is K Z H ι S.length x t) (e : S.dict t = some d) : ∃ a, x = .ref a ∧ DIs K Z H ι S.length a d := by
  cases h with
  | dK h _ _ hl hs => cases e; exact ⟨_, rfl, .k h hl hs⟩
  | dT h _ _ hl hs => cases e; exact ⟨_, rfl, .t h hl hs⟩
  | ref hi =>
    rename_i i
    have q : S[i]? = some S[i] := List.getElem?_eq_getElem hi
    have h := R.obj _ _ q
    simp only [Sto.dict, q] at e
    cases ho : S[i] with
    | lst xs => rw [ho] at e; cases e
    | dK l =>
      rw [ho] at e h
      cases e
      cases h with
      | dK h hl hs => exact ⟨_, rfl, .k h hl hs⟩
    | dT l =>
      rw [ho] at e h
      cases e
      cases h with
      | dT h hl hs => exact ⟨_, rfl, .t h hl hs⟩
  | _ => cases e
theorem look_ok {a : Addr} {d : DV} {y : V} {u : T} {o : Option T} (h : DIs K Z H ι n a d) (i : Is K Z H ι n y u) (e : d.look u = some o) :
    ∃ o', DGet H a y o' ∧ ((o = none ∧ o' = none) ∨ ∃ v t, o = some t ∧ o' = some v ∧ Is K Z H ι n v t) := by
  cases h with
  | k h hl hs =>
    simp only [DV.look] at e
    cases q : T.key u with
    | none => rw [q] at e; cases e
    | some k =>
      rw [q] at e
      cases e
      rw [key_ok i q]
      rcases lookK_zip k hl hs with ⟨e1, e2⟩ | ⟨v, t, e1, e2, iv⟩
      · exact ⟨_, .k h, .inl ⟨e2, e1⟩⟩
      · exact ⟨_, .k h, .inr ⟨v, t, e2, e1, iv⟩⟩
  | t h hl hs =>
    simp only [DV.look] at e
    cases q : T.keyT u with
    | none => rw [q] at e; cases e
    | some k =>
      rw [q] at e
      cases e
      obtain ⟨b, rfl, hb⟩ := keyT_ok i q
      rcases lookK_zip k hl hs with ⟨e1, e2⟩ | ⟨v, t, e1, e2, iv⟩
      · exact ⟨_, .t h hb, .inl ⟨e2, e1⟩⟩
      · exact ⟨_, .t h hb, .inr ⟨v, t, e2, e1, iv⟩⟩
theorem ints_ok : ∀ {vs : List V} {ts : List T} {ns : List Int}, IsAll K Z H ι n vs ts → T.ints ts = some ns → vs = ns.map V.int
  | _, _, _, .nil, e => by cases e; rfl
  | _, _, _, .cons (t := t) (ts := ts) i is, e => by
    cases i with
    | int k =>
      simp only [T.ints] at e
      cases q2 : T.ints ts with
      | none => rw [q2] at e; cases e
      | some ks =>
        rw [q2] at e
        cases e
        rw [ints_ok is q2]
        rfl
    | _ => cases e
end
section
variable {X : Cx}
theorem lexOps {A : Around} {pins : List (Addr × Obj)} {σ : L2.St} {H : Hp} {s : Shared} {a b : Addr} {ns ms : List Int} (I : Inv X pins σ H s) (ha : SqT X.K H a (ns.map V.int)) (hb : SqT X.K H b (ms.map V.int)) :
    ∃ its its2 : Array Value, s.heap.IsTuple a its ∧ s.heap.IsTuple b its2 ∧ its.size = ns.length ∧ its2.size = ms.length ∧
      (∀ j (h1 : j < its.size) (h2 : j < its2.size), SeqAt.EqAt A s its[j] its2[j] (decide (ns.getD j 0 = ms.getD j 0))) ∧
      (∀ j (h1 : j < its.size), ∃ t, its[j] = .int (ns.getD j 0) t) ∧ (∀ j (h1 : j < its2.size), ∃ t, its2[j] = .int (ms.getD j 0) t) := by
  obtain ⟨its, r1, p1, _⟩ := I.tuple ha
  obtain ⟨its2, r2, p2, _⟩ := I.tuple hb
  have i1 : IntsAre its ns := Vals.ints r1
  have i2 : IntsAre its2 ms := Vals.ints r2
  have e1 : its.toArray.size = ns.length := by rw [List.size_toArray]; exact i1.length
  have e2 : its2.toArray.size = ms.length := by rw [List.size_toArray]; exact i2.length
  have at1 : ∀ j (h1 : j < its.toArray.size), ∃ t, its.toArray[j] = .int (ns.getD j 0) t := fun j h1 => PyProof.Rows.IntsAre.int_at i1 _ _ (by simp at h1; simp [h1])
  have at2 : ∀ j (h1 : j < its2.toArray.size), ∃ t, its2.toArray[j] = .int (ms.getD j 0) t := fun j h1 => PyProof.Rows.IntsAre.int_at i2 _ _ (by simp at h1; simp [h1])
  refine ⟨its.toArray, its2.toArray, p1, p2, e1, e2, fun j h1 h2 => ?_, at1, at2⟩
  obtain ⟨t, et⟩ := at1 j h1
  obtain ⟨t', et'⟩ := at2 j h2
  rw [et, et']
  have z : (ns.getD j 0 == ms.getD j 0) = decide (ns.getD j 0 = ms.getD j 0) := by
    by_cases q : ns.getD j 0 = ms.getD j 0
    · rw [decide_eq_true q]; exact beq_iff_eq.mpr q
    · rw [decide_eq_false q]; exact beq_eq_false_iff_ne.mpr q
  rw [← z]
  exact SeqAt.EqAt.int_int _ _ _ _
def rTT (K : PySem.W.Frag) (f : List Int → List Int → Bool) : R2 := fun x y H Q => ∃ (a b : Addr) (ns ms : List Int), x = .ref a ∧ y = .ref b ∧ SqT K H a (ns.map V.int) ∧ SqT K H b (ms.map V.int) ∧ Q (.bl (f ns ms)) H
theorem op_gtT (hu : X.A.units < cLine) : OpR X (compareOp .Gt) (rTT X.K lexGt) := by
  intro pins s σ H x y v u Q I rx ry h
  obtain ⟨a, b, ns, ms, rfl, rfl, ha, hb, q⟩ := h
  cases rx
  cases ry
  obtain ⟨its, its2, p1, p2, e1, e2, he, at1, at2⟩ := lexOps (A := X.A.in1) I ha hb
  have R := Ob.RcOp.tuples_gt (A := X.A) (s := s) (e := fun j => decide (ns.getD j 0 = ms.getD j 0)) (r := fun j => decide (ms.getD j 0 < ns.getD j 0)) p1 p2 hu he (fun j h1 h2 _ => by
    obtain ⟨t, et⟩ := at1 j h1
    obtain ⟨t', et'⟩ := at2 j h2
    rw [et, et']
    exact Ob.RcOp.gt_int _ _ _ _)
  rw [e1, e2] at R
  have z : wpAny (model X.prog X.w) X.A (compareOp .Gt (.ref a) (.ref b)) (EP X pins σ Q) X.xe s := R X.prog X.w X.xe (EP X pins σ Q) ⟨.bl _, H, I, rfl, q⟩
  exact z
theorem op_geT (hu : X.A.units < cLine) : OpR X (compareOp .GtE) (rTT X.K lexGe) := by
  intro pins s σ H x y v u Q I rx ry h
  obtain ⟨a, b, ns, ms, rfl, rfl, ha, hb, q⟩ := h
  cases rx
  cases ry
  obtain ⟨its, its2, p1, p2, e1, e2, he, at1, at2⟩ := lexOps (A := X.A.in1) I ha hb
  have R := Ob.RcOp.tuples_ge (A := X.A) (s := s) (e := fun j => decide (ns.getD j 0 = ms.getD j 0)) (r := fun j => decide (ms.getD j 0 ≤ ns.getD j 0)) p1 p2 hu he (fun j h1 h2 _ => by
    obtain ⟨t, et⟩ := at1 j h1
    obtain ⟨t', et'⟩ := at2 j h2
    rw [et, et']
    exact Ob.RcOp.ge_int _ _ _ _)
  rw [e1, e2] at R
  have z : wpAny (model X.prog X.w) X.A (compareOp .GtE (.ref a) (.ref b)) (EP X pins σ Q) X.xe s := R X.prog X.w X.xe (EP X pins σ Q) ⟨.bl _, H, I, rfl, q⟩
  exact z
theorem ord_ok {op : CmpOp} {fi : Int → Int → Bool} {ft : List Int → List Int → Bool} (hi : OpR X (compareOp op) (rI0 fun i j => .bl (fi i j))) (ht : OpR X (compareOp op) (rTT X.K ft)) :
    OpR X (compareOp op) (rRaw X.K fun a b _ => (ordF fi ft a b).map fun k => .val (.bl k)) := by
  intro pins s σ H x y v u Q I rx ry h
  obtain ⟨Z, ι, S, a, b, r, R, ha, hb, e, ok⟩ := h
  replace e : (ordF fi ft a b).map (fun k => Raw.val (.bl k)) = some r := e
  unfold ordF at e
  split at e
  · cases e
    exact hi pins s σ H x y v u Q I rx ry ⟨_, _, is_int ha, is_int hb, raw_bl ok⟩
  · split at e
    · rename_i ns ms e1 e2
      cases e
      obtain ⟨p, vs, rfl, hp, ip⟩ := is_tup ha
      obtain ⟨q, ws, rfl, hq, iq⟩ := is_tup hb
      rw [ints_ok ip e1] at hp
      rw [ints_ok iq e2] at hq
      exact ht pins s σ H _ _ v u Q I rx ry ⟨p, q, ns, ms, rfl, rfl, .of hp, .of hq, raw_bl ok⟩
    · cases e
  · cases e
theorem eq_ok {x y : V} {a b : T} {Z : Addr → Prop} {ι : Nat → Addr} {S : Sto} {H : Hp} {k : Bool} (R : Rel X.K Z ι S H) (ha : Is X.K Z H ι S.length x a) (hb : Is X.K Z H ι S.length y b) (e : eqD a b S = some k) :
    ∃ d f, Dp X.K H x d ∧ Dp X.K H y f ∧ d.plain = true ∧ f.plain = true ∧ min d.depth f.depth ≤ 60 ∧ k = PyData.eqv d f := by
  unfold eqD at e
  split at e
  · rename_i d f e1 e2
    split at e
    · rename_i g
      cases e
      obtain ⟨a1, a2⟩ := Sto.toD_ok R ha e1
      obtain ⟨b1, b2⟩ := Sto.toD_ok R hb e2
      exact ⟨d, f, a1, b1, a2, b2, of_decide_eq_true g, rfl⟩
    · cases e
  · cases e
theorem op_eqF (hu : X.A.units + 65 < cLine) : OpR X (compareOp .Eq) (rRaw X.K (cmpF .Eq)) := by
  intro pins s σ H x y v u Q I rx ry h
  obtain ⟨Z, ι, S, a, b, r, R, ha, hb, e, ok⟩ := h
  simp only [cmpF, cmpB] at e
  cases q : eqD a b S with
  | none => rw [q] at e; cases e
  | some k =>
    rw [q] at e
    cases e
    obtain ⟨d, f, h1, h2, p1, p2, hd, rfl⟩ := eq_ok R ha hb q
    obtain ⟨as, r1⟩ := Dp.reads I d x v h1 rx
    obtain ⟨bs, r2⟩ := Dp.reads I f y u h2 ry
    exact SeqAt.eq_plain r1 r2 p1 p2 (by omega) ⟨.bl _, H, I, rfl, raw_bl ok⟩
theorem op_neF (hu : X.A.units + 65 < cLine) : OpR X (compareOp .NotEq) (rRaw X.K (cmpF .NotEq)) := by
  intro pins s σ H x y v u Q I rx ry h
  obtain ⟨Z, ι, S, a, b, r, R, ha, hb, e, ok⟩ := h
  simp only [cmpF, cmpB] at e
  cases q : eqD a b S with
  | none => rw [q] at e; cases e
  | some k =>
    rw [q] at e
    cases e
    obtain ⟨d, f, h1, h2, p1, p2, hd, rfl⟩ := eq_ok R ha hb q
    obtain ⟨as, r1⟩ := Dp.reads I d x v h1 rx
    obtain ⟨bs, r2⟩ := Dp.reads I f y u h2 ry
    exact SeqAt.ne_plain r1 r2 p1 p2 (by omega) ⟨.bl _, H, I, rfl, raw_bl ok⟩
inductive InIs (X : Cx) (H : Hp) (x y : V) (k : Bool) : Prop
  | str (i j : Str) : x = .str i → y = .str j → k = (!(Builtin.Str.occurrences j i 0 j.length 1).isEmpty) → InIs X H x y k
  | dict (a : Addr) (o : Option V) : y = .ref a → DGet H a x o → k = o.isSome → InIs X H x y k
  | lst (d : PyData) (ds : List PyData) : Dp X.K H x d → Dp X.K H y (.list ds) → d.plain = true → PyData.plainAll ds = true → min (PyData.depthAll ds) d.depth ≤ 60 → k = (ds.any fun z => PyData.eqv z d) → InIs X H x y k
  | tup (d : PyData) (ds : List PyData) : Dp X.K H x d → Dp X.K H y (.tuple ds) → d.plain = true → PyData.plainAll ds = true → min (PyData.depthAll ds) d.depth ≤ 60 → k = (ds.any fun z => PyData.eqv z d) → InIs X H x y k
theorem seqD_ok {y : V} {b : T} {Z : Addr → Prop} {ι : Nat → Addr} {S : Sto} {H : Hp} {ts : List T} {ds : List PyData} (R : Rel X.K Z ι S H) (hb : Is X.K Z H ι S.length y b) (e : S.seq b = some ts) (e2 : T.toDs (S.refD 4) ts = some ds) :
    (Dp X.K H y (.list ds) ∨ Dp X.K H y (.tuple ds)) ∧ PyData.plainAll ds = true := by
  cases hb with
  | lst h hn _ hs =>
    cases e
    obtain ⟨p, q⟩ := toDs_ok (fun i d hi => refD_ok R 4 i d hi) hs e2
    exact ⟨.inl (.lst (.of h) p), q⟩
  | tup h hs =>
    cases e
    obtain ⟨p, q⟩ := toDs_ok (fun i d hi => refD_ok R 4 i d hi) hs e2
    exact ⟨.inr (.tup (.of h) p), q⟩
  | scrK h =>
    cases e
    obtain ⟨p, q⟩ := toDs_ok (fun i d hi => refD_ok R 4 i d hi) (isAll_ints (Z := Z) _) e2
    exact ⟨.inl (.lst (.inr h) p), q⟩
  | scr h hn _ =>
    cases e
    obtain ⟨p, q⟩ := toDs_ok (fun i d hi => refD_ok R 4 i d hi) (isAll_ints (Z := Z) _) e2
    exact ⟨.inl (.lst (.inl h) p), q⟩
  | ref hi =>
    rename_i i
    obtain ⟨a, vs, e1, e3, e4⟩ := items_ok (ts := ts) R (.ref hi) (by unfold Sto.items; unfold Sto.seq at e; exact e)
    obtain ⟨p, q⟩ := toDs_ok (fun i d hi => refD_ok R 4 i d hi) e4 e2
    rw [e1]
    exact ⟨.inl (.lst (.of e3) p), q⟩
  | _ => cases e
theorem in_ok {x y : V} {a b : T} {Z : Addr → Prop} {ι : Nat → Addr} {S : Sto} {H : Hp} {k : Bool} (R : Rel X.K Z ι S H) (ha : Is X.K Z H ι S.length x a) (hb : Is X.K Z H ι S.length y b) (e : inF a b S = some k) : InIs X H x y k := by
  unfold inF at e
  split at e
  · split at e
    · cases e
      exact .str _ _ (is_str ha) (is_str hb) rfl
    · cases e
  · split at e
    · rename_i d e1
      obtain ⟨c, rfl, hd⟩ := dict_ok R hb e1
      cases q : d.look a with
      | none => rw [q] at e; cases e
      | some o =>
        rw [q] at e
        cases e
        obtain ⟨o', g, z⟩ := look_ok hd ha q
        refine .dict c o' rfl g ?_
        rcases z with ⟨rfl, rfl⟩ | ⟨v, t, rfl, rfl, _⟩ <;> rfl
    · split at e
      · rename_i d ds e1 e2
        split at e
        · rename_i g
          cases e
          obtain ⟨a1, a2⟩ := Sto.toD_ok R ha e1
          cases q : S.seq b with
          | none => rw [q] at e2; cases e2
          | some ts =>
            rw [q] at e2
            obtain ⟨p1 | p1, p2⟩ := seqD_ok R hb q e2
            · exact .lst d ds a1 p1 a2 p2 (of_decide_eq_true g) rfl
            · exact .tup d ds a1 p1 a2 p2 (of_decide_eq_true g) rfl
        · cases e
      · cases e
theorem op_inF (hu : X.A.units + 65 < cLine) : OpR X (compareOp .In) (rRaw X.K (cmpF .In)) := by
  intro pins s σ H x y v u Q I rx ry h
  obtain ⟨Z, ι, S, a, b, r, R, ha, hb, e, ok⟩ := h
  simp only [cmpF, cmpB] at e
  cases q : inF a b S with
  | none => rw [q] at e; cases e
  | some k =>
    rw [q] at e
    cases e
    have qb := raw_bl ok
    cases in_ok R ha hb q with
    | str i j e1 e2 e3 => exact op_in_str pins s σ H x y v u Q I rx ry ⟨i, j, e1, e2, by rw [← e3]; exact qb⟩
    | dict c o e1 g e3 =>
      subst e1
      cases ry
      exact d_in (by omega) I g rx fun s' I' => ⟨.bl _, H, I', rfl, by rw [← e3]; exact qb⟩
    | lst d ds h1 h2 p1 p2 hd e3 =>
      obtain ⟨as, r1⟩ := Dp.reads I d x v h1 rx
      obtain ⟨bs, r2⟩ := Dp.reads I (.list ds) y u h2 ry
      exact SeqAt.in_list_data r2 r1 p2 p1 (by omega) ⟨.bl _, H, I, rfl, by rw [← e3]; exact qb⟩
    | tup d ds h1 h2 p1 p2 hd e3 =>
      obtain ⟨as, r1⟩ := Dp.reads I d x v h1 rx
      obtain ⟨bs, r2⟩ := Dp.reads I (.tuple ds) y u h2 ry
      exact SeqAt.in_tuple_data r2 r1 p2 p1 (by omega) ⟨.bl _, H, I, rfl, by rw [← e3]; exact qb⟩
theorem op_notInF (hu : X.A.units + 65 < cLine) : OpR X (compareOp .NotIn) (rRaw X.K (cmpF .NotIn)) := by
  intro pins s σ H x y v u Q I rx ry h
  obtain ⟨Z, ι, S, a, b, r, R, ha, hb, e, ok⟩ := h
  simp only [cmpF, cmpB] at e
  cases q : inF a b S with
  | none => rw [q] at e; cases e
  | some k =>
    rw [q] at e
    cases e
    have qb := raw_bl ok
    cases in_ok R ha hb q with
    | str i j e1 e2 e3 => exact op_notIn_str pins s σ H x y v u Q I rx ry ⟨i, j, e1, e2, by rw [← e3]; exact qb⟩
    | dict c o e1 g e3 =>
      subst e1
      cases ry
      exact d_notIn (by omega) I g rx fun s' I' => ⟨.bl _, H, I', rfl, by rw [← e3]; exact qb⟩
    | lst d ds h1 h2 p1 p2 hd e3 =>
      obtain ⟨as, r1⟩ := Dp.reads I d x v h1 rx
      obtain ⟨bs, r2⟩ := Dp.reads I (.list ds) y u h2 ry
      exact SeqAt.notIn_list_data r2 r1 p2 p1 (by omega) ⟨.bl _, H, I, rfl, by rw [← e3]; exact qb⟩
    | tup d ds h1 h2 p1 p2 hd e3 =>
      obtain ⟨as, r1⟩ := Dp.reads I d x v h1 rx
      obtain ⟨bs, r2⟩ := Dp.reads I (.tuple ds) y u h2 ry
      exact SeqAt.notIn_tuple_data r2 r1 p2 p1 (by omega) ⟨.bl _, H, I, rfl, by rw [← e3]; exact qb⟩
theorem is_non {K : PySem.W.Frag} {Z : Addr → Prop} {H : Hp} {ι : Nat → Addr} {n : Nat} {x : V} {t : T} (h : Is K Z H ι n x t) : (x = .non ↔ t = .non) := by
  cases h <;> simp
theorem is_ok {x y : V} {a b : T} {Z : Addr → Prop} {ι : Nat → Addr} {S : Sto} {H : Hp} {k : Bool} (ha : Is X.K Z H ι S.length x a) (hb : Is X.K Z H ι S.length y b) (e : isF a b = some k) :
    (y = .non ∧ k = decide (x = .non)) ∨ ∃ i j, x = .bl i ∧ y = .bl j ∧ k = decide (i = j) := by
  unfold isF at e
  split at e
  · cases e
    cases ha
    cases hb
    exact .inl ⟨rfl, rfl⟩
  · rename_i h
    cases e
    cases hb
    refine .inl ⟨rfl, (decide_eq_false fun z => ?_).symm⟩
    exact h ((is_non ha).mp z)
  · cases e
    cases ha
    cases hb
    exact .inr ⟨_, _, rfl, rfl, rfl⟩
  · cases e
theorem op_isF : OpR X (compareOp .Is) (rRaw X.K (cmpF .Is)) := by
  intro pins s σ H x y v u Q I rx ry h
  obtain ⟨Z, ι, S, a, b, r, R, ha, hb, e, ok⟩ := h
  simp only [cmpF, cmpB] at e
  cases q : isF a b with
  | none => rw [q] at e; cases e
  | some k =>
    rw [q] at e
    cases e
    have qb := raw_bl ok
    rcases is_ok ha hb q with ⟨e1, e2⟩ | ⟨i, j, e1, e2, e3⟩
    · exact op_isN pins s σ H x y v u Q I rx ry ⟨e1, by rw [← e2]; exact qb⟩
    · exact op_is_bl pins s σ H x y v u Q I rx ry ⟨i, j, e1, e2, by rw [← e3]; exact qb⟩
theorem op_isNotF : OpR X (compareOp .IsNot) (rRaw X.K (cmpF .IsNot)) := by
  intro pins s σ H x y v u Q I rx ry h
  obtain ⟨Z, ι, S, a, b, r, R, ha, hb, e, ok⟩ := h
  simp only [cmpF, cmpB] at e
  cases q : isF a b with
  | none => rw [q] at e; cases e
  | some k =>
    rw [q] at e
    cases e
    have qb := raw_bl ok
    rcases is_ok ha hb q with ⟨e1, e2⟩ | ⟨i, j, e1, e2, e3⟩
    · exact op_notN pins s σ H x y v u Q I rx ry ⟨e1, by rw [← e2]; exact qb⟩
    · exact op_isnot_bl pins s σ H x y v u Q I rx ry ⟨i, j, e1, e2, by rw [← e3]; exact qb⟩
theorem op_cmpF (hu : X.A.units + 65 < cLine) (op : CmpOp) : OpR X (compareOp op) (rRaw X.K (cmpF op)) := by
  cases op with
  | Eq => exact op_eqF hu
  | NotEq => exact op_neF hu
  | Lt => exact ord_ok op_lt (op_ltT (by omega))
  | LtE => exact ord_ok op_le (op_leT (by omega))
  | Gt => exact ord_ok op_gt (op_gtT (by omega))
  | GtE => exact ord_ok op_ge (op_geT (by omega))
  | Is => exact op_isF
  | IsNot => exact op_isNotF
  | In => exact op_inF hu
  | NotIn => exact op_notInF hu
end
mutual
def T.same : T → T → Bool
  | .non, .non => true
  | .bl a, .bl b => a == b
  | .int a, .int b => a == b
  | .str a, .str b => a == b
  | .tup a, .tup b => T.sames a b
  | .lst a, .lst b => T.sames a b
  | .ref a, .ref b => a == b
  | _, _ => false
def T.sames : List T → List T → Bool
  | [], [] => true
  | a :: r, b :: q => T.same a b && T.sames r q
  | _, _ => false
end
mutual
theorem T.same_eq : ∀ {a b : T}, T.same a b = true → a = b
  | .non, .non, _ => rfl
  | .bl a, .bl b, h => by simp only [T.same] at h; rw [eq_of_beq h]
  | .int a, .int b, h => by simp only [T.same] at h; rw [eq_of_beq h]
  | .str a, .str b, h => by simp only [T.same] at h; rw [eq_of_beq h]
  | .tup a, .tup b, h => by simp only [T.same] at h; rw [T.sames_eq h]
  | .lst a, .lst b, h => by simp only [T.same] at h; rw [T.sames_eq h]
  | .ref a, .ref b, h => by simp only [T.same] at h; rw [eq_of_beq h]
  | .non, .bl _, h | .non, .int _, h | .non, .str _, h | .non, .tup _, h | .non, .lst _, h | .non, .dK _, h | .non, .dT _, h | .non, .ref _, h | .non, .scr _, h | .non, .fn _, h => by cases h
  | .bl _, .non, h | .bl _, .int _, h | .bl _, .str _, h | .bl _, .tup _, h | .bl _, .lst _, h | .bl _, .dK _, h | .bl _, .dT _, h | .bl _, .ref _, h | .bl _, .scr _, h | .bl _, .fn _, h => by cases h
  | .int _, .non, h | .int _, .bl _, h | .int _, .str _, h | .int _, .tup _, h | .int _, .lst _, h | .int _, .dK _, h | .int _, .dT _, h | .int _, .ref _, h | .int _, .scr _, h | .int _, .fn _, h => by cases h
  | .str _, .non, h | .str _, .bl _, h | .str _, .int _, h | .str _, .tup _, h | .str _, .lst _, h | .str _, .dK _, h | .str _, .dT _, h | .str _, .ref _, h | .str _, .scr _, h | .str _, .fn _, h => by cases h
  | .tup _, .non, h | .tup _, .bl _, h | .tup _, .int _, h | .tup _, .str _, h | .tup _, .lst _, h | .tup _, .dK _, h | .tup _, .dT _, h | .tup _, .ref _, h | .tup _, .scr _, h | .tup _, .fn _, h => by cases h
  | .lst _, .non, h | .lst _, .bl _, h | .lst _, .int _, h | .lst _, .str _, h | .lst _, .tup _, h | .lst _, .dK _, h | .lst _, .dT _, h | .lst _, .ref _, h | .lst _, .scr _, h | .lst _, .fn _, h => by cases h
  | .ref _, .non, h | .ref _, .bl _, h | .ref _, .int _, h | .ref _, .str _, h | .ref _, .tup _, h | .ref _, .lst _, h | .ref _, .dK _, h | .ref _, .dT _, h | .ref _, .scr _, h | .ref _, .fn _, h => by cases h
  | .dK _, _, h => by cases h
  | .dT _, _, h => by cases h
  | .scr _, _, h => by cases h
  | .fn _, _, h => by cases h
theorem T.sames_eq : ∀ {a b : List T}, T.sames a b = true → a = b
  | [], [], _ => rfl
  | a :: r, b :: q, h => by
    simp only [T.sames, Bool.and_eq_true] at h
    rw [T.same_eq h.1, T.sames_eq h.2]
  | [], _ :: _, h => by cases h
  | _ :: _, [], h => by cases h
end
abbrev FnS := List T → Sto → Option (Res × Sto)
abbrev BiS := List T → Sto → Option Raw
inductive Bi where
  | len | abs | max2 | min2 | max1 | min1 | sum | all | tuple | list | sorted | int | str | dict | sortD | minD | sortK | intS
  deriving DecidableEq
inductive Mt where
  | append | extend | pop0 | popT | index | insert | popI
  deriving DecidableEq
inductive Tg where
  | name (i : Nat) | tup (is : List Nat)
inductive E where
  | var (i : Nat) | gc (x : Str) (t : T) | int (i : Int) | str (s : Str) | bl (b : Bool) | non
  | bin (nw : Bool) (op : Operator) (a b : E)
  | neg (a : E) | not (a : E)
  | cmp (op : CmpOp) (a b : E) | chain (p q : CmpOp) (a b c : E)
  | inr (ng : Bool) (a : E) (args : E)
  | and (a b : E) | or (a b : E) | one (a : E)
  | ite (c a b : E)
  | nil | cons (a r : E)
  | tup (args : E) | lst (nw : Bool) (args : E) | dnew (t nw : Bool)
  | idx (a b : E) | sl (nw : Bool) (a lo hi : E) | rev (nw : Bool) (a : E) | nop
  | call (keep : Bool) (x : Str) (F : FnS) (args : E)
  | callV (keep : Bool) (tbl : List (Addr × Str × FnS)) (fe args : E)
  | sset (nw : Bool) (a : E) | dlit (k v : E) | dget (o k : E) | trng (a : E) | consV (a b r : E)
  | bi (nw : Bool) (b : Bi) (args : E) | isi (a : E) (ty : String)
  | comp (nw : Bool) (own : List (Str × Nat)) (tg : Tg) (it cond elt : E)
  | lenset (a : E)
  | seq (a : E) | rng (args : E) | enum (a : E) | zip (a b : E)
  | meth (m : Mt) (o args : E)
  | sseq (a : E) | join (o a : E) | split (o a : E) | low (o : E) | upp (o : E)
  | inrO (ng : Bool) (a : E) (args : E) | consR (s : Str) (a b o : E) (y z : Str) (t : E)
mutual
def T.und (lo : Nat) : T → Bool
  | .ref i => decide (i < lo)
  | .tup xs => T.unds lo xs
  | .lst xs => T.unds lo xs
  | .dK l => T.undK lo l
  | .dT l => T.undT lo l
  | _ => true
def T.unds (lo : Nat) : List T → Bool
  | [] => true
  | t :: r => T.und lo t && T.unds lo r
def T.undK (lo : Nat) : List (Key × T) → Bool
  | [] => true
  | (_, t) :: r => T.und lo t && T.undK lo r
def T.undT (lo : Nat) : List (List Key × T) → Bool
  | [] => true
  | (_, t) :: r => T.und lo t && T.undT lo r
end
def Ob.und (lo : Nat) : Ob → Bool
  | .lst xs => T.unds lo xs
  | .dK l => T.undK lo l
  | .dT l => T.undT lo l
mutual
def T.frzW (lo : Nat) (f : Nat → Option T) : T → Option T
  | .ref i => if i < lo then some (.ref i) else f i
  | .tup xs => (T.frzWs lo f xs).map .tup
  | .lst xs => (T.frzWs lo f xs).map .lst
  | .dK l => if T.undK lo l then some (.dK l) else none
  | .dT l => if T.undT lo l then some (.dT l) else none
  | t => some t
def T.frzWs (lo : Nat) (f : Nat → Option T) : List T → Option (List T)
  | [] => some []
  | t :: r => match T.frzW lo f t, T.frzWs lo f r with
    | some u, some us => some (u :: us)
    | _, _ => none
end
def Sto.frzI (S : Sto) (lo : Nat) : Nat → Nat → Option T
  | 0, _ => none
  | k + 1, i => match S[i]? with
    | some (.lst xs) => (T.frzWs lo (S.frzI lo k) xs).map .lst
    | some (.dK l) => if T.undK lo l then some (.dK l) else none
    | some (.dT l) => if T.undT lo l then some (.dT l) else none
    | _ => none
def frzR (lo : Nat) : Option (Res × Sto) → Option (Res × Sto)
  | some (.ok t, S) => if (S.take lo).all (Ob.und lo) then (T.frzW lo (S.frzI lo 4) t).map fun u => (.ok u, S.take lo) else none
  | some (.err x, S) => if (S.take lo).all (Ob.und lo) && x.fs.all (fun p => T.und lo p.2) then some (.err x, S.take lo) else none
  | none => none
def isTy : T → Option String
  | .non => some "NoneType"
  | .bl _ => some "bool"
  | .int _ => some "int"
  | .str _ => some "str"
  | .tup _ => some "tuple"
  | .lst _ => some "list"
  | .scr _ => none
  | .fn _ => none
  | .dK _ => some "dict"
  | .dT _ => some "dict"
  | .ref _ => none
def Sto.ty (S : Sto) : T → Option String
  | .ref i => match S[i]? with
    | some (.lst _) => some "list"
    | some (.dK _) => some "dict"
    | some (.dT _) => some "dict"
    | none => none
  | t => isTy t
def isiF (ty : String) (t : T) (S : Sto) : Option Bool := (S.ty t).map fun a => a == ty || (a == "bool" && ty == "int")
def lenF : BiS
  | [t], S => match t with
    | .str s => guardR (decide (s.length ≤ LIM)) (.val (.int s.length))
    | .dK l => some (.val (.int l.length))
    | .dT l => some (.val (.int l.length))
    | t => match S.seq t with
      | some xs => some (.val (.int xs.length))
      | none => match S.dict t with
        | some (.k l) => some (.val (.int l.length))
        | some (.t l) => some (.val (.int l.length))
        | none => none
  | _, _ => none
def absF : BiS
  | [.int i], _ => some (.val (.int (if i < 0 then -i else i)))
  | _, _ => none
def max2F : BiS
  | [.int i, .int j], _ => some (.val (.int (if j > i then j else i)))
  | _, _ => none
def min2F : BiS
  | [.int i, .int j], _ => some (.val (.int (if j < i then j else i)))
  | _, _ => none
def Sto.lseq (S : Sto) : T → Option (List T)
  | .tup _ => none
  | t => S.seq t
def maxL : Int → List Int → Int
  | m, [] => m
  | m, j :: r => maxL (if j > m then j else m) r
def minL : Int → List Int → Int
  | m, [] => m
  | m, j :: r => minL (if j < m then j else m) r
def max1F : BiS
  | [t], S => match (S.seq t).bind T.ints with
    | some (i :: r) => some (.val (.int (maxL i r)))
    | _ => none
  | _, _ => none
def min1F : BiS
  | [t], S => match (S.seq t).bind T.ints with
    | some (i :: r) => some (.val (.int (minL i r)))
    | _ => none
  | _, _ => none
def sumF : BiS
  | [t], S => match (S.lseq t).bind T.ints with
    | some ns => some (.val (.int ns.sum))
    | _ => none
  | _, _ => none
def T.bools : List T → Option (List Bool)
  | [] => some []
  | .bl b :: r => (T.bools r).map (b :: ·)
  | _ :: _ => none
def allF : BiS
  | [t], S => match (S.lseq t).bind T.bools with
    | some bs => some (.val (.bl (bs.all id)))
    | _ => none
  | _, _ => none
def tupleF : BiS
  | [t], S => (S.seq t).map fun xs => .val (.tup xs)
  | _, _ => none
def T.ofKey : Key → T
  | .inl i => .int i
  | .inr s => .str s
def listF : BiS
  | [t], S => match S.seq t with
    | some xs => some (.fresh xs)
    | none => match S.dict t with
      | some (.k l) => some (.fresh (l.map fun p => T.ofKey p.1))
      | some (.t l) => some (.fresh (l.map fun p => .tup (p.1.map T.ofKey)))
      | none => none
  | _, _ => none
def insL (x : List Int) : List (List Int) → List (List Int)
  | [] => [x]
  | y :: r => if HT.lexLt y x then y :: insL x r else x :: y :: r
def sortL : List (List Int) → List (List Int)
  | [] => []
  | x :: r => insL x (sortL r)
def insI (x : Int) : List Int → List Int
  | [] => [x]
  | y :: r => if y < x then y :: insI x r else x :: y :: r
def sortI : List Int → List Int
  | [] => []
  | x :: r => insI x (sortI r)
def T.tupI : T → Option (List Int)
  | .tup xs => match T.ints xs with
    | some (n :: ns) => some (n :: ns)
    | _ => none
  | _ => none
def T.tupIs : List T → Option (List (List Int))
  | [] => some []
  | t :: r => match T.tupI t, T.tupIs r with
    | some x, some xs => some (x :: xs)
    | _, _ => none
def T.ofInts (ns : List Int) : T := .tup (ns.map .int)
def sortedF : BiS
  | [t], S => match S.lseq t with
    | some xs => match T.ints xs with
      | some ns => some (.fresh ((sortI ns).map .int))
      | none => (T.tupIs xs).map fun l => .fresh ((sortL l).map T.ofInts)
    | none => none
  | _, _ => none
def intF : BiS
  | [.int i], _ => some (.val (.int i))
  | [.bl b], _ => some (.val (.int (if b then 1 else 0)))
  | _, _ => none
def strF : BiS
  | [.int i], _ => guardR (decide (i.natAbs.log2 < 1920)) (.val (.str (toString i)))
  | _, _ => none
def putP {κ α : Type} [DecidableEq κ] (kvs : List (κ × α)) (k : κ) (v : α) : List (κ × α) :=
  if (kvs.any fun kv => decide (kv.1 = k)) = true then kvs.map (fun kv => if kv.1 = k then (kv.1, v) else kv) else kvs ++ [(k, v)]
def mergeP {κ α : Type} [DecidableEq κ] (acc kvs : List (κ × α)) : List (κ × α) := kvs.foldl (fun a p => putP a p.1 p.2) acc
def T.pairT : T → Option (List Key × T)
  | .tup [k, v] => (T.keyT k).map fun ks => (ks, v)
  | _ => none
def T.pairsT : List T → Option (List (List Key × T))
  | [] => some []
  | t :: r => match T.pairT t, T.pairsT r with
    | some p, some ps => some (p :: ps)
    | _, _ => none
def dictF : BiS
  | [t], S => match S.lseq t with
    | some xs => if xs.length ≤ LIM then (T.pairsT xs).map fun kvs => .val (.dT (mergeP [] kvs)) else none
    | none => none
  | _, _ => none
def isTupC : PyData → Bool
  | .tuple (_ :: _) => true
  | _ => false
def dataL (S : Sto) (xs : List T) : Option (List PyData) := match T.toDs (S.refD 4) xs with
  | some ds => if (ds.all fun d => ds.all fun e => PySem.W.alike d e) = true ∧ ds.all isTupC = true ∧ PyData.depthAll ds ≤ 60 then some ds else none
  | none => none
def srtT (xs : List T) (ds : List PyData) : List T := ((xs.zip ds).mergeSort (PySem.W.dataLe false Prod.snd)).map Prod.fst
def sortDF : BiS
  | [t], S => match S.lseq t with
    | some xs => match dataL S xs with
      | some ds => some (.fresh (srtT xs ds))
      | none => none
    | none => none
  | _, _ => none
def minTD (m : T × PyData) : List (T × PyData) → T × PyData
  | [] => m
  | y :: r => minTD (if PySem.W.dataLt y.2 m.2 = true then y else m) r
def minDF : BiS
  | [t], S => match S.lseq t with
    | some (x :: xs) => match dataL S (x :: xs) with
      | some (d :: ds) => if (((x, d) :: xs.zip ds).all fun p => PySem.W.dataLt p.2 (minTD (x, d) (xs.zip ds)).2 || PySem.W.dataLt (minTD (x, d) (xs.zip ds)).2 p.2 || T.same p.1 (minTD (x, d) (xs.zip ds)).1) = true then some (.val (minTD (x, d) (xs.zip ds)).1) else none
      | _ => none
    | _ => none
  | _, _ => none
def keyD : Key → PyData
  | .inl i => .int i
  | .inr s => .str s
def keysD (ks : List Key) : PyData := .tuple (ks.map keyD)
def sortKF : BiS
  | [t], S => match S.dict t with
    | some (.t kvs) => if ((kvs.map fun p => keysD p.1).all fun d => (kvs.map fun p => keysD p.1).all fun e => PySem.W.alike d e) = true ∧ (kvs.all fun p => !p.1.isEmpty) = true then some (.fresh (srtT (kvs.map fun p => .tup (p.1.map T.ofKey)) (kvs.map fun p => keysD p.1))) else none
    | _ => none
  | _, _ => none
def intSF : BiS
  | [.str z], _ => match PySem.intText? z with
    | some n => if z.length ≤ 640 then some (.val (.int n)) else none
    | none => none
  | _, _ => none
def biF : Bi → BiS
  | .len => lenF
  | .abs => absF
  | .max2 => max2F
  | .min2 => min2F
  | .max1 => max1F
  | .min1 => min1F
  | .sum => sumF
  | .all => allF
  | .tuple => tupleF
  | .list => listF
  | .sorted => sortedF
  | .int => intF
  | .str => strF
  | .dict => dictF
  | .sortD => sortDF
  | .minD => minDF
  | .sortK => sortKF
  | .intS => intSF
def idxF (a b : T) (S : Sto) : Option T := match a with
  | .str z => match b with
    | .int i => if z.length ≤ LIM then (atI z.cps.toList i).map fun c => .str ⟨#[c]⟩ else none
    | _ => none
  | a => match S.seq a with
    | some xs => match b with
      | .int i => atI xs i
      | _ => none
    | none => match S.dict a with
      | some d => (d.look b).bind id
      | none => none
def partF : T → Option (Option Int)
  | .non => some none
  | .int i => some (some i)
  | _ => none
def cutT (xs : List T) (lo hi : Option Int) : List T := (xs.drop (HT.sIx xs.length 0 lo)).take (HT.sIx xs.length xs.length hi - HT.sIx xs.length 0 lo)
def slF (a : T) (lo hi : Option Int) (S : Sto) : Option Raw := match a with
  | .tup xs => some (.val (.tup (cutT xs lo hi)))
  | .str z => if z.length ≤ LIM then some (.val (.str (L2.cutS z lo hi))) else none
  | a => match S.seq a with
    | some xs => some (.fresh (cutT xs lo hi))
    | none => none
def revF (a : T) (S : Sto) : Option Raw := match a with
  | .tup xs => some (.val (.tup xs.reverse))
  | a => match S.seq a with
    | some xs => some (.fresh xs.reverse)
    | none => none
def putD {κ α : Type} [DecidableEq κ] (kvs : List (κ × α)) (k : κ) (v : α) : List (κ × α) :=
  if (kvs.any fun kv => decide (kv.1 = k)) = true then kvs.map (fun kv => if kv.1 = k then (kv.1, v) else kv) else kvs ++ [(k, v)]
def dropD {κ α : Type} [DecidableEq κ] (kvs : List (κ × α)) (k : κ) : List (κ × α) := kvs.filter fun kv => decide (kv.1 ≠ k)
def idxI (k : Int) : List Int → Option Nat
  | [] => none
  | n :: r => if n = k then some 0 else (idxI k r).map (· + 1)
def ded : List Int → List Int
  | [] => []
  | x :: r => if x ∈ r then ded r else x :: ded r
def dedG {α : Type} [DecidableEq α] : List α → List α
  | [] => []
  | x :: r => if x ∈ r then dedG r else x :: dedG r
def lenSetF : T → Option Int
  | .tup xs => match T.ints xs with
    | some ns => if ns.length ≤ 1000 then some ((ded ns).length : Nat) else none
    | none => none
  | .lst xs => match T.tupIs xs with
    | some l => if l.length < 64 then some ((dedG l).length : Nat) else none
    | none => none
  | _ => none
def mtTy : Mt → T → Sto → Bool
  | .index, x, S => (S.lseq x).isSome
  | .popT, x, S => match x with
    | .ref i => match S[i]? with
      | some (.dT _) => true
      | _ => false
    | _ => false
  | _, x, S => match x with
    | .ref i => match S[i]? with
      | some (.lst _) => true
      | _ => false
    | _ => false
def mtF : Mt → T → List T → Sto → Option (T × Sto)
  | .append, .ref i, [t], S => match S[i]? with
    | some (.lst xs) => if xs.length < LIM then some (.non, S.set i (.lst (xs ++ [t]))) else none
    | _ => none
  | .extend, .ref i, [t], S => match S[i]? with
    | some (.lst xs) => match S.items t with
      | some ys => if xs.length + ys.length ≤ LIM then some (.non, S.set i (.lst (xs ++ ys))) else none
      | none => none
    | _ => none
  | .pop0, .ref i, [], S => match S[i]? with
    | some (.lst xs) => match xs[xs.length - 1]? with
      | some t => some (t, S.set i (.lst xs.dropLast))
      | none => none
    | _ => none
  | .popT, .ref i, [k, d], S => match S[i]? with
    | some (.dT kvs) => match T.keyT k with
      | some ks => match lookK kvs ks with
        | some t => some (t, S.set i (.dT (dropD kvs ks)))
        | none => some (d, S)
      | none => none
    | _ => none
  | .index, x, [.int k], S => match S.lseq x with
    | some ts => match T.ints ts with
      | some ns => match idxI k ns with
        | some j => some (.int (j : Nat), S)
        | none => none
      | none => none
    | none => none
  | .insert, .ref i, [.int k, t], S => match S[i]? with
    | some (.lst xs) => if xs.length < LIM ∧ 0 ≤ k ∧ k < 2 ^ 63 then some (.non, S.set i (.lst (xs.take k.toNat ++ [t] ++ xs.drop k.toNat))) else none
    | _ => none
  | .popI, .ref i, [.int k], S => match S[i]? with
    | some (.lst xs) => if 0 ≤ k ∧ k < xs.length ∧ k < 2 ^ 63 then (match xs[k.toNat]? with
      | some t => some (t, S.set i (.lst (xs.eraseIdx k.toNat)))
      | none => none) else none
    | _ => none
  | _, _, _, _ => none
def putI (v a b : T) (S : Sto) : Option Sto := match a with
  | .ref i => match S[i]? with
    | some (.lst xs) => match b with
      | .int k => match ixN xs.length k with
        | some j => some (S.set i (.lst (xs.set j v)))
        | none => none
      | _ => none
    | some (.dK kvs) => match T.key b with
      | some k => if kvs.length < LIM then some (S.set i (.dK (putD kvs k v))) else none
      | none => none
    | some (.dT kvs) => match T.keyT b with
      | some k => if kvs.length < LIM then some (S.set i (.dT (putD kvs k v))) else none
      | none => none
    | none => none
  | _ => none
def E.isNop : E → Bool
  | .nop => true
  | _ => false
def partE (nop : Bool) (f : SE) : SE := if nop then fun _ S => some (.ok .non, S) else bindE f fun t => match t with
  | .int i => fun _ S => some (.ok (.int i), S)
  | _ => fun _ _ => none
def retE (t : T) : SE := fun _ S => some (.ok t, S)
def noneE : SE := fun _ _ => none
def boolE (o : Option Bool) : SE := match o with
  | some b => retE (.bl b)
  | none => noneE
def condE (nop : Bool) (f : SE) : SE := if nop then retE (.bl true) else f
def asgTup : List Nat → List T → Lo → Option Lo
  | [], [], l => some l
  | i :: is, t :: ts, l => asgTup is ts (l.set i (some t))
  | _, _, _ => none
def asgTg : Tg → T → Lo → Option Lo
  | .name i, t, l => some (l.set i (some t))
  | .tup is, .tup ts, l => asgTup is ts l
  | .tup _, _, _ => none
def enumT : Nat → List T → List T
  | _, [] => []
  | k, t :: r => .tup [.int k, t] :: enumT (k + 1) r
def zipT : List T → List T → List T
  | t :: r, u :: q => .tup [t, u] :: zipT r q
  | _, _ => []
def srcItems (d : T) (S : Sto) : Option (List T) := match d with
  | .tup [.int _, x] => S.seq x
  | .tup [.non, .lst xs] => some xs
  | .tup [.bl _, x] => (S.seq x).map (enumT 0)
  | .tup [.bl _, x, y] => match S.seq x, S.seq y with
    | some xs, some ys => some (zipT xs ys)
    | _, _ => none
  | _ => none
def isRefT : T → Bool
  | .ref _ => true
  | _ => false
def srcRef : T → Bool
  | .tup [.int _, x] => isRefT x
  | .tup [.bl _, x] => isRefT x
  | .tup [.bl _, x, y] => isRefT x || isRefT y
  | _ => false
def okSrc (d : T) (items : List T) (S : Sto) : Bool := if srcRef d then (match srcItems d S with
  | some ys => T.sames ys items
  | none => false) else true
def compL (tg : Tg) (cond : SE) (elt : SE) (src : T) (items : List T) (l0 : Lo) : List T → Sto → Option (List T × Sto)
  | [], S => if okSrc src items S then some ([], S) else none
  | t :: r, S => if okSrc src items S then
      match asgTg tg t l0 with
      | none => none
      | some l1 => match cond l1 S with
        | some (.ok (.bl true), S1) => match elt l1 S1 with
          | some (.ok v, S2) => match compL tg cond elt src items l0 r S2 with
            | some (vs, S3) => some (v :: vs, S3)
            | none => none
          | _ => none
        | some (.ok (.bl false), S1) => compL tg cond elt src items l0 r S1
        | _ => none
    else none
def compE (nw : Bool) (own : List Nat) (tg : Tg) (it cond elt : SE) : SE := fun l S => match it l S with
  | some (.ok src, S1) => match srcItems src S1 with
    | some items => if items.length ≤ LIM then
        match compL tg cond elt src items (wipeL l own) items S1 with
        | some (vs, S2) => outR nw (some (.fresh vs)) l S2
        | none => none
      else none
    | none => none
  | some (.err x, S1) => some (.err x, S1)
  | none => none
def intRange (lo hi : Int) : List T := (List.range (hi - lo).toNat).map fun i => .int (lo + (i : Nat))
def rngBounds : List T → Option (Int × Int)
  | [.int j] => some (0, j)
  | [.int i, .int j] => some (i, j)
  | _ => none
def rngF (ts : List T) : Option (List T) := match ts with
  | [.int i, .int j, .int c] => if c = -1 ∧ -(2 ^ 62) ≤ i ∧ i < 2 ^ 62 ∧ -(2 ^ 62) ≤ j ∧ j < 2 ^ 62 then some ((List.range (i - j).toNat).map fun k => .int (i - (k : Nat))) else none
  | ts => match rngBounds ts with
    | some (lo, hi) => if -(2 ^ 62) ≤ lo ∧ lo < 2 ^ 62 ∧ -(2 ^ 62) ≤ hi ∧ hi < 2 ^ 62 then some (intRange lo hi) else none
    | none => none
def argsE (f : SE) (g : List T → SE) : SE := bindE f fun t => match t with
  | .lst ts => g ts
  | _ => noneE
def callE (keep : Bool) (F : FnS) (ts : List T) : SE := fun _ S => if keep then F ts S else frzR S.length (F ts S)
def pickF (a : Addr) : List (Addr × Str × FnS) → Option FnS
  | [] => none
  | p :: r => if p.1 = a then some p.2.2 else pickF a r
def pickT (tbl : List (Addr × Str × FnS)) : T → Option FnS
  | .fn a => pickF a tbl
  | _ => none
def ssetF (t : T) (S : Sto) : Option Raw := match (S.lseq t).bind T.ints with
  | some ns => if ns.length < 60 then some (.fresh ((sortI (ded ns)).map .int)) else none
  | none => none
def orF (f g : SE) : SE := fun l S => match f l S with
  | some (.ok (.int i), S1) => if i = 0 then (match g l S1 with
    | some (.ok (.int j), S2) => some (.ok (.int j), S2)
    | _ => none) else some (.ok (.int i), S1)
  | some (.ok .non, S1) => (match g l S1 with
    | some (.ok (.int j), S2) => some (.ok (.int j), S2)
    | _ => none)
  | _ => none
def chT (z : Str) : List T := z.cps.toList.map fun c => .str ⟨#[c]⟩
def T.strs : List T → Option (List Str)
  | [] => some []
  | .str x :: r => (T.strs r).map (x :: ·)
  | _ :: _ => none
def joinF (a : Str) (y : T) (S : Sto) : Option Str := match (S.seq y).bind T.strs with
  | some ys => if (ys.map (·.length)).sum + ys.length * a.length ≤ LIM then some (Txt.join a ys) else none
  | none => none
def strE (f : SE) (g : Str → SE) : SE := bindE f fun t => match t with
  | .str z => g z
  | _ => noneE
def strO (o : Option Str) : SE := match o with
  | some z => retE (.str z)
  | none => noneE
def replE (f : SE) (y z : Str) : SE := strE f fun a => if a.length + (a.length + 1) * z.length ≤ 16777216 then retE (.str (Txt.replace a y z)) else noneE
def ev : E → SE
  | .var i => fun l S => match l[i]? with
    | some (some t) => some (.ok t, S)
    | _ => none
  | .gc _ t => retE t
  | .int i => retE (.int i)
  | .str s => retE (.str s)
  | .bl b => retE (.bl b)
  | .non => retE .non
  | .bin nw op a b => binE nw (binF op) (ev a) (ev b)
  | .neg a => bindE (ev a) fun t => match t with
    | .int i => retE (.int (-i))
    | _ => noneE
  | .not a => bindE (ev a) fun t => match t with
    | .bl b => retE (.bl (!b))
    | _ => noneE
  | .cmp op a b => binE false (cmpF op) (ev a) (ev b)
  | .chain p q a b c => bindE (ev a) fun x => bindE (ev b) fun y => fun l S => match cmpB p x y S with
    | some true => bindE (ev c) (fun z => fun l S => outR false (cmpF q y z S) l S) l S
    | some false => some (.ok (.bl false), S)
    | none => none
  | .inr ng a args => bindE (ev a) fun x => argsE (ev args) fun ts => match x, rngBounds ts with
    | .int i, some (lo, hi) => if -(2 ^ 62) ≤ lo ∧ lo < 2 ^ 62 ∧ -(2 ^ 62) ≤ hi ∧ hi < 2 ^ 62 then retE (.bl (if ng then !decide (lo ≤ i ∧ i < hi) else decide (lo ≤ i ∧ i < hi))) else noneE
    | _, _ => noneE
  | .inrO ng a args => bindE (ev a) fun x => argsE (ev args) fun ts => match x, rngBounds ts with
    | .int i, some (lo, hi) => if -(2 ^ 62) ≤ lo ∧ lo < 2 ^ 62 ∧ -(2 ^ 62) ≤ hi ∧ hi < 2 ^ 62 then retE (.bl (if ng then !decide (lo ≤ i ∧ i < hi) else decide (lo ≤ i ∧ i < hi))) else noneE
    | .non, some (lo, hi) => if -(2 ^ 62) ≤ lo ∧ lo < 2 ^ 62 ∧ -(2 ^ 62) ≤ hi ∧ hi < 2 ^ 62 then retE (.bl ng) else noneE
    | _, _ => noneE
  | .consR s a b o y z t => bindE (retE (.str s)) fun x0 => argsE (bindE (ev a) fun x1 => argsE (bindE (ev b) fun x2 => argsE (bindE (replE (ev o) y z) fun x3 => argsE (ev t) fun ts => retE (.lst (x3 :: ts))) fun ts => retE (.lst (x2 :: ts))) fun ts => retE (.lst (x1 :: ts))) fun ts => retE (.lst (x0 :: ts))
  | .and a b => bindE (ev a) fun t => match t with
    | .bl true => ev b
    | .bl false => retE (.bl false)
    | _ => noneE
  | .or a b => bindE (ev a) fun t => match t with
    | .bl true => retE (.bl true)
    | .bl false => ev b
    | _ => noneE
  | .one a => ev a
  | .ite c a b => bindE (ev c) fun t => match t with
    | .bl true => ev a
    | .bl false => ev b
    | _ => noneE
  | .nil => retE (.lst [])
  | .cons a r => bindE (ev a) fun x => argsE (ev r) fun ts => retE (.lst (x :: ts))
  | .consV a b r => bindE (orF (ev a) (ev b)) fun x => argsE (ev r) fun ts => retE (.lst (x :: ts))
  | .tup args => argsE (ev args) fun ts => if ts.length ≤ LIM then retE (.tup ts) else noneE
  | .lst nw args => argsE (ev args) fun ts => fun l S => if ts.length ≤ LIM then outR nw (some (.fresh ts)) l S else none
  | .dnew t nw => fun _ S => if t then (if nw then some (.ok (.ref S.length), S ++ [.dT []]) else some (.ok (.dT []), S)) else (if nw then some (.ok (.ref S.length), S ++ [.dK []]) else some (.ok (.dK []), S))
  | .idx a b => bindE (ev a) fun x => bindE (ev b) fun y => fun l S => match idxF x y S with
    | some t => some (.ok t, S)
    | none => none
  | .sl nw a lo hi => bindE (ev a) fun x => bindE (partE lo.isNop (ev lo)) fun i => bindE (partE hi.isNop (ev hi)) fun j => fun l S => match partF i, partF j with
    | some i, some j => outR nw (slF x i j S) l S
    | _, _ => none
  | .rev nw a => bindE (ev a) fun x => fun l S => outR nw (revF x S) l S
  | .nop => retE .non
  | .call keep _ F args => argsE (ev args) fun ts => callE keep F ts
  | .callV keep tbl fe args => bindE (ev fe) fun t => match pickT tbl t with
    | some F => argsE (ev args) fun ts => callE keep F ts
    | none => noneE
  | .sset nw a => bindE (ev a) fun x => fun l S => outR nw (ssetF x S) l S
  | .dlit k v => fun l S => match ev k l S with
    | some (.ok x, S1) => match ev v l S1 with
      | some (.ok y, S2) => match T.key x with
        | some q => some (.ok (.ref S2.length), S2 ++ [.dK [(q, y)]])
        | none => none
      | _ => none
    | _ => none
  | .trng a => bindE (ev a) fun x => match x with
    | .int n => if -1000000 ≤ n ∧ n ≤ 1000000 then retE (.tup (intRange 0 n)) else noneE
    | _ => noneE
  | .dget o k => bindE (ev o) fun x => fun l S => if (S.dict x).isSome then bindE (ev k) (fun y => fun _ S => match S.dict x with
    | some d => match d.look y with
      | some o => some (.ok (o.getD .non), S)
      | none => none
    | none => none) l S else none
  | .bi nw b args => argsE (ev args) fun ts => fun l S => outR nw (biF b ts S) l S
  | .isi a ty => bindE (ev a) fun x => fun l S => boolE (isiF ty x S) l S
  | .comp nw own tg it cond elt => compE nw (own.map (·.2)) tg (ev it) (condE cond.isNop (ev cond)) (ev elt)
  | .lenset a => bindE (ev a) fun x => match lenSetF x with
    | some i => retE (.int i)
    | none => noneE
  | .seq a => bindE (ev a) fun x => retE (.tup [.int 0, x])
  | .rng args => argsE (ev args) fun ts => match rngF ts with
    | some xs => retE (.tup [.non, .lst xs])
    | none => noneE
  | .enum a => bindE (ev a) fun x => retE (.tup [.bl false, x])
  | .zip a b => bindE (ev a) fun x => bindE (ev b) fun y => retE (.tup [.bl true, x, y])
  | .meth m o args => bindE (ev o) fun x => fun l S => if mtTy m x S then argsE (ev args) (fun ts => fun _ S => match mtF m x ts S with
    | some (t, S') => some (.ok t, S')
    | none => none) l S else none
  | .sseq a => strE (ev a) fun z => if z.length ≤ LIM then retE (.tup [.non, .lst (chT z)]) else noneE
  | .join o a => strE (ev o) fun z => bindE (ev a) fun y => fun l S => strO (joinF z y S) l S
  | .split o a => strE (ev o) fun z => strE (ev a) fun b => if (b.length == 0) = false ∧ z.length ≤ LIM then retE (.lst ((Txt.split z b).map .str)) else noneE
  | .low o => strE (ev o) fun z => if z.length ≤ LIM then retE (.str (Txt.lower z)) else noneE
  | .upp o => strE (ev o) fun z => if z.length ≤ LIM then retE (.str (Txt.upper z)) else noneE
def notStar : Expr → Bool
  | .Starred .. => false
  | _ => true
def notComp : Expr → Bool
  | .ListComp .. => false
  | .SetComp .. => false
  | .DictComp .. => false
  | _ => true
theorem star_cons {e : Expr} {es : List Expr} {env : Env} (h : notStar e = true) : starEach (e :: es) env = (false, eval e env) :: starEach es env := by
  cases e <;> first | rfl | cases h
theorem star_none {env : Env} {pos : Pos} : ∀ {es : List Expr}, es.all notStar = true → (backTo pos (starEach es env)).any (·.1) = false := by
  have base : ∀ {es : List Expr}, es.all notStar = true → ∀ x ∈ starEach es env, x.1 = false := by
    intro es
    induction es with
    | nil => intro _ x hx; cases hx
    | cons e es ih =>
      intro h x hx
      simp only [List.all_cons, Bool.and_eq_true] at h
      rw [star_cons h.1] at hx
      rcases List.mem_cons.mp hx with rfl | hx
      · rfl
      · exact ih h.2 x hx
  intro es h
  rw [List.any_eq_false]
  intro x hx
  have hm : ∃ y ∈ starEach es env, y.1 = x.1 := by
    unfold backTo at hx
    rw [List.mem_map] at hx
    obtain ⟨y, hy, rfl⟩ := hx
    exact ⟨y, hy, rfl⟩
  obtain ⟨y, hy, e⟩ := hm
  rw [← e, base h y hy]
  simp
section
variable (K : PySem.W.Frag) (XR : XRel) (W : WX)
def PostA (Z : Addr → Prop) (ι : Nat → Addr) (n : Nat) (H : Hp) (σ : L2.St) (Q : List V → Hp → Prop) : Option (Res × Sto) → Prop
  | some (.ok (.lst ts), S') => ∀ ι' H' vs, Step ι n H ι' S'.length H' → Rel K Z ι' S' H' → IsAll K Z H' ι' S'.length vs ts → Q vs H'
  | some (.err x, S') => ∀ ι' H' cls d, Step ι n H ι' S'.length H' → Rel K Z ι' S' H' → XR Z x cls d H' ι' S'.length → W cls d σ H'
  | _ => False
def liftA (f : SE) : TA := fun σ H Q => ∃ (Z : Addr → Prop) (ι : Nat → Addr) (S : Sto) (l : Lo), Rel K Z ι S H ∧ Sl K Z H ι S.length σ l ∧ PostA K XR W Z ι S.length H σ Q (f l S)
end
section
variable {K : PySem.W.Frag} {XR : XRel} {W : WX} {Z : Addr → Prop}
theorem PostA.of_step {ι ι1 : Nat → Addr} {n n1 : Nat} {H H1 : Hp} {σ : L2.St} {Q : List V → Hp → Prop} (s : Step ι n H ι1 n1 H1) : ∀ {o : Option (Res × Sto)}, PostA K XR W Z ι n H σ Q o → PostA K XR W Z ι1 n1 H1 σ Q o
  | none, h => h
  | some (.ok (.lst ts), S'), h => fun ι' H' v st R i => h ι' H' v (s.trans st) R i
  | some (.err x, S'), h => fun ι' H' cls d st R i => h ι' H' cls d (s.trans st) R i
  | some (.ok .non, S'), h => h
  | some (.ok (.bl _), S'), h => h
  | some (.ok (.int _), S'), h => h
  | some (.ok (.str _), S'), h => h
  | some (.ok (.fn _), S'), h => h
  | some (.ok (.tup _), S'), h => h
  | some (.ok (.dK _), S'), h => h
  | some (.ok (.dT _), S'), h => h
  | some (.ok (.ref _), S'), h => h
  | some (.ok (.scr _), S'), h => h
theorem args_bind {xs : List V} {f : SE} {g : List T → List T → SE} {σ : L2.St} {H : Hp} {Q : VK} (h : liftK K XR W xs (fun ts => argsE f (g ts)) σ H Q) :
    liftA K XR W f σ H (fun vs H1 => ∃ (n : Nat), n = vs.length ∧ liftK K XR W (vs ++ xs) (fun ts => g (ts.drop n) (ts.take n)) σ H1 Q) := by
  obtain ⟨Z, ι, S, l, ts, R, sl, ia, p⟩ := h
  refine ⟨Z, ι, S, l, R, sl, ?_⟩
  simp only [argsE, bindE] at p
  cases e : f l S with
  | none => rw [e] at p; exact p
  | some r =>
    obtain ⟨r, S'⟩ := r
    rw [e] at p
    cases r with
    | err x => exact p
    | ok t =>
      cases t with
      | lst us =>
        intro ι' H' vs st R' i
        refine ⟨_, rfl, Z, ι', S', l, us ++ ts, R', Sl.step R st sl, i.append (IsAll.step R st ia), ?_⟩
        have e1 : (us ++ ts).drop vs.length = ts := by rw [i.length]; simp
        have e2 : (us ++ ts).take vs.length = us := by rw [i.length]; simp
        show Post K XR W Z ι' S'.length H' σ Q (g _ _ l S')
        rw [e1, e2]
        exact p.of_step st
      | _ => exact p.elim
theorem args_bind0 {f : SE} {g : List T → SE} {σ : L2.St} {H : Hp} {Q : VK} (h : liftE K XR W (argsE f g) σ H Q) :
    liftA K XR W f σ H (fun vs H1 => liftK K XR W vs g σ H1 Q) := by
  obtain ⟨Z, ι, S, l, ts, R, sl, ia, p⟩ := h
  refine ⟨Z, ι, S, l, R, sl, ?_⟩
  simp only [argsE, bindE] at p
  cases e : f l S with
  | none => rw [e] at p; exact p
  | some r =>
    obtain ⟨r, S'⟩ := r
    rw [e] at p
    cases r with
    | err x => exact p
    | ok t =>
      cases t with
      | lst us =>
        intro ι' H' vs st R' i
        exact ⟨Z, ι', S', l, us, R', Sl.step R st sl, i, p.of_step st⟩
      | _ => exact p.elim
theorem args_bindN {f : SE} {g : List T → SE} {σ : L2.St} {H : Hp} {Q : VK} {n : Nat} (hl : ∀ l S ts S', f l S = some (.ok (.lst ts), S') → ts.length = n) (h : liftE K XR W (argsE f g) σ H Q) :
    liftA K XR W f σ H (fun vs H1 => vs.length = n ∧ liftK K XR W vs g σ H1 Q) := by
  obtain ⟨Z, ι, S, l, ts, R, sl, ia, p⟩ := h
  refine ⟨Z, ι, S, l, R, sl, ?_⟩
  simp only [argsE, bindE] at p
  cases e : f l S with
  | none => rw [e] at p; exact p
  | some r =>
    obtain ⟨r, S'⟩ := r
    rw [e] at p
    cases r with
    | err x => exact p
    | ok t =>
      cases t with
      | lst us =>
        intro ι' H' vs st R' i
        exact ⟨by rw [i.length]; exact hl _ _ _ _ e, Z, ι', S', l, us, R', Sl.step R st sl, i, p.of_step st⟩
      | _ => exact p.elim
theorem liftA_mono {f : SE} {σ : L2.St} {H : Hp} {Q Q' : List V → Hp → Prop} (hq : ∀ v H, Q v H → Q' v H) (h : liftA K XR W f σ H Q) : liftA K XR W f σ H Q' := by
  obtain ⟨Z, ι, S, l, R, sl, p⟩ := h
  refine ⟨Z, ι, S, l, R, sl, ?_⟩
  cases e : f l S with
  | none => rw [e] at p; exact p
  | some r =>
    obtain ⟨r, S'⟩ := r
    rw [e] at p
    cases r with
    | err x => exact p
    | ok t =>
      cases t with
      | lst us => exact fun ι' H' vs st R' i => hq _ _ (p ι' H' vs st R' i)
      | _ => exact p.elim
theorem liftA_nil {σ : L2.St} {H : Hp} {Q : List V → Hp → Prop} (h : liftA K XR W (retE (.lst [])) σ H Q) : tNil σ H Q := by
  obtain ⟨Z, ι, S, l, R, sl, p⟩ := h
  exact p ι H [] Step.refl R .nil
theorem liftA_cons {fa fr : SE} {σ : L2.St} {H : Hp} {Q : List V → Hp → Prop} (h : liftA K XR W (bindE fa fun x => argsE fr fun ts => retE (.lst (x :: ts))) σ H Q) : tCons (liftE K XR W fa) (liftA K XR W fr) σ H Q := by
  obtain ⟨Z, ι, S, l, R, sl, p⟩ := h
  refine ⟨Z, ι, S, l, [], R, sl, .nil, ?_⟩
  simp only [bindE] at p
  show Post K XR W Z ι S.length H σ _ (fa l S)
  cases e : fa l S with
  | none => rw [e] at p; exact p
  | some r =>
    obtain ⟨r, S'⟩ := r
    rw [e] at p
    cases r with
    | err x => exact p
    | ok t =>
      intro ι' H' v st R' i
      refine ⟨Z, ι', S', l, R', Sl.step R st sl, ?_⟩
      simp only [argsE, bindE] at p
      cases e2 : fr l S' with
      | none => rw [e2] at p; exact p
      | some r2 =>
        obtain ⟨r2, S2⟩ := r2
        rw [e2] at p
        cases r2 with
        | err x => exact PostA.of_step st p
        | ok t2 =>
          cases t2 with
          | lst us =>
            intro ι2 H2 vs st2 R2 i2
            exact p ι2 H2 (v :: vs) (st.trans st2) R2 (.cons (Is.step R' st2 i) i2)
          | _ => exact p.elim
theorem tup_lift {f : SE} {σ : L2.St} {H : Hp} {Q : VK} (h : liftE K XR W (argsE f fun ts => if ts.length ≤ LIM then retE (.tup ts) else noneE) σ H Q) : tTup (liftA K XR W f) σ H Q := by
  refine liftA_mono (fun vs H1 h1 => ?_) (args_bind0 h)
  obtain ⟨Z, ι, S, l, ts, R, sl, ia, p⟩ := h1
  dsimp only at p
  by_cases hl : ts.length ≤ LIM
  · rw [if_pos hl] at p
    refine ⟨by rw [ia.length]; exact Nat.le_trans hl LIM_le, fun a ha => ?_⟩
    exact p ι _ _ (Step.fresh ha) (R.fresh ha) (.tup upd_same (ia.fresh R ha))
  · rw [if_neg hl] at p
    exact p.elim
theorem lst_lift {nw : Bool} {f : SE} {σ : L2.St} {H : Hp} {Q : VK} (h : liftE K XR W (argsE f fun ts => fun l S => if ts.length ≤ LIM then outR nw (some (.fresh ts)) l S else none) σ H Q) : tLst (liftA K XR W f) σ H Q := by
  refine liftA_mono (fun vs H1 h1 => ?_) (args_bind0 h)
  obtain ⟨Z, ι, S, l, ts, R, sl, ia, p⟩ := h1
  dsimp only at p
  by_cases hl : ts.length ≤ LIM
  · rw [if_pos hl] at p
    obtain ⟨r, e, ok⟩ := out_ok R p
    cases e
    exact ⟨by rw [ia.length]; exact Nat.le_trans hl LIM_le, fun a ha => ok _ a ia ha⟩
  · rw [if_neg hl] at p
    exact p.elim
section
variable {H : Hp} {ι : Nat → Addr} {n lo : Nat}
mutual
theorem und_ok (hl : lo ≤ n) : ∀ {v : V} {t : T}, Is K Z H ι n v t → T.und lo t = true → Is K Z H ι lo v t
  | _, _, .non, _ => .non
  | _, _, .bl b, _ => .bl b
  | _, _, .int i, _ => .int i
  | _, _, .str x, _ => .str x
  | _, _, .fn a, _ => .fn a
  | _, _, .tup h hs, e => .tup h (unds_ok hl hs (by simpa [T.und] using e))
  | _, _, .lst h hn z hs, e => .lst h (fun i hi => hn i (Nat.lt_of_lt_of_le hi hl)) z (unds_ok hl hs (by simpa [T.und] using e))
  | _, _, .scrK h, _ => .scrK h
  | _, _, .scr h hn z, _ => .scr h (fun i hi => hn i (Nat.lt_of_lt_of_le hi hl)) z
  | _, _, .dK h hn z hk hs, e => .dK h (fun i hi => hn i (Nat.lt_of_lt_of_le hi hl)) z hk (undK_ok hl (by simpa using hk) hs (by simpa [T.und] using e))
  | _, _, .dT h hn z hk hs, e => .dT h (fun i hi => hn i (Nat.lt_of_lt_of_le hi hl)) z hk (undT_ok hl (by simpa using hk) hs (by simpa [T.und] using e))
  | _, _, .ref hi, e => .ref (by simpa [T.und] using e)
theorem unds_ok (hl : lo ≤ n) : ∀ {vs : List V} {ts : List T}, IsAll K Z H ι n vs ts → T.unds lo ts = true → IsAll K Z H ι lo vs ts
  | _, _, .nil, _ => .nil
  | _, _, .cons h hs, e => by
    simp only [T.unds, Bool.and_eq_true] at e
    exact .cons (und_ok hl h e.1) (unds_ok hl hs e.2)
theorem undK_ok (hl : lo ≤ n) : ∀ {ks : List Key} {vs : List V} {ts : List T}, ks.length = vs.length → IsAll K Z H ι n vs ts → T.undK lo (ks.zip ts) = true → IsAll K Z H ι lo vs ts
  | _, _, _, _, .nil, _ => .nil
  | [], _, _, hk, .cons h hs, e => by simp at hk
  | k :: ks, _, _, hk, .cons h hs, e => by
    simp only [List.zip_cons_cons, T.undK, Bool.and_eq_true] at e
    exact .cons (und_ok hl h e.1) (undK_ok hl (by simpa using hk) hs e.2)
theorem undT_ok (hl : lo ≤ n) : ∀ {ks : List (List Key)} {vs : List V} {ts : List T}, ks.length = vs.length → IsAll K Z H ι n vs ts → T.undT lo (ks.zip ts) = true → IsAll K Z H ι lo vs ts
  | _, _, _, _, .nil, _ => .nil
  | [], _, _, hk, .cons h hs, e => by simp at hk
  | k :: ks, _, _, hk, .cons h hs, e => by
    simp only [List.zip_cons_cons, T.undT, Bool.and_eq_true] at e
    exact .cons (und_ok hl h e.1) (undT_ok hl (by simpa using hk) hs e.2)
end
mutual
theorem frzW_ok (hl : lo ≤ n) {f : Nat → Option T} (hf : ∀ i u, lo ≤ i → i < n → f i = some u → Is K Z H ι lo (.ref (ι i)) u) : ∀ {v : V} {t u : T}, Is K Z H ι n v t → T.frzW lo f t = some u → Is K Z H ι lo v u
  | _, _, _, .non, e => by cases e; exact .non
  | _, _, _, .bl b, e => by cases e; exact .bl b
  | _, _, _, .int i, e => by cases e; exact .int i
  | _, _, _, .str x, e => by cases e; exact .str x
  | _, _, _, .fn x, e => by cases e; exact .fn x
  | _, _, _, .tup (ts := ts) h hs, e => by
    simp only [T.frzW] at e
    cases q : T.frzWs lo f ts with
    | none => rw [q] at e; cases e
    | some us =>
      rw [q] at e
      cases e
      exact .tup h (frzWs_ok hl hf hs q)
  | _, _, _, .lst (ts := ts) h hn z hs, e => by
    simp only [T.frzW] at e
    cases q : T.frzWs lo f ts with
    | none => rw [q] at e; cases e
    | some us =>
      rw [q] at e
      cases e
      exact .lst h (fun i hi => hn i (Nat.lt_of_lt_of_le hi hl)) z (frzWs_ok hl hf hs q)
  | _, _, _, .scrK h, e => by cases e; exact .scrK h
  | _, _, _, .scr h hn z, e => by cases e; exact .scr h (fun i hi => hn i (Nat.lt_of_lt_of_le hi hl)) z
  | _, _, _, .dK h hn z hk hs, e => by
    simp only [T.frzW] at e
    split at e
    · rename_i q
      cases e
      exact .dK h (fun i hi => hn i (Nat.lt_of_lt_of_le hi hl)) z hk (undK_ok hl hk hs q)
    · cases e
  | _, _, _, .dT h hn z hk hs, e => by
    simp only [T.frzW] at e
    split at e
    · rename_i q
      cases e
      exact .dT h (fun i hi => hn i (Nat.lt_of_lt_of_le hi hl)) z hk (undT_ok hl hk hs q)
    · cases e
  | _, _, _, .ref (i := i) hi, e => by
    simp only [T.frzW] at e
    split at e
    · rename_i q
      cases e
      exact .ref q
    · rename_i q
      exact hf i _ (Nat.le_of_not_lt q) hi e
theorem frzWs_ok (hl : lo ≤ n) {f : Nat → Option T} (hf : ∀ i u, lo ≤ i → i < n → f i = some u → Is K Z H ι lo (.ref (ι i)) u) : ∀ {vs : List V} {ts us : List T}, IsAll K Z H ι n vs ts → T.frzWs lo f ts = some us → IsAll K Z H ι lo vs us
  | _, _, _, .nil, e => by cases e; exact .nil
  | _, _, _, .cons (t := t) (ts := ts) h hs, e => by
    simp only [T.frzWs] at e
    cases q : T.frzW lo f t with
    | none => rw [q] at e; cases e
    | some u =>
      cases q2 : T.frzWs lo f ts with
      | none => rw [q, q2] at e; cases e
      | some us =>
        rw [q, q2] at e
        cases e
        exact .cons (frzW_ok hl hf h q) (frzWs_ok hl hf hs q2)
end
theorem frzI_ok {S : Sto} (R : Rel K Z ι S H) (hl : lo ≤ S.length) : ∀ (k i : Nat) (u : T), lo ≤ i → i < S.length → S.frzI lo k i = some u → Is K Z H ι lo (.ref (ι i)) u
  | 0, _, _, _, _, e => by cases e
  | k + 1, i, u, h1, h2, e => by
    have q : S[i]? = some S[i] := List.getElem?_eq_getElem h2
    have h := R.obj _ _ q
    have nr : ∀ j, j < lo → ι j ≠ ι i := fun j hj z => by
      have := R.inj j i (by omega) h2 z
      omega
    simp only [Sto.frzI, q] at e
    cases ho : S[i] with
    | lst xs =>
      rw [ho] at e h
      dsimp only at e
      cases q2 : T.frzWs lo (S.frzI lo k) xs with
      | none => rw [q2] at e; cases e
      | some us =>
        rw [q2] at e
        cases e
        cases h with
        | lst h hs => exact .lst h nr (R.nz i h2) (frzWs_ok hl (fun j u a b => frzI_ok R hl k j u a b) hs q2)
    | dK l =>
      rw [ho] at e h
      dsimp only at e
      split at e
      · rename_i q2
        cases e
        cases h with
        | dK h hk hs => exact .dK h nr (R.nz i h2) hk (undK_ok hl hk hs q2)
      · cases e
    | dT l =>
      rw [ho] at e h
      dsimp only at e
      split at e
      · rename_i q2
        cases e
        cases h with
        | dT h hk hs => exact .dT h nr (R.nz i h2) hk (undT_ok hl hk hs q2)
      · cases e
theorem Rel.take {S : Sto} (R : Rel K Z ι S H) (hl : lo ≤ S.length) (hu : (S.take lo).all (Ob.und lo) = true) : Rel K Z ι (S.take lo) H := by
  have hlen : (S.take lo).length = lo := by simp [Nat.min_eq_left hl]
  refine ⟨fun i j hi hj e => R.inj i j (by omega) (by omega) e, fun i o e => ?_, R.zt, fun i hi => R.nz i (by omega)⟩
  have hi : i < lo := by
    have := (List.getElem?_eq_some_iff.mp e).1
    omega
  have e' : S[i]? = some o := by rw [List.getElem?_take] at e; rw [if_pos hi] at e; exact e
  have ho : Ob.und lo o = true := by
    rw [List.all_eq_true] at hu
    exact hu o (List.mem_of_getElem? e)
  rw [hlen]
  cases R.obj i o e' with
  | lst h hs => exact .lst h (unds_ok hl hs (by simpa [Ob.und] using ho))
  | dK h hk hs => exact .dK h hk (undK_ok hl hk hs (by simpa [Ob.und] using ho))
  | dT h hk hs => exact .dT h hk (undT_ok hl hk hs (by simpa [Ob.und] using ho))
theorem Step.less {ι' : Nat → Addr} {n' : Nat} {H' : Hp} (s : Step ι lo H ι' n' H') : Step ι lo H ι' lo H' :=
  ⟨Nat.le_refl _, s.ext, fun i h1 h2 => absurd h2 (Nat.not_lt.mpr h1), s.keep, s.there⟩
end
structure Md where
  prog : Program
  w : World
  K : PySem.W.Frag
  mg : Str → Option Value
  base : Heap
def mdOf (X : Cx) : Md := ⟨X.prog, X.w, X.K, X.mg, X.base⟩
def XOk (K : PySem.W.Frag) (XR : XRel) : Prop := ∀ Z x cls d H ι n lo, lo ≤ n → x.fs.all (fun p => T.und lo p.2) = true → XR Z x cls d H ι n → XR Z x cls d H ι lo
def spT (K : PySem.W.Frag) (XR : XRel) (ar : Nat) (F : FnS) : Sp := fun vs H Q E => vs.length = ar ∧ ∃ (Z : Addr → Prop) (ι : Nat → Addr) (S : Sto) (ts : List T), Rel K Z ι S H ∧ IsAll K Z H ι S.length vs ts ∧
  match F ts S with
  | none => False
  | some (.ok t, S') => ∀ ι' H' v, Step ι S.length H ι' S'.length H' → Rel K Z ι' S' H' → Is K Z H' ι' S'.length v t → Q v H'
  | some (.err x, S') => ∀ ι' H' cls d, Step ι S.length H ι' S'.length H' → Rel K Z ι' S' H' → XR Z x cls d H' ι' S'.length → E cls d H'
def FnNeed (M : Md) (XR : XRel) (lv : Nat) (x : Str) (ar : Nat) (F : FnS) : Prop :=
  ∃ (f : Addr) (fd : FuncData) (ps : List Str) (k : Nat), k ≤ lv ∧ FnOk M.prog M.w M.K M.mg M.base (L2N.CX M.prog M.w) k f fd ps (spT M.K XR ar F) ∧ M.mg x = some (.ref f) ∧ PySem.W.keepIn M.K (.ref f) = true ∧ Binds M.K fd ps []
theorem call_post {keep : Bool} {F : FnS} {ts : List T} {ι : Nat → Addr} {S : Sto} {l : Lo} {H : Hp} {σ : L2.St} {Q : VK} {vs : List V} (xo : XOk K XR) (R : Rel K Z ι S H) (ia : IsAll K Z H ι S.length vs ts) (p : Post K XR W Z ι S.length H σ Q (callE keep F ts l S)) :
    spT K XR vs.length F vs H Q (WE W σ) := by
  refine ⟨rfl, Z, ι, S, ts, R, ia, ?_⟩
  simp only [callE] at p
  cases keep with
  | true =>
    simp only [if_true] at p
    cases e : F ts S with
    | none => rw [e] at p; exact p
    | some r =>
      obtain ⟨r, S'⟩ := r
      rw [e] at p
      cases r with
      | ok t => exact p
      | err x => exact p
  | false =>
    simp only [Bool.false_eq_true, if_false] at p
    cases e : F ts S with
    | none => rw [e] at p; exact p
    | some r =>
      obtain ⟨r, S'⟩ := r
      rw [e] at p
      cases r with
      | ok t =>
        intro ι' H' v st R' i
        simp only [frzR] at p
        split at p
        · rename_i hu
          cases q : T.frzW S.length (S'.frzI S.length 4) t with
          | none => rw [q] at p; exact p.elim
          | some u =>
            rw [q] at p
            have hl := st.le
            have hlen : (S'.take S.length).length = S.length := by simp [Nat.min_eq_left hl]
            exact p ι' H' v (by rw [hlen]; exact st.less) (R'.take hl hu) (by rw [hlen]; exact frzW_ok hl (fun j u a b => frzI_ok R' hl 4 j u a b) i q)
        · exact p.elim
      | err x =>
        intro ι' H' cls d st R' i
        simp only [frzR] at p
        split at p
        · rename_i hu
          rw [Bool.and_eq_true] at hu
          have hl := st.le
          have hlen : (S'.take S.length).length = S.length := by simp [Nat.min_eq_left hl]
          exact p ι' H' cls d (by rw [hlen]; exact st.less) (R'.take hl hu.1) (by rw [hlen]; exact xo _ _ _ _ _ _ _ _ hl hu.2 i)
        · exact p.elim
end
end TL
namespace PySem
open PySem.Spec
section
variable {prog : Program} {w : World} {A : Around} {E : Value → Shared → Prop} {s : Shared} {l : Addr} {xs : Array (Int × Tok)}
theorem iter_intTup {Q : Value → Shared → Prop} (hl : s.heap.IsTuple l (intItems xs))
    (h : ∀ s₂ : Shared, s₂ = { s with heap := s.heap.push { cls := .type "tuple_iterator", data := .fields #[.ref l, .int 0 0] } } →
      (s₂.heap.IsTupleIter s.heap.objs.size l 0 ∧ s₂.heap.IsTuple l (intItems xs)) → (∀ b ∈ [s.heap.objs.size, l], b < s₂.heap.objs.size) → l ≠ s.heap.objs.size → Q (.ref s.heap.objs.size) s₂) :
    wpAny (model prog w) A (pyIter (.ref l)) Q E s := by
  have hlt : l < s.heap.objs.size := by obtain ⟨_, e, _⟩ := hl; exact Heap.lt_size e
  refine wpAny_pyIter_tuple hl (h _ rfl ⟨⟨_, Heap.get?_push_size _ rfl, rfl, rfl⟩, hl.push _⟩ (fun b hb => ?_) (Nat.ne_of_lt hlt))
  show b < (s.heap.push _).objs.size
  rw [Heap.size_push]
  rcases List.mem_cons.mp hb with rfl | hb
  · exact Nat.lt_succ_self _
  · rcases List.mem_cons.mp hb with rfl | hb
    · exact Nat.lt_succ_of_lt hlt
    · cases hb
theorem old_keptT {h' : Heap} (hk : ∀ b o, b ∉ [s.heap.objs.size] → (s.heap.push { cls := .type "tuple_iterator", data := .fields #[.ref l, .int 0 0] }).get? b = some o → h'.get? b = some o) :
    ∀ b o, s.heap.get? b = some o → h'.get? b = some o := fun b o e => by
  refine hk b o (fun hm => ?_) (Heap.get?_push_of_some _ e)
  rcases List.mem_cons.mp hm with e1 | hm
  · exact absurd (e1 ▸ Heap.lt_size e) (Nat.lt_irrefl _)
  · cases hm
theorem min_intTup {Q : Value → Shared → Prop} (hh : A.handled = none) (hl : s.heap.IsTuple l (intItems xs)) (hne : 0 < xs.size)
    (h : ∀ v h' tk, (intItems xs)[argBest (fun i j => decide (numAt xs i < numAt xs j)) (xs.size - 1)]? = some v → (∀ b o, s.heap.get? b = some o → h'.get? b = some o) → Q v { s with heap := h', toks := tk }) :
    wpAny (model prog w) A (call (.builtin "min") [.ref l]) Q E s := by
  refine call_min_walk (iter_intTup hl fun s₂ e st hfp hlI => ?_)
  subst e
  refine ⟨_, _, _, _, _, _, _, rfl, Walks.tuple (A := A.in1) hh _ l hlI (intItems xs), st, hfp, by simpa [intItems] using hne, CmpOf.ints_lt (numAt xs) (fun _ _ => intItems_at), fun v h' tk hP hk => ?_⟩
  exact h v h' tk (by simpa [intItems] using hP) (old_keptT hk)
theorem max_intTup {Q : Value → Shared → Prop} (hh : A.handled = none) (hl : s.heap.IsTuple l (intItems xs)) (hne : 0 < xs.size)
    (h : ∀ v h' tk, (intItems xs)[argBest (fun i j => decide (numAt xs i > numAt xs j)) (xs.size - 1)]? = some v → (∀ b o, s.heap.get? b = some o → h'.get? b = some o) → Q v { s with heap := h', toks := tk }) :
    wpAny (model prog w) A (call (.builtin "max") [.ref l]) Q E s := by
  refine call_max_walk (iter_intTup hl fun s₂ e st hfp hlI => ?_)
  subst e
  refine ⟨_, _, _, _, _, _, _, rfl, Walks.tuple (A := A.in1) hh _ l hlI (intItems xs), st, hfp, by simpa [intItems] using hne, CmpOf.ints_gt (numAt xs) (fun _ _ => intItems_at), fun v h' tk hP hk => ?_⟩
  exact h v h' tk (by simpa [intItems] using hP) (old_keptT hk)
end
end PySem
namespace L2
open PySem PySem.Spec PyProof.Rows
section
variable {prog : Program} {w : World} {A : Around} {E : Value → Shared → Prop} {s : Shared} {l : Addr} {its : List Value} {ns : List Int} {Q : Value → Shared → Prop}
theorem min_rawT (hh : A.handled = none) (hl : s.heap.IsTuple l its.toArray) (hi : IntsAre its ns) (hne : 0 < ns.length)
    (h : ∀ h' tk M t', (∀ b o, s.heap.get? b = some o → h'.get? b = some o) → M ∈ ns → (∀ a, a ∈ ns → M ≤ a) → Q (.int M t') { s with heap := h', toks := tk }) : wpAny (model prog w) A (call (.builtin "min") [.ref l]) Q E s := by
  obtain ⟨xs, e⟩ := hi.allInts.items
  have hn : numsOf (intItems xs).toList = ns := by rw [← e]; exact hi.numsOf
  rw [nums_intItems] at hn
  subst hn
  rw [e] at hl
  have hsz : 0 < xs.size := by simpa using hne
  refine PySem.min_intTup hh hl hsz fun v h' tk hv hk => ?_
  obtain ⟨t, rfl⟩ := intItems_at hv
  obtain ⟨h1, h2⟩ := argBest_lt (numAt xs) (xs.size - 1)
  refine h h' tk _ t hk ?_ fun a ha => ?_
  · rw [numAt_eq]; exact PySem.getD_mem (by rw [List.length_map, Array.length_toList]; omega)
  · obtain ⟨j, hj, rfl⟩ := mem_getD ha
    rw [List.length_map, Array.length_toList] at hj
    rw [← numAt_eq]; exact h2 j (by omega)
theorem max_rawT (hh : A.handled = none) (hl : s.heap.IsTuple l its.toArray) (hi : IntsAre its ns) (hne : 0 < ns.length)
    (h : ∀ h' tk M t', (∀ b o, s.heap.get? b = some o → h'.get? b = some o) → M ∈ ns → (∀ a, a ∈ ns → a ≤ M) → Q (.int M t') { s with heap := h', toks := tk }) : wpAny (model prog w) A (call (.builtin "max") [.ref l]) Q E s := by
  obtain ⟨xs, e⟩ := hi.allInts.items
  have hn : numsOf (intItems xs).toList = ns := by rw [← e]; exact hi.numsOf
  rw [nums_intItems] at hn
  subst hn
  rw [e] at hl
  have hsz : 0 < xs.size := by simpa using hne
  refine PySem.max_intTup hh hl hsz fun v h' tk hv hk => ?_
  obtain ⟨t, rfl⟩ := intItems_at hv
  obtain ⟨h1, h2⟩ := argBest_gt (numAt xs) (xs.size - 1)
  refine h h' tk _ t hk ?_ fun a ha => ?_
  · rw [numAt_eq]; exact PySem.getD_mem (by rw [List.length_map, Array.length_toList]; omega)
  · obtain ⟨j, hj, rfl⟩ := mem_getD ha
    rw [List.length_map, Array.length_toList] at hj
    rw [← numAt_eq]; exact h2 j (by omega)
end
variable {X : Cx}
def rMinT (K : PySem.W.Frag) : List V → Hp → VK → Prop := fun vs H Q => ∃ (a : Addr) (ns : List Int), vs = [V.ref a] ∧ SqT K H a (ns.map V.int) ∧ 0 < ns.length ∧ ∀ m, m ∈ ns → (∀ y, y ∈ ns → m ≤ y) → Q (.int m) H
theorem cr_minT (hc : X.calm = true) : CallR X (.builtin "min") (rMinT X.K) := by
  intro pins s σ H vs us Q I r h
  obtain ⟨a, ns, rfl, hs, hne, q⟩ := h
  obtain ⟨its, rv, hl, _⟩ := I.tuple hs
  rw [Vals.ref1 r]
  exact min_rawT (I.ok.hd hc) hl rv.ints hne fun h' tk m t' hk h1 h2 => ⟨.int _, H, I.kept hk, ⟨_, rfl⟩, q m h1 h2⟩
def rMaxT (K : PySem.W.Frag) : List V → Hp → VK → Prop := fun vs H Q => ∃ (a : Addr) (ns : List Int), vs = [V.ref a] ∧ SqT K H a (ns.map V.int) ∧ 0 < ns.length ∧ ∀ m, m ∈ ns → (∀ y, y ∈ ns → y ≤ m) → Q (.int m) H
theorem cr_maxT (hc : X.calm = true) : CallR X (.builtin "max") (rMaxT X.K) := by
  intro pins s σ H vs us Q I r h
  obtain ⟨a, ns, rfl, hs, hne, q⟩ := h
  obtain ⟨its, rv, hl, _⟩ := I.tuple hs
  rw [Vals.ref1 r]
  exact max_rawT (I.ok.hd hc) hl rv.ints hne fun h' tk m t' hk h1 h2 => ⟨.int _, H, I.kept hk, ⟨_, rfl⟩, q m h1 h2⟩
end L2
namespace TL
open PySem PySem.Spec PyProof.Rows L2 Srt SrtO
def IsTupI (h : Heap) (v : Value) (ns : List Int) : Prop := ∃ a o items n, v = .ref a ∧ h.get? a = some o ∧ o.cls = .type "tuple" ∧ o.data = .seq items n ∧ IntsAre items.toList ns ∧ ns ≠ []
theorem IsTupI.keeps {h h' : Heap} {v : Value} {ns : List Int} (p : IsTupI h v ns) (k : ∀ b o, h.get? b = some o → o.cls = .type "tuple" → h'.get? b = some o) : IsTupI h' v ns := by
  obtain ⟨a, o, t, n, e, ho, hc, hd, hi, hn⟩ := p
  exact ⟨a, o, t, n, e, k _ _ ho hc, hc, hd, hi, hn⟩
theorem lexLt_iff_cons {x y : Int} {xs ys : List Int} : HT.lexLt (x :: xs) (y :: ys) = true ↔ x < y ∨ (x = y ∧ HT.lexLt xs ys = true) := by
  rw [HT.lexLt_cons]
  by_cases e : x = y
  · rw [if_pos e]
    constructor
    · exact fun h => .inr ⟨e, h⟩
    · rintro (h | h)
      · omega
      · exact h.2
  · rw [if_neg e, decide_eq_true_eq]
    constructor
    · exact fun h => .inl h
    · rintro (h | h)
      · exact h
      · exact absurd h.1 e
theorem lexLt_asymm : ∀ {a b : List Int}, HT.lexLt a b = true → HT.lexLt b a = false
  | [], [], h => by cases h
  | [], _ :: _, _ => rfl
  | _ :: _, [], h => by cases h
  | x :: xs, y :: ys, h => by
    rcases lexLt_iff_cons.mp h with h | ⟨e, h⟩
    · cases q : HT.lexLt (y :: ys) (x :: xs) with
      | false => rfl
      | true =>
        rcases lexLt_iff_cons.mp q with q | ⟨q, _⟩ <;> omega
    · cases q : HT.lexLt (y :: ys) (x :: xs) with
      | false => rfl
      | true =>
        rcases lexLt_iff_cons.mp q with q | ⟨_, q⟩
        · omega
        · rw [lexLt_asymm h] at q; cases q
theorem lexLt_conn : ∀ {a b : List Int}, HT.lexLt a b = false → HT.lexLt b a = false → a = b
  | [], [], _, _ => rfl
  | [], _ :: _, h, _ => by cases h
  | _ :: _, [], _, h => by cases h
  | x :: xs, y :: ys, h1, h2 => by
    have n1 : ¬ (x < y ∨ (x = y ∧ HT.lexLt xs ys = true)) := fun z => by rw [lexLt_iff_cons.mpr z] at h1; cases h1
    have n2 : ¬ (y < x ∨ (y = x ∧ HT.lexLt ys xs = true)) := fun z => by rw [lexLt_iff_cons.mpr z] at h2; cases h2
    have e : x = y := by omega
    have a1 : HT.lexLt xs ys = false := by
      cases q : HT.lexLt xs ys with
      | false => rfl
      | true => exact absurd (.inr ⟨e, q⟩) n1
    have a2 : HT.lexLt ys xs = false := by
      cases q : HT.lexLt ys xs with
      | false => rfl
      | true => exact absurd (.inr ⟨e.symm, q⟩) n2
    rw [e, lexLt_conn a1 a2]
theorem lexLt_trans : ∀ {a b c : List Int}, HT.lexLt a b = true → HT.lexLt b c = true → HT.lexLt a c = true
  | [], [], _, h, _ => by cases h
  | [], _ :: _, [], _, h => by cases h
  | [], _ :: _, _ :: _, _, _ => rfl
  | _ :: _, [], _, h, _ => by cases h
  | _ :: _, _ :: _, [], _, h => by cases h
  | x :: xs, y :: ys, z :: zs, h1, h2 => by
    rcases lexLt_iff_cons.mp h1 with h1 | ⟨e1, h1⟩ <;> rcases lexLt_iff_cons.mp h2 with h2 | ⟨e2, h2⟩
    · exact lexLt_iff_cons.mpr (.inl (by omega))
    · exact lexLt_iff_cons.mpr (.inl (by omega))
    · exact lexLt_iff_cons.mpr (.inl (by omega))
    · exact lexLt_iff_cons.mpr (.inr ⟨by omega, lexLt_trans h1 h2⟩)
theorem lexLt_neg {a b c : List Int} (h1 : HT.lexLt b a = false) (h2 : HT.lexLt c b = false) : HT.lexLt c a = false := by
  cases q : HT.lexLt c a with
  | false => rfl
  | true =>
    cases q2 : HT.lexLt a b with
    | true => rw [lexLt_trans q q2] at h2; cases h2
    | false =>
      have := lexLt_conn q2 h1
      subst this
      rw [q] at h2; cases h2
theorem swo_lexI (k : Value → List Int) : Swo fun v u => HT.lexLt (k v) (k u) := ⟨fun x y h => lexLt_asymm h, fun x y z h1 h2 => lexLt_neg h1 h2⟩
section
variable {prog : Program} {w : World} {A : Around} {E : Value → Shared → Prop} {s : Shared}
theorem katLex_ints {b fin : Bool} {Q : Bool → Shared → Prop} : ∀ {vs us : List Value} {ns ms : List Int} (i : Nat), IntsAre vs ns → IntsAre us ms → fin = decide (vs.length < us.length) → Q (HT.lexLt ns ms) s → PySem.W.KatLex prog w A b fin Q (vs.zip us) i s
  | [], [], _, _, _, .nil, .nil, hf, h => by
    rw [hf]; exact PySem.W.kat_nil h
  | [], _ :: _, _, _, _, .nil, .cons _ _ _, hf, h => by
    rw [hf]; exact PySem.W.kat_nil (by simpa [HT.lexLt_nil_cons] using h)
  | _ :: _, [], _, _, _, .cons _ _ _, .nil, hf, h => by
    rw [hf]; exact PySem.W.kat_nil (by simpa [HT.lexLt_cons_nil] using h)
  | _ :: vs, _ :: us, _, _, i, .cons (ns := ns) x t hv, .cons (ns := ms) y u hu, hf, h => by
    show PySem.W.KatLex prog w A b fin Q ((.int x t, .int y u) :: vs.zip us) i s
    refine PySem.W.kat_cons (SeqAt.EqAt.int_int x t y u prog w _ _ ?_)
    refine PySem.W.kat_go (fun e1 => ?_) (fun e1 => ?_)
    · have ex : x = y := by simpa using e1
      refine PySem.W.kat_yes (katLex_ints (i + 1) hv hu (by rw [hf]; simp) ?_)
      rw [HT.lexLt_cons, if_pos ex] at h
      exact h
    · have ex : ¬ x = y := by simpa using e1
      rw [HT.lexLt_cons, if_neg ex] at h
      refine PySem.W.kat_no ?_
      cases q : (b && i == 0) with
      | true => exact oneLt_int h
      | false => exact PySem.W.kat_one _ _ (PyProof.Rows.lt_int h)
theorem tups_cmp {vs : List Value} {k : Value → List Int} (hp : ∀ v ∈ vs, IsTupI s.heap v (k v)) : Cmp prog w A s (tuples' true) (fun p => p.1 ∈ vs) (lt2 fun v u => HT.lexLt (k v) (k u)) := by
  intro p q hm hm'
  obtain ⟨a, o, t, n, e, ho, hc, hd, hi, _⟩ := hp _ hm
  obtain ⟨a', o', t', n', e', ho', hc', hd', hi', _⟩ := hp _ hm'
  show wpAny (model prog w) A (keyLt' (tuples' true) p.1 q.1) (fun r s' => s' = s ∧ r = HT.lexLt (k p.1) (k q.1)) (fun _ _ => False) s
  generalize k p.1 = ns at hi ⊢
  generalize k q.1 = ms at hi' ⊢
  rw [e, e']
  exact PySem.W.kat_lt ho hd ho' hd' (katLex_ints 0 hi hi' (by simp) ⟨rfl, rfl⟩)
theorem firsts_ofI {h : Heap} {k : Value → List Int} : ∀ {vs : List Value}, (∀ v ∈ vs, IsTupI h v (k v)) → ∃ fs, PySem.W.KatTups h vs fs ∧ fs.length = vs.length ∧ ∀ f ∈ fs, ∃ x t, f = Value.int x t
  | [], _ => ⟨[], .nil, rfl, fun _ h => nomatch h⟩
  | v :: vs, hv => by
    obtain ⟨fs, h1, h2, h3⟩ := firsts_ofI fun u hu => hv u (List.mem_cons_of_mem _ hu)
    obtain ⟨a, o, xs, n, rfl, ho, hc, hd, hi, hn⟩ := hv v List.mem_cons_self
    generalize k (Value.ref a) = ns at hi hn
    obtain ⟨l⟩ := xs
    cases hi with
    | nil => exact absurd rfl hn
    | cons x t r =>
      refine ⟨.int x t :: fs, .cons ho hc hd rfl h1, by simp [h2], fun f hf => ?_⟩
      rcases List.mem_cons.mp hf with rfl | hf
      · exact ⟨_, _, rfl⟩
      · exact h3 f hf
theorem tups_sortable {a : Addr} {vs : List Value} {k : Value → List Int} (h0 : 0 < vs.length) (hp : ∀ v ∈ vs, IsTupI s.heap v (k v)) (ha : ∀ o, s.heap.get? a = some o → o.cls ≠ .type "tuple") : SortableO prog w A s a vs fun v u => HT.lexLt (k v) (k u) := by
  intro h' keep
  have hp' : ∀ v ∈ vs, IsTupI h' v (k v) := fun v hm => (hp v hm).keeps fun b o e c => keep b o (fun z => by subst z; exact ha o e c) e
  obtain ⟨fs, h1, h2, h3⟩ := firsts_ofI hp'
  refine ⟨tuples' true, fun Q E hq => ?_, tups_cmp hp'⟩
  refine PySem.W.kat_kind (T := .type "int") h1 (by omega) (fun f hm => ?_) (by rfl) ?_
  · obtain ⟨x, t, rfl⟩ := h3 f hm
    exact PySem.W.Looks.now
  · have e : (Value.type "int" != Value.type "tuple") = true := by first | decide +kernel | rfl | decide
    rw [e]
    exact hq
theorem sorted_tupsI {l : Addr} {vs : List Value} {k : Value → List Int} {Q : Value → Shared → Prop} (hl : s.heap.IsList l vs.toArray) (hz : vs.length ≤ sizeLine) (hp : ∀ v ∈ vs, IsTupI s.heap v (k v))
    (h : ∀ (h' : Heap) (d : Addr) (out : List Value), Srtd (fun v u => HT.lexLt (k v) (k u)) out → Stb (fun v u => HT.lexLt (k v) (k u)) out vs → (∀ b o, s.heap.get? b = some o → h'.get? b = some o) → s.heap.objs.size ≤ d → (∃ n, h'.get? d = some (seqObj "list" out.toArray n)) → Q (.ref d) { s with heap := h' }) :
    wpAny (model prog w) A (call (.builtin "sorted") [.ref l]) Q E s := by
  refine sorted_ord (swo_lexI k) hl hz (fun h2 h₁ a ha kk => ?_) fun out hs hb => ?_
  · refine tups_sortable (s := { s with heap := h₁ }) (by omega) (fun v hm => (hp v hm).keeps fun b o e _ => (kk b o e).2) fun o e => ?_
    have e' : some o = some (seqObj "list" vs.toArray 0) := e.symm.trans ha
    cases e'
    intro c
    exact absurd (Value.type.inj c) (by decide)
  · exact h _ _ out hs hb (fun b o e => sortedAll_old e) (Nat.le_succ _) (sortedAll_at s.heap vs out.toArray)
end
theorem insL_perm (x : List Int) : ∀ l : List (List Int), (insL x l).Perm (x :: l)
  | [] => .refl _
  | y :: r => by
    unfold insL
    split
    · exact ((insL_perm x r).cons y).trans (.swap x y r)
    · exact .refl _
theorem sortL_perm : ∀ l : List (List Int), (sortL l).Perm l
  | [] => .refl _
  | x :: r => (insL_perm x (sortL r)).trans ((sortL_perm r).cons x)
def SrtL (l : List (List Int)) : Prop := l.Pairwise fun a b => HT.lexLt b a = false
theorem insL_sorted (x : List Int) : ∀ {l : List (List Int)}, SrtL l → SrtL (insL x l)
  | [], _ => List.pairwise_singleton _ _
  | y :: r, h => by
    have h' := List.pairwise_cons.mp h
    unfold insL
    split
    · rename_i q
      refine List.pairwise_cons.mpr ⟨fun z hz => ?_, insL_sorted x h'.2⟩
      rcases List.mem_cons.mp ((insL_perm x r).mem_iff.mp hz) with rfl | hz
      · exact lexLt_asymm q
      · exact h'.1 z hz
    · rename_i q
      have q : HT.lexLt y x = false := by simpa using q
      refine List.pairwise_cons.mpr ⟨fun z hz => ?_, h⟩
      rcases List.mem_cons.mp hz with rfl | hz
      · exact q
      · exact lexLt_neg q (h'.1 z hz)
theorem sortL_sorted : ∀ l : List (List Int), SrtL (sortL l)
  | [] => .nil
  | x :: r => insL_sorted x (sortL_sorted r)
theorem srtL_unique : ∀ {l m : List (List Int)}, SrtL l → SrtL m → l.Perm m → l = m
  | [], m, _, _, p => by simpa using p.symm.eq_nil
  | a :: l, [], _, _, p => by simpa using p.eq_nil
  | a :: l, b :: m, h1, h2, p => by
    have h1' := List.pairwise_cons.mp h1
    have h2' := List.pairwise_cons.mp h2
    have e : a = b := by
      rcases List.mem_cons.mp (p.mem_iff.mp List.mem_cons_self) with e | ha
      · exact e
      · rcases List.mem_cons.mp (p.mem_iff.mpr List.mem_cons_self) with e | hb
        · exact e.symm
        · exact lexLt_conn (h2'.1 a ha) (h1'.1 b hb)
    subst e
    rw [srtL_unique h1'.2 h2'.2 ((List.perm_cons a).mp p)]
theorem insI_perm (x : Int) : ∀ l : List Int, (insI x l).Perm (x :: l)
  | [] => .refl _
  | y :: r => by
    unfold insI
    split
    · exact ((insI_perm x r).cons y).trans (.swap x y r)
    · exact .refl _
theorem sortI_perm : ∀ l : List Int, (sortI l).Perm l
  | [] => .refl _
  | x :: r => (insI_perm x (sortI r)).trans ((sortI_perm r).cons x)
theorem insI_sorted (x : Int) : ∀ {l : List Int}, l.Pairwise (· ≤ ·) → (insI x l).Pairwise (· ≤ ·)
  | [], _ => List.pairwise_singleton _ _
  | y :: r, h => by
    have h' := List.pairwise_cons.mp h
    unfold insI
    split
    · rename_i q
      refine List.pairwise_cons.mpr ⟨fun z hz => ?_, insI_sorted x h'.2⟩
      rcases List.mem_cons.mp ((insI_perm x r).mem_iff.mp hz) with rfl | hz
      · omega
      · exact h'.1 z hz
    · rename_i q
      refine List.pairwise_cons.mpr ⟨fun z hz => ?_, h⟩
      rcases List.mem_cons.mp hz with rfl | hz
      · omega
      · exact Int.le_trans (by omega) (h'.1 z hz)
theorem sortI_sorted : ∀ l : List Int, (sortI l).Pairwise (· ≤ ·)
  | [] => .nil
  | x :: r => insI_sorted x (sortI_sorted r)
theorem srtI_unique : ∀ {l m : List Int}, l.Pairwise (· ≤ ·) → m.Pairwise (· ≤ ·) → l.Perm m → l = m
  | [], m, _, _, p => by simpa using p.symm.eq_nil
  | a :: l, [], _, _, p => by simpa using p.eq_nil
  | a :: l, b :: m, h1, h2, p => by
    have h1' := List.pairwise_cons.mp h1
    have h2' := List.pairwise_cons.mp h2
    have e : a = b := by
      rcases List.mem_cons.mp (p.mem_iff.mp List.mem_cons_self) with e | ha
      · exact e
      · rcases List.mem_cons.mp (p.mem_iff.mpr List.mem_cons_self) with e | hb
        · exact e.symm
        · have := h2'.1 a ha
          have := h1'.1 b hb
          omega
    subst e
    rw [srtI_unique h1'.2 h2'.2 ((List.perm_cons a).mp p)]
def vInt : V → Int
  | .int i => i
  | _ => 0
def kOf (H : Hp) : V → List Int
  | .ref t => match H t with
    | some (.tup vs) => vs.map vInt
    | _ => []
  | _ => []
theorem vInt_map : ∀ ns : List Int, (ns.map V.int).map vInt = ns
  | [] => rfl
  | n :: ns => congrArg (n :: ·) (vInt_map ns)
def rSortT (K : PySem.W.Frag) : List V → Hp → VK → Prop := fun vs H Q => ∃ (a : Addr) (xs : List V), vs = [V.ref a] ∧ SqL K H a xs ∧ (∀ x ∈ xs, ∃ t ns, x = V.ref t ∧ H t = some (.tup (ns.map V.int)) ∧ ns ≠ []) ∧
  ∀ ys p, ys.Perm xs → SrtL (ys.map (kOf H)) → H p = none → Q (.ref p) (L2.upd H p (.lst ys))
theorem cr_sortT {X : Cx} : CallR X (.builtin "sorted") (rSortT X.K) := by
  intro pins s σ H vs us Q I r h
  obtain ⟨a, xs, rfl, hs, hx, q⟩ := h
  obtain ⟨its, rv, hl, hz⟩ := I.list hs
  obtain ⟨u, rfl, ru⟩ := vals1 r
  obtain rfl : u = Value.ref a := ru
  obtain ⟨e1, e2⟩ := refs_back rv fun x m => by
    obtain ⟨t, _, e, _⟩ := hx x m
    exact ⟨t, e⟩
  refine sorted_tupsI (k := fun u => kOf H (backV u)) hl.isList (by rw [← rv.length]; exact hz) (fun v hv => ?_) fun h' d out h1 h2 kp hd hn => ?_
  · obtain ⟨t, rfl⟩ := e2 v hv
    have hm : V.ref t ∈ xs := by rw [e1]; exact List.mem_map.mpr ⟨_, hv, rfl⟩
    obtain ⟨t', ns, e, ht, hne⟩ := hx _ hm
    cases e
    obtain ⟨_, its2, r2, o, ho, hc, n, hd⟩ := I.hok _ _ ht
    refine ⟨t, o, its2.toArray, n, rfl, ho, hc, hd, ?_, ?_⟩
    · have : kOf H (backV (.ref t)) = ns := by
        show (match H t with | some (.tup vs) => vs.map vInt | _ => []) = ns
        rw [ht]
        exact vInt_map ns
      rw [this]
      exact Vals.ints r2
    · show (match H t with | some (.tup vs) => vs.map vInt | _ => []) ≠ []
      rw [ht]
      show (ns.map V.int).map vInt ≠ []
      rw [vInt_map]
      exact hne
  · have h3 : ∀ u ∈ out, ∃ a, u = Value.ref a := fun u hu => e2 u (h2.perm.mem_iff.mp hu)
    obtain ⟨n, hn⟩ := hn
    have hp : (out.map backV).Perm xs := by
      rw [e1]
      exact h2.perm.map _
    refine ⟨.ref d, L2.upd H d (.lst (out.map backV)), I.laid (t' := s.toks) kp hd ⟨?_, out, n, vals_back h3, hn⟩, rfl, q _ d hp ?_ (I.hok.fresh hd)⟩
    · rw [hp.length_eq]
      exact hz
    · rw [List.map_map]
      exact List.pairwise_map.mpr h1
end TL
namespace TL
open PySem PySem.Spec PyProof.Rows L2
def rBi (K : PySem.W.Frag) (f : BiS) : List V → Hp → VK → Prop := fun xs H Q => ∃ (Z : Addr → Prop) (ι : Nat → Addr) (S : Sto) (ts : List T) (r : Raw), Rel K Z ι S H ∧ IsAll K Z H ι S.length xs ts ∧ f ts S = some r ∧ RawOk K Z ι S.length H Q r
theorem bi_lift {K : PySem.W.Frag} {XR : XRel} {W : WX} {nw : Bool} {f : BiS} {fa : SE} {σ : L2.St} {H : Hp} {Q : VK} (h : liftE K XR W (argsE fa fun ts => fun l S => outR nw (f ts S) l S) σ H Q) : tCB (rBi K f) (liftA K XR W fa) σ H Q := by
  refine liftA_mono (fun vs H1 h1 => ?_) (args_bind0 h)
  obtain ⟨Z, ι, S, l, ts, R, sl, ia, p⟩ := h1
  obtain ⟨r, e, ok⟩ := out_ok R p
  exact ⟨Z, ι, S, ts, r, R, ia, e, ok⟩
section
variable {X : Cx} {K : PySem.W.Frag} {Z : Addr → Prop} {H : Hp} {ι : Nat → Addr} {S : Sto}
theorem bools_ok {n : Nat} : ∀ {vs : List V} {ts : List T} {bs : List Bool}, IsAll K Z H ι n vs ts → T.bools ts = some bs → vs = bs.map V.bl
  | _, _, _, .nil, e => by cases e; rfl
  | _, _, _, .cons (t := t) (ts := ts) i is, e => by
    cases i with
    | bl k =>
      simp only [T.bools] at e
      cases q2 : T.bools ts with
      | none => rw [q2] at e; cases e
      | some ks =>
        rw [q2] at e
        cases e
        rw [bools_ok is q2]
        rfl
    | _ => cases e
theorem lseq_ok {x : V} {t : T} {ts : List T} (R : Rel K Z ι S H) (h : Is K Z H ι S.length x t) (e : S.lseq t = some ts) : ∃ a vs, x = .ref a ∧ SqL K H a vs ∧ IsAll K Z H ι S.length vs ts := by
  cases h with
  | lst h hn hz hs => cases e; exact ⟨_, _, rfl, .of h, hs⟩
  | tup h hs => cases e
  | scr h hn hz => cases e; exact ⟨_, _, rfl, .inl h, isAll_ints _⟩
  | scrK h => cases e; exact ⟨_, _, rfl, .inr h, isAll_ints _⟩
  | ref hi =>
    rename_i i
    obtain ⟨a, vs, e1, e2, e3⟩ := items_ok (ts := ts) R (.ref hi) (by unfold Sto.items; unfold Sto.lseq Sto.seq at e; exact e)
    exact ⟨a, vs, e1, .of e2, e3⟩
  | _ => cases e
theorem lints_ok {x : V} {t : T} {ns : List Int} (R : Rel K Z ι S H) (h : Is K Z H ι S.length x t) (e : (S.lseq t).bind T.ints = some ns) : ∃ a, x = .ref a ∧ SqL K H a (ns.map V.int) := by
  cases q : S.lseq t with
  | none => rw [q] at e; cases e
  | some ts =>
    rw [q] at e
    obtain ⟨a, vs, rfl, hs, ia⟩ := lseq_ok R h q
    rw [ints_ok ia e] at hs
    exact ⟨a, rfl, hs⟩
theorem call_lenF : CallR X (.builtin "len") (rBi X.K lenF) := by
  intro pins s σ H xs us Q I rx h
  obtain ⟨Z, ι, S, ts, r, R, ia, e, ok⟩ := h
  unfold lenF at e
  split at e
  · rename_i t
    obtain ⟨x, rfl, ix⟩ := ia.inv1
    have hseq : ∀ {xs : List T}, S.seq t = some xs → r = .val (.int xs.length) → wpAny (model X.prog X.w) X.A (call (.builtin "len") us) (EP X pins σ Q) X.xe s := fun {xs} e1 e2 => by
      subst e2
      obtain ⟨a, vs, rfl, hs, iv⟩ := seq_ok R ix e1
      exact call_len_seq pins s σ H _ us Q I rx ⟨a, vs, rfl, hs, by rw [iv.length]; exact raw_int ok⟩
    have hdict : ∀ {d : DV}, S.dict t = some d → (∀ l, d = .k l → r = .val (.int l.length)) → (∀ l, d = .t l → r = .val (.int l.length)) → wpAny (model X.prog X.w) X.A (call (.builtin "len") us) (EP X pins σ Q) X.xe s := fun {d} e1 k1 k2 => by
      obtain ⟨a, rfl, hd⟩ := dict_ok R ix e1
      cases hd with
      | k h hl hs =>
        have e2 := k1 _ rfl
        subst e2
        obtain ⟨u, rfl, ru⟩ := vals1 rx
        obtain rfl : u = Value.ref a := ru
        have q := raw_int ok
        rw [List.length_zip, ← hs.length, ← List.length_zip] at q
        exact d_len I (.inl h) fun t s' I' => ⟨.int _, H, I', ⟨_, rfl⟩, q⟩
      | t h hl hs =>
        have e2 := k2 _ rfl
        subst e2
        have q := raw_int ok
        rw [List.length_zip, ← hs.length, ← List.length_zip] at q
        exact call_len_dT pins s σ H _ us Q I rx ⟨a, _, rfl, h, q⟩
    split at e
    · obtain ⟨g, rfl⟩ := guardR_some e
      exact call_len_str pins s σ H _ us Q I rx ⟨_, by rw [is_str ix], Nat.le_trans (of_decide_eq_true g) LIM_le, raw_int ok⟩
    · cases e
      exact hdict (d := .k _) rfl (fun l q => by cases q; rfl) (fun l q => by cases q)
    · cases e
      exact hdict (d := .t _) rfl (fun l q => by cases q) (fun l q => by cases q; rfl)
    · split at e
      · rename_i q
        cases e
        exact hseq q rfl
      · split at e
        · rename_i q
          cases e
          exact hdict q (fun l q => by cases q; rfl) (fun l q => by cases q)
        · rename_i q
          cases e
          exact hdict q (fun l q => by cases q) (fun l q => by cases q; rfl)
        · cases e
  · cases e
theorem call_absF : CallR X (.builtin "abs") (rBi X.K absF) := by
  intro pins s σ H xs us Q I rx h
  obtain ⟨Z, ι, S, ts, r, R, ia, e, ok⟩ := h
  unfold absF at e
  split at e
  · cases e
    obtain ⟨x, rfl, ix⟩ := ia.inv1
    exact call_abs pins s σ H _ us Q I rx ⟨_, by rw [is_int ix], raw_int ok⟩
  · cases e
theorem call_max2F (hc : X.calm = true) : CallR X (.builtin "max") (rBi X.K max2F) := by
  intro pins s σ H xs us Q I rx h
  obtain ⟨Z, ι, S, ts, r, R, ia, e, ok⟩ := h
  unfold max2F at e
  split at e
  · cases e
    obtain ⟨x, y, rfl, ix, iy⟩ := ia.inv2
    exact call_max2 hc pins s σ H _ us Q I rx ⟨_, _, by rw [is_int ix, is_int iy], raw_int ok⟩
  · cases e
theorem call_min2F (hc : X.calm = true) : CallR X (.builtin "min") (rBi X.K min2F) := by
  intro pins s σ H xs us Q I rx h
  obtain ⟨Z, ι, S, ts, r, R, ia, e, ok⟩ := h
  unfold min2F at e
  split at e
  · cases e
    obtain ⟨x, y, rfl, ix, iy⟩ := ia.inv2
    exact call_min2 hc pins s σ H _ us Q I rx ⟨_, _, by rw [is_int ix, is_int iy], raw_int ok⟩
  · cases e
theorem maxL_is : ∀ (r : List Int) (i m : Int), (m = i ∨ m ∈ r) → (i ≤ m) → (∀ y ∈ r, y ≤ m) → maxL i r = m
  | [], i, m, h, _, _ => by
    rcases h with h | h
    · exact h.symm
    · cases h
  | j :: r, i, m, h, h1, h2 => by
    unfold maxL
    have hj := h2 j List.mem_cons_self
    have hr : ∀ y ∈ r, y ≤ m := fun y hy => h2 y (List.mem_cons_of_mem _ hy)
    by_cases c : j > i
    · rw [if_pos c]
      refine maxL_is r j m ?_ hj hr
      rcases h with h | h
      · exact .inl (by omega)
      · exact (List.mem_cons.mp h)
    · rw [if_neg c]
      refine maxL_is r i m ?_ h1 hr
      rcases h with h | h
      · exact .inl h
      · rcases List.mem_cons.mp h with h | h
        · exact .inl (by omega)
        · exact .inr h
theorem minL_is : ∀ (r : List Int) (i m : Int), (m = i ∨ m ∈ r) → (m ≤ i) → (∀ y ∈ r, m ≤ y) → minL i r = m
  | [], i, m, h, _, _ => by
    rcases h with h | h
    · exact h.symm
    · cases h
  | j :: r, i, m, h, h1, h2 => by
    unfold minL
    have hj := h2 j List.mem_cons_self
    have hr : ∀ y ∈ r, m ≤ y := fun y hy => h2 y (List.mem_cons_of_mem _ hy)
    by_cases c : j < i
    · rw [if_pos c]
      refine minL_is r j m ?_ hj hr
      rcases h with h | h
      · exact .inl (by omega)
      · exact (List.mem_cons.mp h)
    · rw [if_neg c]
      refine minL_is r i m ?_ h1 hr
      rcases h with h | h
      · exact .inl h
      · rcases List.mem_cons.mp h with h | h
        · exact .inl (by omega)
        · exact .inr h
theorem call_max1F (hc : X.calm = true) : CallR X (.builtin "max") (rBi X.K max1F) := by
  intro pins s σ H xs us Q I rx h
  obtain ⟨Z, ι, S, ts, r, R, ia, e, ok⟩ := h
  unfold max1F at e
  split at e
  · rename_i t
    split at e
    · rename_i i r q
      cases e
      obtain ⟨x, rfl, ix⟩ := ia.inv1
      have fin : ∀ m, m ∈ i :: r → (∀ y, y ∈ i :: r → y ≤ m) → Q (.int m) H := fun m hm hy => by
        have := maxL_is _ _ m (List.mem_cons.mp hm) (hy _ List.mem_cons_self) fun y h => hy y (List.mem_cons_of_mem _ h)
        rw [← this]
        exact raw_int ok
      cases t with
      | tup xs =>
        obtain ⟨a, vs, rfl, hp, iv⟩ := is_tup ix
        rw [ints_ok iv q] at hp
        exact cr_maxT hc pins s σ H _ us Q I rx ⟨a, _, rfl, .of hp, by simp, fin⟩
      | _ =>
        obtain ⟨a, rfl, hs⟩ := lints_ok R ix q
        exact cr_max hc pins s σ H _ us Q I rx ⟨a, _, rfl, hs, by simp, fin⟩
    · cases e
  · cases e
theorem call_min1F (hc : X.calm = true) : CallR X (.builtin "min") (rBi X.K min1F) := by
  intro pins s σ H xs us Q I rx h
  obtain ⟨Z, ι, S, ts, r, R, ia, e, ok⟩ := h
  unfold min1F at e
  split at e
  · rename_i t
    split at e
    · rename_i i r q
      cases e
      obtain ⟨x, rfl, ix⟩ := ia.inv1
      have fin : ∀ m, m ∈ i :: r → (∀ y, y ∈ i :: r → m ≤ y) → Q (.int m) H := fun m hm hy => by
        have := minL_is _ _ m (List.mem_cons.mp hm) (hy _ List.mem_cons_self) fun y h => hy y (List.mem_cons_of_mem _ h)
        rw [← this]
        exact raw_int ok
      cases t with
      | tup xs =>
        obtain ⟨a, vs, rfl, hp, iv⟩ := is_tup ix
        rw [ints_ok iv q] at hp
        exact cr_minT hc pins s σ H _ us Q I rx ⟨a, _, rfl, .of hp, by simp, fin⟩
      | _ =>
        obtain ⟨a, rfl, hs⟩ := lints_ok R ix q
        exact cr_min hc pins s σ H _ us Q I rx ⟨a, _, rfl, hs, by simp, fin⟩
    · cases e
  · cases e
theorem call_sumF (hc : X.calm = true) : CallR X (.builtin "sum") (rBi X.K sumF) := by
  intro pins s σ H xs us Q I rx h
  obtain ⟨Z, ι, S, ts, r, R, ia, e, ok⟩ := h
  unfold sumF at e
  split at e
  · split at e
    · rename_i q
      cases e
      obtain ⟨x, rfl, ix⟩ := ia.inv1
      obtain ⟨a, rfl, hs⟩ := lints_ok R ix q
      exact cr_sum hc pins s σ H _ us Q I rx ⟨a, _, rfl, hs, raw_int ok⟩
    · cases e
  · cases e
theorem call_allF (hc : X.calm = true) : CallR X (.builtin "all") (rBi X.K allF) := by
  intro pins s σ H xs us Q I rx h
  obtain ⟨Z, ι, S, ts, r, R, ia, e, ok⟩ := h
  unfold allF at e
  split at e
  · split at e
    · rename_i t _ bs q
      cases e
      obtain ⟨x, rfl, ix⟩ := ia.inv1
      cases q2 : S.lseq t with
      | none => rw [q2] at q; cases q
      | some ts =>
        rw [q2] at q
        obtain ⟨a, vs, rfl, hs, iv⟩ := lseq_ok R ix q2
        rw [bools_ok iv q] at hs
        exact cr_all hc pins s σ H _ us Q I rx ⟨a, _, rfl, hs, raw_bl ok⟩
    · cases e
  · cases e
theorem call_tupleF : CallR X (.type "tuple") (rBi X.K tupleF) := by
  intro pins s σ H xs us Q I rx h
  obtain ⟨Z, ι, S, ts, r, R, ia, e, ok⟩ := h
  unfold tupleF at e
  split at e
  · rename_i t
    obtain ⟨x, rfl, ix⟩ := ia.inv1
    cases q : S.seq t with
    | none => rw [q] at e; cases e
    | some xs =>
      rw [q] at e
      cases e
      by_cases ht : ∃ ts, t = .tup ts
      · obtain ⟨ts, rfl⟩ := ht
        cases q
        obtain ⟨a, vs, rfl, hs, iv⟩ := is_tup ix
        exact call_tuple_of pins s σ H _ us Q I rx ⟨a, vs, rfl, .inr ⟨.of hs, raw_tup' ok hs iv⟩⟩
      · have ql : S.lseq t = some xs := by
          cases t <;> first | exact q | exact absurd ⟨_, rfl⟩ ht
        obtain ⟨a, vs, rfl, hs, iv⟩ := lseq_ok R ix ql
        exact call_tuple_of pins s σ H _ us Q I rx ⟨a, vs, rfl, .inl ⟨hs, raw_tup R ok iv⟩⟩
  · cases e
theorem map_zip_fst {α β γ : Type} {f : α → γ} : ∀ {ks : List α} {vs : List β}, ks.length = vs.length → (ks.zip vs).map (fun p => f p.1) = ks.map f
  | [], _, _ => rfl
  | _ :: _, [], h => by simp at h
  | k :: ks, v :: vs, h => by
    rw [List.zip_cons_cons, List.map_cons, List.map_cons, map_zip_fst (by simpa using h)]
theorem isAll_keys {n : Nat} : ∀ ks : List Key, IsAll K Z H ι n (ks.map kV) (ks.map T.ofKey)
  | [] => .nil
  | .inl i :: ks => .cons (.int i) (isAll_keys ks)
  | .inr i :: ks => .cons (.str i) (isAll_keys ks)
theorem isAll_keyT {n : Nat} : ∀ {ks : List (List Key)} {vs : List V} {bs : List Addr}, ks.length = vs.length → IsKeys H (ks.zip vs) bs → IsAll K Z H ι n (bs.map V.ref) (ks.map fun k => T.tup (k.map T.ofKey))
  | [], _, _, _, h => by
    cases h
    exact .nil
  | k :: ks, [], _, hl, _ => by simp at hl
  | k :: ks, v :: vs, _, hl, h => by
    cases h with
    | cons a b => exact .cons (.tup a (isAll_keys k)) (isAll_keyT (by simpa using hl) b)
theorem call_listF (hc : X.calm = true) : CallR X (.type "list") (rBi X.K listF) := by
  intro pins s σ H xs us Q I rx h
  obtain ⟨Z, ι, S, ts, r, R, ia, e, ok⟩ := h
  unfold listF at e
  split at e
  · rename_i t
    obtain ⟨x, rfl, ix⟩ := ia.inv1
    split at e
    · rename_i q
      cases e
      obtain ⟨a, vs, rfl, hs, iv⟩ := seq_ok R ix q
      exact call_list_of pins s σ H _ us Q I rx ⟨a, vs, rfl, hs, fun p hp => ok vs p iv hp⟩
    · split at e
      · rename_i q
        cases e
        obtain ⟨a, rfl, hd⟩ := dict_ok R ix q
        cases hd with
        | k h hl hs =>
          refine call_list_dK hc pins s σ H _ us Q I rx ⟨a, _, rfl, h, fun p hp => ?_⟩
          have hl2 := hl.trans hs.length
          rw [map_zip_fst (f := kV) hl]
          refine ok _ p ?_ hp
          rw [map_zip_fst (f := T.ofKey) hl2]
          exact isAll_keys _
      · rename_i q
        cases e
        obtain ⟨a, rfl, hd⟩ := dict_ok R ix q
        cases hd with
        | t h hl hs =>
          refine call_list_dT hc pins s σ H _ us Q I rx ⟨a, _, rfl, .inl h, fun p bs hp hb => ?_⟩
          refine ok _ p ?_ hp
          rw [map_zip_fst (f := fun k : List Key => T.tup (k.map T.ofKey)) (hl.trans hs.length)]
          exact isAll_keyT hl hb
      · cases e
  · cases e
end
end TL
namespace TLH
open PySem PySem.Spec PyProof.Rows PySem.Builtin.Slice
section
variable {prog : Program} {w : World} {A : Around} {E : Value → Shared → Prop} {s : Shared}
theorem sliceApplied_rev {sl : Addr} {vl vu : Value} {t : Tok} {n : Nat} {Q : Int × Int × Nat → Shared → Prop} (hs : s.heap.IsSliceOf sl vl vu (.int (-1) t)) (pl : IsPart vl none) (pu : IsPart vu none)
    (h : Q ((n : Int) - 1, -1, n) s) : wpAny (model prog w) A (Builtin.Slice.sliceApplied (.ref sl) (pure (n : Int))) Q E s := by
  obtain ⟨os, hos, hcs, hds⟩ := id hs
  unfold Builtin.Slice.sliceApplied Builtin.Slice.sliceFields
  refine wpAny_bind (wpAny_bind (wpAny_field hos hds (x := vl) rfl (wpAny_bind (wpAny_field hos hds (x := vu) rfl (wpAny_bind (wpAny_field hos hds (x := .int (-1) t) rfl (wpAny_pure ?_)))))))
  refine wpAny_bind (slicePart_int ?_)
  show wpAny _ _ (if ((-1 : Int) == 0) = true then _ else _) _ _ s
  rw [if_neg (by decide)]
  refine wpAny_bind (HT.slicePart_ pl (wpAny_bind (HT.slicePart_ pu (wpAny_bind (wpAny_pure ?_)))))
  show wpAny _ _ (match Builtin.Slice.sliceAdjust none none (-1) (n : Int) with | (lo, hi) => pure (lo, (-1 : Int), Builtin.Slice.slicePlaces lo hi (-1))) _ _ s
  have e1 : Builtin.Slice.sliceAdjust none none (-1) (n : Int) = ((n : Int) - 1, -1) := by
    unfold Builtin.Slice.sliceAdjust
    rfl
  rw [e1]
  show wpAny _ _ (pure (((n : Int) - 1), (-1 : Int), Builtin.Slice.slicePlaces ((n : Int) - 1) (-1) (-1))) _ _ s
  have e2 : Builtin.Slice.slicePlaces ((n : Int) - 1) (-1) (-1) = n := by
    unfold Builtin.Slice.slicePlaces
    rw [if_neg (by decide)]
    by_cases h0 : n = 0
    · subst h0; rfl
    · rw [if_pos (by omega)]
      have : ((n : Int) - 1 - -1 - 1) / (- -1) + 1 = n := by
        rw [show (- -1 : Int) = 1 from rfl, Int.ediv_one]
        omega
      rw [this]
      simp
  rw [e2]
  exact wpAny_pure h
theorem filterMap_all {α β : Type} (f : α → Option β) (g : α → β) : ∀ (l : List α), (∀ x ∈ l, f x = some (g x)) → l.filterMap f = l.map g
  | [], _ => rfl
  | x :: l, h => by
    rw [List.filterMap_cons, h x List.mem_cons_self, List.map_cons, filterMap_all f g l fun y hy => h y (List.mem_cons_of_mem _ hy)]
theorem pick_rev (xs : Array Value) : ((List.range xs.size).filterMap fun (m : Nat) => xs[((xs.size : Int) - 1 + (m : Int) * -1).toNat]?).toArray = xs.toList.reverse.toArray := by
  congr 1
  have : ∀ (l : List Value) (n : Nat), n = l.length → (List.range n).filterMap (fun (m : Nat) => l[((n : Int) - 1 + (m : Int) * -1).toNat]?) = l.reverse := by
    intro l n hn
    apply List.ext_getElem?
    intro i
    have hall : (List.range n).filterMap (fun (m : Nat) => l[((n : Int) - 1 + (m : Int) * -1).toNat]?) = (List.range n).map (fun m => l.getD (n - 1 - m) default) := by
      refine filterMap_all _ _ _ fun m hm => ?_
      have hm := List.mem_range.mp hm
      have e : ((n : Int) - 1 + (m : Int) * -1).toNat = n - 1 - m := by omega
      rw [e]
      have : n - 1 - m < l.length := by omega
      simp [List.getD, List.getElem?_eq_getElem this]
    rw [hall]
    by_cases hi : i < n
    · rw [List.getElem?_map, List.getElem?_range hi, List.getElem?_reverse (by omega)]
      have : n - 1 - i < l.length := by omega
      simp only [Option.map_some, List.getD]
      rw [← hn, List.getElem?_eq_getElem this]
      rfl
    · rw [List.getElem?_eq_none (by simp; omega), List.getElem?_eq_none (by simp; omega)]
  have h := this xs.toList xs.size (by simp)
  rw [← h]
  simp
theorem getItem_tuple_rev {t sl : Addr} {items : Array Value} {vl vu : Value} {tk : Tok} {Q : Value → Shared → Prop} (ht : IsTup s.heap t items) (hs : s.heap.IsSliceOf sl vl vu (.int (-1) tk)) (pl : IsPart vl none) (pu : IsPart vu none)
    (h : Q (.ref s.heap.objs.size) { s with heap := s.heap.push { cls := .type "tuple", data := .seq items.toList.reverse.toArray } })
    (hsz : items.size ≤ sizeLine) : wpAny (model prog w) A (getItem (.ref t) (.ref sl)) Q E s := by
  have htake : sizeOk (.seq items.toList.reverse.toArray) := by
    show items.toList.reverse.toArray.size ≤ sizeLine
    simpa using hsz
  obtain ⟨os, hos, hcs, hds⟩ := id hs
  have hTs : s.TypeIs (.ref sl) "slice" := ⟨os, hos, hcs⟩
  unfold getItem
  try with_reducible refine wpAny_holding ?_
  first | refine wpAny_bind (wpAny_pure ?_) | skip
  refine wpAny_bind (wpAny_sequenceKey ht.typeIs (by decide) ?_)
  refine wpAny_bind (wpAny_callSpecial?_slot (name := Str.ofString "__getitem__") ht.typeIs PyProof.Rows.slot_tuple_getitem
    (wpAny_call_entry PyProof.Rows.slot_tuple_getitem ht.typeIs entry_tuple_getitem ?_ (args_tuple_getitem _ _)))
  show wpAny _ _ (Builtin.Tuple.tupleItemsOf (.ref t) >>= _) _ _ s
  refine wpAny_bind (tupleItemsOf_ ht ?_)
  refine wpAny_bind (wpAny_typeOf hTs ?_)
  rw [if_pos (by decide)]
  refine wpAny_bind (sliceApplied_rev hs pl pu ?_)
  have hno : ¬ ((((items.size : Int) - 1) == 0 && (-1 : Int) == 1 && items.size == items.size) = true) := by
    intro q
    rw [Bool.and_eq_true, Bool.and_eq_true] at q
    exact absurd q.1.2 (by decide)
  show wpAny _ _ (if (((items.size : Int) - 1) == 0 && (-1 : Int) == 1 && items.size == items.size) = true then _ else _) _ _ s
  rw [if_neg hno, pick_rev]
  first
    | exact wpAny_bind (m := Builtin.Tuple.tupleExact _) (wpAny_newObj_type (wpAny_pure ⟨_, rfl, wpAny_pure h⟩) htake)
    | exact wpAny_bind (m := Builtin.Tuple.tupleExact _) (wpAny_newObj_type (wpAny_bind (wpAny_pure (wpAny_pure ⟨_, rfl, wpAny_pure h⟩))) htake)
    | exact wpAny_bind (wpAny_bind (m := Builtin.Tuple.tupleExact _) (wpAny_newObj_type (wpAny_pure (wpAny_pure ⟨_, rfl, wpAny_pure h⟩)) htake))
    | exact wpAny_bind (wpAny_bind (m := Builtin.Tuple.tupleExact _) (wpAny_newObj_type (wpAny_pure ⟨_, rfl, wpAny_pure h⟩) htake))
end
end TLH
namespace TL
open PySem PySem.Spec PyProof.Rows L2
section
variable {X : Cx}
def tRevA (K : PySem.W.Frag) (te : TE) : TE := fun σ H Q => te σ H fun x H1 => ∃ a xs, x = .ref a ∧ ((SqL K H1 a xs ∧ ∀ p, H1 p = none → Q (.ref p) (L2.upd H1 p (.lst xs.reverse))) ∨ (SqT K H1 a xs ∧ ∀ p, H1 p = none → Q (.ref p) (L2.upd H1 p (.tup xs.reverse))))
theorem pe_revA {e : Expr} {te : TE} {k : Nat} {p1 p2 p3 pos : Pos} (he : PE X e te) : PE X (.Subscript e (.Slice none none (some (.UnaryOp .USub (.Constant (.int 1) k p1) p2)) p3) pos) (tRevA X.K te) := by
  refine ⟨fun pins s σ H Q I h => ?_⟩
  refine Subscript_ (thn (he.run pins s σ H _ I h) fun v s1 ⟨x, H1, I1, r1, q1⟩ => ?_)
  obtain ⟨a, xs, ex, hx⟩ := q1
  subst ex
  cases r1
  have hst : PO X (some (.UnaryOp .USub (.Constant (.int 1) k p1) p2)) (tPart (tUn (rU fun i => .int (-i)) (tC (.int 1)))) := po_some (pe_un un_neg pe_int)
  refine wpAny_Slice (thn (po_none.run pins s1 σ H1 (fun o H2 => o = none ∧ H2 = H1) I1 ⟨rfl, rfl⟩) fun vl s2 ⟨l, H2, I2, pl, el, e2⟩ => ?_)
  subst el e2
  refine thn (po_none.run pins s2 σ H2 (fun o H3 => o = none ∧ H3 = H2) I2 ⟨rfl, rfl⟩) fun vu s3 ⟨u, H3, I3, pu, eu, e3⟩ => ?_
  subst eu e3
  refine thn (hst.run pins s3 σ H3 (fun o H4 => o = some (-1) ∧ H4 = H3) I3 ⟨1, rfl, -1, rfl, rfl, rfl⟩) fun vs s4 ⟨o, H4, I4, ps, eo, e4⟩ => ?_
  subst eo e4
  have I5 : Inv X pins σ H4 { s4 with heap := s4.heap.push { cls := .type "slice", data := .fields #[vl, vu, vs] } } := I4.kept (t' := s4.toks) fun b ob q => Heap.get?_push_of_some _ q
  rcases hx with ⟨hx, q⟩ | ⟨hx, q⟩
  · obtain ⟨its, r, ht, hz⟩ := I5.list hx
    have hlen := r.length
    show wpAny (model X.prog X.w) X.A (subscriptTail e (.Slice none none (some (.UnaryOp .USub (.Constant (.int 1) k p1) p2)) p3) (.ref a) (.ref s4.heap.objs.size)) (EP X pins σ Q) X.xe { s4 with heap := s4.heap.push { cls := .type "slice", data := .fields #[vl, vu, vs] } }
    refine tail_any (ops := [.ref a, .ref s4.heap.objs.size]) ht.isList.typeIs (PySem.slot_list_getitem.lookup) ?_ (by with_unfolding_all rfl)
    refine wpAny_getItem_list_slice ht.isList (Heap.IsSliceOf.new _ vl vu vs) pl pu ps (by decide) ?_ (by rw [List.size_toArray]; omega)
    rw [PySem.W.krv_pick]
    refine ⟨.ref _, _, I5.laid (t' := s4.toks) (o := .lst xs.reverse) (fun b ob q => Heap.get?_push_of_some _ q) (Nat.le_refl _) ?_, rfl, q _ (I5.hok.fresh (Nat.le_refl _))⟩
    exact ⟨by rw [List.length_reverse]; exact hz, _, 0, r.reverse, Heap.get?_push_size _ rfl⟩
  · obtain ⟨its, r, ht, hz⟩ := I5.tuple hx
    have hlen := r.length
    obtain ⟨tk, rfl⟩ : ∃ tk, vs = .int (-1) tk := by cases ps with | int i t => exact ⟨t, rfl⟩
    show wpAny (model X.prog X.w) X.A (subscriptTail e (.Slice none none (some (.UnaryOp .USub (.Constant (.int 1) k p1) p2)) p3) (.ref a) (.ref s4.heap.objs.size)) (EP X pins σ Q) X.xe { s4 with heap := s4.heap.push { cls := .type "slice", data := .fields #[vl, vu, .int (-1) tk] } }
    refine tail_any (ops := [.ref a, .ref s4.heap.objs.size]) ht.typeIs (slot_tuple_getitem.lookup) ?_ (by with_unfolding_all rfl)
    refine TLH.getItem_tuple_rev ht (Heap.IsSliceOf.new _ vl vu (.int (-1) tk)) pl pu ?_ (by rw [List.size_toArray]; omega)
    refine ⟨.ref _, _, I5.laid (t' := s4.toks) (o := .tup xs.reverse) (fun b ob q => Heap.get?_push_of_some _ q) (Nat.le_refl _) ?_, rfl, q _ (I5.hok.fresh (Nat.le_refl _))⟩
    exact ⟨by rw [List.length_reverse]; exact hz, its.reverse, r.reverse, _, Heap.get?_push_size _ rfl, rfl, 0, by simp⟩
theorem ix_dict (hu : X.A.units + 1 < cLine) : IxR X (fun x y H Q => ∃ a v, x = .ref a ∧ DGet H a y (some v) ∧ Q v H) := by
  intro value slice pins s σ H x y v u Q I rx ry h hs
  obtain ⟨a, w, rfl, g, q⟩ := h
  cases rx
  exact tail_any (dict_typeIs I g) PySem.F.slot_dict_getitem.lookup (d_getItem hu I g ry fun w' s' I' rw' => ⟨w, H, I', rw', q⟩) hs
def rIdx (K : PySem.W.Frag) : R2 := fun x y H Q => ∃ (Z : Addr → Prop) (ι : Nat → Addr) (S : Sto) (a b t : T), Rel K Z ι S H ∧ Is K Z H ι S.length x a ∧ Is K Z H ι S.length y b ∧ idxF a b S = some t ∧ ∀ v, Is K Z H ι S.length v t → Q v H
theorem atI_isAll {K : PySem.W.Frag} {Z : Addr → Prop} {H : Hp} {ι : Nat → Addr} {n : Nat} {vs : List V} {ts : List T} {i : Int} {t : T} (ia : IsAll K Z H ι n vs ts) (e : atI ts i = some t) : ∃ v, atI vs i = some v ∧ Is K Z H ι n v t := by
  unfold atI at e ⊢
  rw [ia.length]
  cases q : ixN ts.length i with
  | none => rw [q] at e; cases e
  | some j =>
    rw [q] at e
    obtain ⟨v, hv, iv⟩ := ia.get (show ts[j]? = some t from e)
    exact ⟨v, hv, iv⟩
theorem ix_T (hu : X.A.units + 1 < cLine) : IxR X (rIdx X.K) := by
  intro value slice pins s σ H x y v u Q I rx ry h hs
  obtain ⟨Z, ι, S, a, b, t, R, ia, ib, e, ok⟩ := h
  unfold idxF at e
  split at e
  · split at e
    · rename_i z b i
      split at e
      · rename_i g
        cases q : atI z.cps.toList i with
        | none => rw [q] at e; cases e
        | some c =>
          rw [q] at e
          cases e
          exact ix_str value slice pins s σ H x y v u Q I rx ry ⟨z, i, c, is_str ia, is_int ib, Nat.le_trans g LIM_le, q, ok _ (.str _)⟩ hs
      · cases e
    · cases e
  · split at e
    · rename_i xs q
      split at e
      · rename_i i
        obtain ⟨p, vs, rfl, hp, iv⟩ := seq_ok R ia q
        obtain ⟨w, hw, iw⟩ := atI_isAll iv e
        rcases hp with hp | hp
        · exact ix_list value slice pins s σ H _ y v u Q I rx ry ⟨p, vs, i, w, rfl, is_int ib, hp, hw, ok w iw⟩ hs
        · exact ix_tup value slice pins s σ H _ y v u Q I rx ry ⟨p, vs, i, w, rfl, is_int ib, hp, hw, ok w iw⟩ hs
      · cases e
    · split at e
      · rename_i d q
        obtain ⟨c, rfl, hd⟩ := dict_ok R ia q
        cases q2 : d.look b with
        | none => rw [q2] at e; cases e
        | some o =>
          rw [q2] at e
          have e : o = some t := e
          obtain ⟨o', g, z⟩ := look_ok hd ib q2
          rcases z with ⟨z, _⟩ | ⟨w, t', z1, z2, iw⟩
          · rw [e] at z; cases z
          · rw [e] at z1
            cases z1
            subst z2
            exact ix_dict hu value slice pins s σ H _ y v u Q I rx ry ⟨c, w, rfl, g, ok w iw⟩ hs
      · cases e
theorem idx_lift {K : PySem.W.Frag} {XR : XRel} {W : WX} {fa fb : SE} {σ : L2.St} {H : Hp} {Q : VK} (h : liftE K XR W (bindE fa fun x => bindE fb fun y => fun l S => match idxF x y S with
    | some t => some (.ok t, S)
    | none => none) σ H Q) : tOp (rIdx K) (liftE K XR W fa) (liftE K XR W fb) σ H Q := by
  refine lift_mono (fun x H1 h1 => ?_) (lift_bind0 h)
  have h1' : liftK K XR W [x] (fun ts => bindE fb fun b => fun l S => match ts with | [a] => (match idxF a b S with | some t => some (.ok t, S) | none => none) | _ => none) σ H1 Q := by
    obtain ⟨Z, ι, S, l, ts, R, sl, ia, p⟩ := h1
    refine ⟨Z, ι, S, l, ts, R, sl, ia, ?_⟩
    cases ia with
    | cons i j => cases j; exact p
  refine lift_mono (fun y H2 h2 => ?_) (lift_bind h1')
  obtain ⟨Z, ι, S, l, ts, R, sl, ia, p⟩ := h2
  cases ia with
  | cons iy j =>
    cases j with
    | cons ix k =>
      cases k
      dsimp only at p
      split at p
      · rename_i t e
        exact ⟨Z, ι, S, _, _, t, R, ix, iy, e, fun v iv => p ι H2 v Step.refl R iv⟩
      · exact p.elim
def rSlT (K : PySem.W.Frag) : V → Option Int → Option Int → Hp → VK → Prop := fun x lo hi H Q => ∃ (Z : Addr → Prop) (ι : Nat → Addr) (S : Sto) (a : T) (r : Raw), Rel K Z ι S H ∧ Is K Z H ι S.length x a ∧ slF a lo hi S = some r ∧ RawOk K Z ι S.length H Q r
theorem cut_isAll {K : PySem.W.Frag} {Z : Addr → Prop} {H : Hp} {ι : Nat → Addr} {n : Nat} {vs : List V} {ts : List T} (lo hi : Option Int) (ia : IsAll K Z H ι n vs ts) : IsAll K Z H ι n (cutV vs lo hi) (cutT ts lo hi) := by
  unfold cutV cutT
  rw [ia.length]
  exact (ia.drop _).take _
theorem cutT_whole (xs : List T) (lo hi : Option Int) (h : HT.sIx xs.length 0 lo = 0 ∧ HT.sIx xs.length xs.length hi = xs.length) : cutT xs lo hi = xs := by
  unfold cutT
  rw [h.1, h.2]
  simp
theorem sl_T : SlR X (rSlT X.K) := by
  intro pins s σ H x v vl vu lo hi sl Q I rx hs pl pu h
  obtain ⟨Z, ι, S, a, r, R, ia, e, ok⟩ := h
  unfold slF at e
  split at e
  · cases e
    obtain ⟨p, vs, rfl, hp, iv⟩ := is_tup ia
    refine sl_tupA pins s σ H _ v vl vu lo hi sl Q I rx hs pl pu ⟨p, vs, rfl, .of hp, fun w => ?_, fun w => raw_tup R ok (cut_isAll lo hi iv)⟩
    rw [iv.length] at w
    rw [cutT_whole _ _ _ w] at ok
    exact raw_tup' ok hp iv
  · split at e
    · rename_i z g
      cases e
      obtain rfl := is_str ia
      exact sl_str pins s σ H _ v vl vu lo hi sl Q I rx hs pl pu ⟨z, rfl, Nat.le_trans g LIM_le, raw_str ok⟩
    · cases e
  · split at e
    · rename_i nt _ _ xs q
      cases e
      have ql : S.lseq a = some xs := by
        cases a <;> first | exact q | exact absurd rfl (nt _)
      obtain ⟨p, vs, rfl, hp, iv⟩ := lseq_ok R ia ql
      exact sl_list pins s σ H _ v vl vu lo hi sl Q I rx hs pl pu ⟨p, vs, rfl, hp, fun z hz => ok _ z (cut_isAll lo hi iv) hz⟩
    · cases e
end
end TL
namespace TL
open PySem PySem.Spec PyProof.Rows L2
section
variable {X : Cx} {K : PySem.W.Frag} {Z : Addr → Prop} {H : Hp} {ι : Nat → Addr} {S : Sto}
theorem call_intF : CallR X (.type "int") (rBi X.K intF) := by
  intro pins s σ H xs us Q I rx h
  obtain ⟨Z, ι, S, ts, r, R, ia, e, ok⟩ := h
  unfold intF at e
  split at e
  · cases e
    obtain ⟨x, rfl, ix⟩ := ia.inv1
    exact call_int1 pins s σ H _ us Q I rx (.inl ⟨_, by rw [is_int ix], raw_int ok⟩)
  · cases e
    obtain ⟨x, rfl, ix⟩ := ia.inv1
    exact call_int1 pins s σ H _ us Q I rx (.inr ⟨_, by rw [is_bl ix], raw_int ok⟩)
  · cases e
theorem call_strF : CallR X (.type "str") (rBi X.K strF) := by
  intro pins s σ H xs us Q I rx h
  obtain ⟨Z, ι, S, ts, r, R, ia, e, ok⟩ := h
  unfold strF at e
  split at e
  · obtain ⟨g, rfl⟩ := guardR_some e
    obtain ⟨x, rfl, ix⟩ := ia.inv1
    exact call_str_int pins s σ H _ us Q I rx ⟨_, by rw [is_int ix], of_decide_eq_true g, raw_str ok⟩
  · cases e
theorem tupI_ok {n : Nat} {x : V} {t : T} {ns : List Int} (h : Is K Z H ι n x t) (e : T.tupI t = some ns) : t = T.ofInts ns ∧ ns ≠ [] ∧ ∃ a, x = .ref a ∧ H a = some (.tup (ns.map V.int)) := by
  cases h with
  | tup h hs =>
    rename_i a vs ts
    simp only [T.tupI] at e
    split at e
    · rename_i m ms q
      cases e
      have e1 := ints_ok hs q
      subst e1
      refine ⟨?_, by simp, a, rfl, h⟩
      have : ∀ {ts : List T} {ns : List Int}, T.ints ts = some ns → ts = ns.map T.int := by
        intro ts
        induction ts with
        | nil => intro ns h; cases h; rfl
        | cons t r ih =>
          intro ns h
          cases t <;> simp only [T.ints] at h <;> try cases h
          rename_i i
          cases q : T.ints r with
          | none => rw [q] at h; cases h
          | some ks => rw [q] at h; cases h; rw [ih q]; rfl
      rw [this q]
      rfl
    · cases e
  | _ => cases e
theorem tupIs_ok {n : Nat} : ∀ {vs : List V} {ts : List T} {l : List (List Int)}, IsAll K Z H ι n vs ts → T.tupIs ts = some l → vs.map (kOf H) = l ∧ ∀ x ∈ vs, ∃ t ns, x = V.ref t ∧ H t = some (.tup (ns.map V.int)) ∧ ns ≠ []
  | _, _, _, .nil, e => by cases e; exact ⟨rfl, fun _ h => nomatch h⟩
  | _, _, _, .cons (v := v) (vs := vs) (t := t) (ts := ts) i is, e => by
    simp only [T.tupIs] at e
    cases q : T.tupI t with
    | none => rw [q] at e; cases e
    | some m =>
      cases q2 : T.tupIs ts with
      | none => rw [q, q2] at e; cases e
      | some ms =>
        rw [q, q2] at e
        cases e
        obtain ⟨_, hne, a, rfl, ha⟩ := tupI_ok i q
        obtain ⟨h1, h2⟩ := tupIs_ok is q2
        refine ⟨?_, fun x hx => ?_⟩
        · rw [List.map_cons, h1]
          have : kOf H (.ref a) = m := by
            show (match H a with | some (.tup vs) => vs.map vInt | _ => []) = m
            rw [ha]
            exact vInt_map m
          rw [this]
        · rcases List.mem_cons.mp hx with rfl | hx
          · exact ⟨a, m, rfl, ha, hne⟩
          · exact h2 x hx
theorem isAll_of_kOf {n : Nat} : ∀ {vs : List V}, (∀ x ∈ vs, ∃ t ns, x = V.ref t ∧ H t = some (.tup (ns.map V.int)) ∧ ns ≠ []) → IsAll K Z H ι n vs ((vs.map (kOf H)).map T.ofInts)
  | [], _ => .nil
  | v :: vs, h => by
    obtain ⟨t, ns, rfl, ht, _⟩ := h v List.mem_cons_self
    refine .cons ?_ (isAll_of_kOf fun x hx => h x (List.mem_cons_of_mem _ hx))
    have : kOf H (.ref t) = ns := by
      show (match H t with | some (.tup vs) => vs.map vInt | _ => []) = ns
      rw [ht]
      exact vInt_map ns
    rw [this]
    exact .tup ht (isAll_ints ns)
theorem call_sortedF : CallR X (.builtin "sorted") (rBi X.K sortedF) := by
  intro pins s σ H xs us Q I rx h
  obtain ⟨Z, ι, S, ts, r, R, ia, e, ok⟩ := h
  unfold sortedF at e
  split at e
  · rename_i t
    obtain ⟨x, rfl, ix⟩ := ia.inv1
    split at e
    · rename_i xs q
      split at e
      · rename_i ns q2
        cases e
        obtain ⟨a, vs, rfl, hs, iv⟩ := lseq_ok R ix q
        rw [ints_ok iv q2] at hs
        exact cr_sortedI pins s σ H _ us Q I rx ⟨a, ns, rfl, hs, fun ns' p h1 h2 hp => by
          rw [srtI_unique h2 (sortI_sorted ns) (h1.trans (sortI_perm ns).symm)]
          exact ok _ p (isAll_ints _) hp⟩
      · cases q3 : T.tupIs xs with
        | none => rw [q3] at e; cases e
        | some l =>
          rw [q3] at e
          cases e
          obtain ⟨a, vs, rfl, hs, iv⟩ := lseq_ok R ix q
          obtain ⟨h1, h2⟩ := tupIs_ok iv q3
          refine cr_sortT pins s σ H _ us Q I rx ⟨a, vs, rfl, hs, h2, fun ys p hp hsr hn => ?_⟩
          refine ok ys p ?_ hn
          have hy : ∀ x ∈ ys, ∃ t ns, x = V.ref t ∧ H t = some (.tup (ns.map V.int)) ∧ ns ≠ [] := fun x hx => h2 x (hp.mem_iff.mp hx)
          have e1 : ys.map (kOf H) = sortL l := by
            refine srtL_unique hsr (sortL_sorted l) ?_
            have := hp.map (kOf H)
            rw [h1] at this
            exact this.trans (sortL_perm l).symm
          rw [← e1]
          exact isAll_of_kOf hy
    · cases e
  · cases e
end
end TL
namespace L2
open PySem PySem.Spec PyProof.Rows PySem.W
variable {X : Cx}
def rMinD (K : PySem.W.Frag) : List V → Hp → VK → Prop := fun vs H Q => ∃ (a : Addr) (xs : List V) (x : PyData) (ds : List PyData), vs = [V.ref a] ∧ SqL K H a xs ∧ DpAll K H xs (x :: ds) ∧ AlikeAll (x :: ds) ∧ PyData.depthAll (x :: ds) ≤ 60 ∧ ∀ (i : Nat) (v : V), xs[i]? = some v → (x :: ds)[i]? = some (minD x ds) → Q v H
theorem minD_mem (x : PyData) : ∀ ds : List PyData, minD x ds ∈ x :: ds := by
  intro ds
  unfold minD
  induction ds generalizing x with
  | nil => exact List.mem_cons_self
  | cons y ds ih =>
    rw [List.foldl_cons]
    by_cases c : dataLt y x = true
    · rw [if_pos c]
      exact List.mem_cons_of_mem _ (ih y)
    · rw [if_neg c]
      rcases List.mem_cons.mp (ih x) with h | h
      · rw [h]; exact List.mem_cons_self
      · exact List.mem_cons_of_mem _ (List.mem_cons_of_mem _ h)
theorem cr_minD (hc : X.calm = true) (hun : X.A.units + 64 < cLine) : CallR X (.builtin "min") (rMinD X.K) := by
  intro pins s σ H vs us Q I r h
  obtain ⟨a, xs, x, ds, rfl, hs, hd, ha, hu, q⟩ := h
  obtain ⟨its, rv, hl, _⟩ := I.list hs
  rw [Vals.ref1 r]
  obtain ⟨as, hr⟩ := Dp.readsAll I (x :: ds) xs its hd rv
  refine min_list_data (vs := its.toArray) (I.ok.hd hc) hl.isList (by simpa using hr) ha (by omega) fun i v h' tk bs hv hrd hk => ?_
  have hv' : its[i]? = some v := by simpa using hv
  obtain ⟨bs2, r2, hi, hm, _⟩ := readsAll_at hr i v hv'
  have e : (x :: ds).getD i .none = minD x ds := alike_unique _ _ v _ _ (ha.1 _ hm _ (minD_mem x ds)) (reads_keeps hk r2) hrd
  obtain ⟨y, hy⟩ : ∃ y, xs[i]? = some y := by
    cases e2 : xs[i]? with
    | some y => exact ⟨y, rfl⟩
    | none => rw [rv.none_of e2] at hv'; cases hv'
  obtain ⟨u, h1, h2⟩ := rv.get hy
  rw [hv'] at h1
  cases h1
  refine ⟨y, H, I.kept hk, h2, q i y hy ?_⟩
  rw [← e, List.getD_eq_getElem?_getD, List.getElem?_eq_getElem hi]
  rfl
end L2
namespace TL
open L2 PySem PySem.Spec PyProof.Rows PySem.W
def srtD (xs : List V) (ds : List PyData) : List V := ((xs.zip ds).mergeSort (dataLe false Prod.snd)).map Prod.fst
def rSortD (K : PySem.W.Frag) : List V → Hp → VK → Prop := fun vs H Q => ∃ (a : Addr) (xs : List V) (ds : List PyData), vs = [V.ref a] ∧ SqL K H a xs ∧ DpAll K H xs ds ∧ AllAlike ds ∧ Sortable ds ∧ (∀ d ∈ ds, d.depth ≤ 60) ∧ ∀ (p : Addr), H p = none → Q (.ref p) (L2.upd H p (.lst (srtD xs ds)))
section
variable {X : Cx} {pins : List (Addr × Obj)} {σ : L2.St} {H : Hp} {s : Shared}
theorem each_D (I : Inv X pins σ H s) : ∀ {ds : List PyData} {xs : List V} {us : List Value}, DpAll X.K H xs ds → Vals xs us → EachIs (fun (v : Value) (b : V × PyData) => RelV b.1 v) us (xs.zip ds) ∧ EachIs (fun (v : Value) (b : V × PyData) => ∃ as, Reads s.heap v b.2 as) us (xs.zip ds) ∧ (xs.zip ds).map Prod.snd = ds ∧ (xs.zip ds).length = xs.length := by
  intro ds xs us h r
  induction r generalizing ds with
  | nil => cases h; exact ⟨.nil, .nil, rfl, rfl⟩
  | cons r rs ih =>
    cases h with
    | cons h hs =>
      obtain ⟨a, b, c, d⟩ := ih hs
      exact ⟨.cons r a, .cons (Dp.reads I _ _ _ h r) b, by simp [c], by simp [d]⟩
theorem each_back : ∀ {us : List Value} {bs : List (V × PyData)}, EachIs (fun (v : Value) (b : V × PyData) => RelV b.1 v) us bs → Vals (bs.map Prod.fst) us := by
  intro us bs h
  induction h with
  | nil => exact .nil
  | cons r rs ih => exact .cons r ih
end
theorem cr_sortD {X : Cx} (hun : X.A.units + 64 < cLine) : CallR X (.builtin "sorted") (rSortD X.K) := by
  intro pins s σ H vs us Q I r h
  obtain ⟨a, xs, ds, rfl, hs, hd, hal, hso, hdp, q⟩ := h
  obtain ⟨its, rv, hl, hz⟩ := I.list hs
  rw [Vals.ref1 r]
  obtain ⟨e1, e2, e3, e4⟩ := each_D I hd rv
  have hlen := rv.length
  refine sorted_data (enc := Prod.snd) (bs := xs.zip ds) (vs := its) hl.isList e1 e2 (by rw [e3]; exact hal) (by rw [e3]; exact hso) (by rw [e4]; exact hz) (fun b hb => ?_) fun out ho hE => ?_
  · have hb2 : b.2 ∈ ds := by rw [← e3]; exact List.mem_map.mpr ⟨b, hb, rfl⟩
    have := hdp _ hb2
    omega
  · have hv := each_back hE
    obtain ⟨n, hn⟩ : ∃ n, (sortedAll s.heap its out.toArray).get? (s.heap.objs.size + 1) = some (seqObj "list" out.toArray n) := sortedAll_at s.heap its out.toArray
    refine ⟨.ref (s.heap.objs.size + 1), L2.upd H (s.heap.objs.size + 1) (.lst (srtD xs ds)), I.laid (t' := s.toks) (fun b o e => sortedAll_old e) (Nat.le_succ _) ⟨?_, out, n, hv, hn⟩, rfl, q _ (I.hok.fresh (Nat.le_succ _))⟩
    unfold srtD
    rw [List.length_map, List.length_mergeSort, e4]
    exact hz
def rSortK : List V → Hp → VK → Prop := fun vs H Q => ∃ (d : Addr) (kvs : List (List Key × V)), vs = [V.ref d] ∧ Rd H d (.dT kvs) ∧ AllAlike (kvs.map fun p => keysD p.1) ∧ (∀ p ∈ kvs, p.1 ≠ []) ∧
  ∀ (p : Addr) (bs : List Addr), H p = none → IsKeys H kvs bs → Q (.ref p) (L2.upd H p (.lst (srtD (bs.map V.ref) (kvs.map fun p => keysD p.1))))
theorem keys_none {h : Heap} : ∀ {ks : List Key} {vs : List Value} {as : List Addr}, ReadsAll h vs (ks.map keyD) as → as = []
  | [], _, _, r => by cases r; rfl
  | .inl i :: ks, _, _, r => by
    cases r with
    | cons a b =>
      have := keys_none b
      subst this
      cases a
      rfl
  | .inr i :: ks, _, _, r => by
    cases r with
    | cons a b =>
      have := keys_none b
      subst this
      cases a
      rfl
theorem dp_keys {K : PySem.W.Frag} {H : Hp} : ∀ ks : List Key, DpAll K H (ks.map kV) (ks.map keyD)
  | [] => .nil
  | .inl i :: ks => .cons (.int i) (dp_keys ks)
  | .inr i :: ks => .cons (.str i) (dp_keys ks)
theorem dp_isKeys {K : PySem.W.Frag} {H : Hp} {kvs : List (List Key × V)} {bs : List Addr} (h : IsKeys H kvs bs) : DpAll K H (bs.map V.ref) (kvs.map fun p => keysD p.1) := by
  unfold IsKeys at h
  induction h with
  | nil => exact .nil
  | cons a b ih => exact .cons (.tup (.of a) (dp_keys _)) ih
theorem keysD_depth (ks : List Key) : (keysD ks).depth ≤ 1 := by
  have : PyData.depthAll (ks.map keyD) = 0 := by
    induction ks with
    | nil => simp [PyData.depthAll]
    | cons k ks ih => cases k <;> simp [keyD, PyData.depthAll, PyData.depth] <;> exact ih
  simp only [keysD, PyData.depth]
  omega
theorem cr_sortK {X : Cx} (hc : X.calm = true) (hun : X.A.units + 64 < cLine) : CallR X (.builtin "sorted") rSortK := by
  intro pins s σ H xs us Q I r h
  obtain ⟨d, kvs, rfl, hd, hal, hne, q⟩ := h
  obtain ⟨u, rfl, rx⟩ := r.one
  cases rx
  obtain ⟨z, hs, ks, pr, o, es, ep, ho, hx, hdt, he, hn⟩ := (show ObjOk X.prog X.w H s.heap d (.dT kvs) from hd.ok I.hok)
  have l1 : es.size = ks.length := size_of_entries he
  have l2 : kvs.length = ks.length := Paired.length pr
  have hk0 := isKeys_of pr
  generalize hbs : (ks.map fun x => x.2.1) = bs at hk0
  have lb : bs.length = ks.length := by rw [← hbs, List.length_map]
  refine Calls.call_function_entry PyProof.Rows.kind_sorted PyProof.Rows.plain_sorted PyProof.Rows.entry_sorted (PyProof.Rows.args_sorted1 _) ?_
  unfold Builtin.«sorted»
  refine wpAny_bind (m := checkCount "sorted" 1 1 _) (wpAny_pure ?_)
  refine wpAny_bind (PySem.W.kdu_collect (A := X.A.in1) (kdl_raw hs hx hdt) (I.ok.hd hc) ho (by omega) fun h' tk acc hk it => ?_)
  have ea : acc.toList = bs.map Value.ref := by
    have hl : acc.toList.length = ks.length := by rw [Array.length_toList, it.1]; exact l1
    apply List.ext_getElem?
    intro j
    rw [List.getElem?_map, ← hbs, List.getElem?_map]
    cases hj : acc.toList[j]? with
    | none =>
      have h1 := List.getElem?_eq_none_iff.mp hj
      rw [List.getElem?_eq_none (by omega)]
      rfl
    | some v =>
      obtain ⟨en, hen, hv⟩ := it.2 j v (by rw [← Array.getElem?_toList]; exact hj)
      have qe := entry_at he j
      rw [hen] at qe
      cases hb : ks[j]? with
      | none =>
        rw [hb] at qe
        exact nomatch (show some en = none from qe)
      | some b =>
        rw [hb] at qe
        have e2 : en = entryOfKey (tupleKind (mixKind X.prog X.w)) b := Option.some.inj qe
        rw [hv, e2]
        rfl
  have I1 : Inv X pins σ H { s with heap := h', toks := tk } := I.kept hk
  have hal2 : acc.toList.length = bs.length := by rw [ea, List.length_map]
  refine wpAny_bind (wpAny_newList ?_ (by omega))
  have hoL : (h'.push (seqObj "list" acc.toList.toArray 0)).get? h'.objs.size = some (seqObj "list" acc.toList.toArray 0) := Heap.get?_push_size _ rfl
  show wpAny _ _ _ _ _ { s with heap := h'.push (seqObj "list" acc.toList.toArray 0), toks := tk }
  have I2 : Inv X pins σ H { s with heap := h'.push (seqObj "list" acc.toList.toArray 0), toks := tk } := I1.kept fun b o e => Heap.get?_push_of_some _ e
  have rv : Vals (bs.map V.ref) acc.toList := by rw [ea]; exact vals_refs _
  have hdp := dp_isKeys (K := X.K) hk0
  obtain ⟨e1, e2, e3, e4⟩ := each_D I2 hdp rv
  have mem : ∀ b ∈ (bs.map V.ref).zip (kvs.map fun p => keysD p.1), ∃ p ∈ kvs, keysD p.1 = b.2 := fun b hb => by
    have hb2 : b.2 ∈ (kvs.map fun p => keysD p.1) := by rw [← e3]; exact List.mem_map.mpr ⟨b, hb, rfl⟩
    exact List.mem_map.mp hb2
  refine wpAny_bind (wpAny_holding (list_sort_data (vs := acc.toList) (enc := Prod.snd) (bs := (bs.map V.ref).zip (kvs.map fun p => keysD p.1)) hoL e1 ((each_mem e2).mono fun v b hvb => ?_) (by rw [e3]; exact hal) (by
      rw [e3]
      refine .inl fun d hd => ?_
      obtain ⟨p, hp, rfl⟩ := List.mem_map.mp hd
      have := hne p hp
      unfold keysD
      cases hp1 : p.1 with
      | nil => exact absurd hp1 this
      | cons k r => exact ⟨_, _, rfl⟩) (by rw [e4, List.length_map]; omega) (fun b hb => ?_) fun out ho2 hE => ?_))
  · obtain ⟨⟨as, hr⟩, hb⟩ := hvb
    obtain ⟨p, hp, ep⟩ := mem b hb
    refine ⟨as, hr, ?_⟩
    rw [← ep] at hr
    cases hr with
    | tuple _ _ _ h4 =>
      rw [keys_none h4]
      exact List.not_mem_nil
  · obtain ⟨p, hp, ep⟩ := mem b hb
    have := keysD_depth p.1
    rw [ep] at this
    show X.A.in1.units + 1 + b.2.depth < cLine
    have hu1 : X.A.in1.units ≤ X.A.units + 2 := by unfold Around.in1; simp [Around.units]; try omega
    omega
  · have hv : Vals (srtD (bs.map V.ref) (kvs.map fun (p : List Key × V) => keysD p.1)) out := each_back hE
    obtain ⟨e', he'⟩ := PyProof.Rows.sortedHeap_at (vs := acc.toList) (out := out.toArray) hoL
    refine wpAny_pure ⟨_, rfl, .ref h'.objs.size, L2.upd H h'.objs.size (.lst (srtD (bs.map V.ref) (kvs.map fun (p : List Key × V) => keysD p.1))), I1.laid (t' := tk) (fun b u e => ?_) (Nat.le_refl _) ⟨?_, out, e', hv, he'⟩, rfl, q _ bs (I1.hok.fresh (Nat.le_refl _)) hk0⟩
    · have hb : b < h'.objs.size := Heap.lt_size e
      rw [PyProof.Rows.sortedHeap_old (Nat.ne_of_lt hb) (by rw [size_push']; exact Nat.lt_succ_of_lt hb)]
      exact Heap.get?_push_of_some _ e
    · unfold srtD
      rw [List.length_map, List.length_mergeSort, e4, List.length_map]
      omega
section
variable {K : PySem.W.Frag} {Z : Addr → Prop} {ι : Nat → Addr} {S : Sto} {H : Hp}
theorem isAll_zip {n : Nat} : ∀ {vs : List V} {ts : List T} {ds : List PyData}, IsAll K Z H ι n vs ts → vs.length = ds.length → ∃ zs : List ((V × T) × PyData), zs.map (fun z => (z.1.1, z.2)) = vs.zip ds ∧ zs.map (fun z => (z.1.2, z.2)) = ts.zip ds ∧ ∀ z ∈ zs, Is K Z H ι n z.1.1 z.1.2
  | _, _, [], .nil, _ => ⟨[], rfl, rfl, fun _ h => nomatch h⟩
  | _, _, d :: ds, .cons i is, h => by
    obtain ⟨zs, h1, h2, h3⟩ := isAll_zip is (by simpa using h)
    refine ⟨((_, _), d) :: zs, by rw [List.map_cons, h1]; rfl, by rw [List.map_cons, h2]; rfl, fun z hz => ?_⟩
    rcases List.mem_cons.mp hz with rfl | hz
    · exact i
    · exact h3 z hz
theorem isAll_of {n : Nat} : ∀ zs : List ((V × T) × PyData), (∀ z ∈ zs, Is K Z H ι n z.1.1 z.1.2) → IsAll K Z H ι n (zs.map fun z => z.1.1) (zs.map fun z => z.1.2)
  | [], _ => .nil
  | z :: zs, h => .cons (h z List.mem_cons_self) (isAll_of zs fun y hy => h y (List.mem_cons_of_mem _ hy))
theorem isAll_srt {n : Nat} {vs : List V} {ts : List T} {ds : List PyData} (h : IsAll K Z H ι n vs ts) (hl : vs.length = ds.length) : IsAll K Z H ι n (srtD vs ds) (srtT ts ds) := by
  obtain ⟨zs, h1, h2, h3⟩ := isAll_zip h hl
  have e1 : srtD vs ds = (zs.mergeSort (dataLe false Prod.snd)).map fun z => z.1.1 := by
    unfold srtD
    rw [← h1, show (zs.map fun z => (z.1.1, z.2)).mergeSort (dataLe false Prod.snd) = (zs.mergeSort (dataLe false Prod.snd)).map fun z => (z.1.1, z.2) from (List.map_mergeSort (f := fun z : (V × T) × PyData => (z.1.1, z.2)) (r := dataLe false Prod.snd) (s := dataLe false Prod.snd) (l := zs) (fun a _ b _ => rfl)).symm, List.map_map]
    rfl
  have e2 : srtT ts ds = (zs.mergeSort (dataLe false Prod.snd)).map fun z => z.1.2 := by
    unfold srtT
    rw [← h2, show (zs.map fun z => (z.1.2, z.2)).mergeSort (dataLe false Prod.snd) = (zs.mergeSort (dataLe false Prod.snd)).map fun z => (z.1.2, z.2) from (List.map_mergeSort (f := fun z : (V × T) × PyData => (z.1.2, z.2)) (r := dataLe false Prod.snd) (s := dataLe false Prod.snd) (l := zs) (fun a _ b _ => rfl)).symm, List.map_map]
    rfl
  rw [e1, e2]
  exact isAll_of _ fun z hz => h3 z (List.mem_mergeSort.mp hz)
theorem dpAll_len : ∀ {vs : List V} {ds : List PyData}, DpAll K H vs ds → vs.length = ds.length
  | _, _, .nil => rfl
  | _, _, .cons _ h => congrArg (· + 1) (dpAll_len h)
end
theorem depth_mem {d : PyData} : ∀ {ds : List PyData}, d ∈ ds → d.depth ≤ PyData.depthAll ds
  | x :: ds, h => by
    simp only [PyData.depthAll]
    rcases List.mem_cons.mp h with rfl | h
    · omega
    · have := depth_mem h; omega
variable {X : Cx}
theorem call_sortDF (hun : X.A.units + 64 < cLine) : CallR X (.builtin "sorted") (rBi X.K sortDF) := by
  intro pins s σ H xs us Q I rx h
  obtain ⟨Z, ι, S, ts, r, R, ia, e, ok⟩ := h
  unfold sortDF at e
  split at e
  · rename_i t
    obtain ⟨x, rfl, ix⟩ := ia.inv1
    split at e
    · rename_i xs q
      split at e
      · rename_i ds q2
        cases e
        obtain ⟨a, vs, rfl, hs, iv⟩ := lseq_ok R ix q
        unfold dataL at q2
        split at q2
        · rename_i ds' q3
          split at q2
          · rename_i hc
            cases q2
            have hd := (toDs_ok (fun i d hi he => refD_ok R 4 i d hi he) iv q3).1
            obtain ⟨h1, h2, h3⟩ := hc
            refine cr_sortD hun pins s σ H _ us Q I rx ⟨a, vs, ds, rfl, hs, hd, ?_, .inl fun d hm => ?_, fun d hm => Nat.le_trans (depth_mem hm) h3, fun p hp => ?_⟩
            · intro d hm e he
              exact List.all_eq_true.mp (List.all_eq_true.mp h1 d hm) e he
            · have := List.all_eq_true.mp h2 d hm
              unfold isTupC at this
              split at this
              · exact ⟨_, _, rfl⟩
              · cases this
            · exact ok _ p (isAll_srt iv (dpAll_len hd)) hp
          · cases q2
        · cases q2
      · cases e
    · cases e
  · cases e
theorem call_intSF : CallR X (.type "int") (rBi X.K intSF) := by
  intro pins s σ H xs us Q I rx h
  obtain ⟨Z, ι, S, ts, r, R, ia, e, ok⟩ := h
  unfold intSF at e
  split at e
  · rename_i z
    obtain ⟨x, rfl, ix⟩ := ia.inv1
    obtain rfl := is_str ix
    split at e
    · rename_i n hn
      split at e
      · rename_i hl
        cases e
        exact call_int_str pins s σ H _ us Q I rx ⟨z, n, rfl, hn, hl, raw_int ok⟩
      · cases e
    · cases e
  · cases e
theorem minTD_snd (m : T × PyData) : ∀ r : List (T × PyData), (minTD m r).2 = minD m.2 (r.map Prod.snd) := by
  intro r
  induction r generalizing m with
  | nil => rfl
  | cons y r ih =>
    unfold minTD
    rw [ih]
    unfold minD
    rw [List.map_cons, List.foldl_cons]
    by_cases c : dataLt y.2 m.2 = true
    · rw [if_pos c, if_pos c]
    · rw [if_neg c, if_neg c]
theorem dataLt_irr (d : PyData) : dataLt d d = false := lex_irrefl _
theorem dpAll_len2 {K : PySem.W.Frag} {H : Hp} {vs : List V} {ds : List PyData} (h : DpAll K H vs ds) : vs.length = ds.length := dpAll_len h
theorem call_minDF (hc : X.calm = true) (hun : X.A.units + 64 < cLine) : CallR X (.builtin "min") (rBi X.K minDF) := by
  intro pins s σ H xs us Q I rx h
  obtain ⟨Z, ι, S, ts, r, R, ia, e, ok⟩ := h
  unfold minDF at e
  split at e
  · rename_i t
    obtain ⟨x, rfl, ix⟩ := ia.inv1
    split at e
    · rename_i x0 xs0 q
      split at e
      · rename_i d ds q2
        split at e
        · rename_i hall
          cases e
          obtain ⟨a, vs, rfl, hs, iv⟩ := lseq_ok R ix q
          unfold dataL at q2
          split at q2
          · rename_i ds' q3
            split at q2
            · rename_i hcc
              cases q2
              have hd := (toDs_ok (fun i d hi he => refD_ok R 4 i d hi he) iv q3).1
              obtain ⟨h1, h2, h3⟩ := hcc
              have hl := dpAll_len2 hd
              have hl2 := iv.length
              refine cr_minD hc hun pins s σ H _ us Q I rx ⟨a, vs, d, ds, rfl, hs, hd, ?_, h3, fun i v hv hm => ?_⟩
              · refine ⟨fun d' hd' e' he' => ?_, ?_⟩
                · exact List.all_eq_true.mp (List.all_eq_true.mp h1 d' hd') e' he'
                · intro d' hd' e'
                  have := List.all_eq_true.mp h2 d' hd'
                  rw [e'] at this
                  cases this
              · obtain ⟨u, hu, iu⟩ := iv.get' hv
                have hz : ((x0, d) :: xs0.zip ds)[i]? = some (u, minD d ds) := by
                  rw [show (x0, d) :: xs0.zip ds = (x0 :: xs0).zip (d :: ds) from rfl, List.getElem?_zip_eq_some]
                  exact ⟨hu, hm⟩
                have hk := List.all_eq_true.mp hall _ (List.mem_of_getElem? hz)
                have hsn : (minTD (x0, d) (xs0.zip ds)).2 = minD d ds := by
                  rw [minTD_snd]
                  congr 1
                  refine List.map_snd_zip (Nat.le_of_eq ?_)
                  simp only [List.length_cons] at hl hl2
                  omega
                rw [hsn] at hk
                dsimp only at hk
                rw [dataLt_irr, Bool.false_or, Bool.false_or] at hk
                have := T.same_eq hk
                exact ok H v (Same.refl H) (by rw [← this]; exact iu)
            · cases q2
          · cases q2
        · cases e
      · cases e
    · cases e
  · cases e
theorem is_ofKey {K : PySem.W.Frag} {Z : Addr → Prop} {H : Hp} {ι : Nat → Addr} {n : Nat} : ∀ ks : List Key, IsAll K Z H ι n (ks.map kV) (ks.map T.ofKey)
  | [] => .nil
  | .inl i :: ks => .cons (.int i) (is_ofKey ks)
  | .inr i :: ks => .cons (.str i) (is_ofKey ks)
theorem isAll_kt {K : PySem.W.Frag} {Z : Addr → Prop} {H : Hp} {ι : Nat → Addr} {n : Nat} {kvs : List (List Key × V)} {bs : List Addr} (h : IsKeys H kvs bs) : IsAll K Z H ι n (bs.map V.ref) (kvs.map fun p => .tup (p.1.map T.ofKey)) := by
  unfold IsKeys at h
  induction h with
  | nil => exact .nil
  | cons a b ih => exact .cons (.tup a (is_ofKey _)) ih
theorem zip_fst_map {α β γ : Type} (f : α → γ) : ∀ {ks : List α} {xs : List β}, ks.length = xs.length → (ks.zip xs).map (fun p => f p.1) = ks.map f
  | [], [], _ => rfl
  | [], _ :: _, h => by simp at h
  | _ :: _, [], h => by simp at h
  | k :: ks, x :: xs, h => by
    rw [List.zip_cons_cons, List.map_cons, List.map_cons, zip_fst_map f (by simpa using h)]
theorem call_sortKF (hc : X.calm = true) (hun : X.A.units + 64 < cLine) : CallR X (.builtin "sorted") (rBi X.K sortKF) := by
  intro pins s σ H xs us Q I rx h
  obtain ⟨Z, ι, S, ts, r, R, ia, e, ok⟩ := h
  unfold sortKF at e
  split at e
  · rename_i t
    obtain ⟨x, rfl, ix⟩ := ia.inv1
    split at e
    · rename_i kvs q
      split at e
      · rename_i hcc
        cases e
        obtain ⟨a, rfl, dI⟩ := dict_ok R ix q
        cases dI with
        | t hH hkl iv =>
          rename_i ks vs tv
          have e1 : ((ks.zip tv).map fun p => keysD p.1) = ks.map keysD := zip_fst_map keysD (hkl.trans iv.length)
          have e2 : ((ks.zip vs).map fun p => keysD p.1) = ks.map keysD := zip_fst_map keysD hkl
          have e3 : ((ks.zip tv).map fun p => (T.tup (p.1.map T.ofKey))) = ks.map fun k => T.tup (k.map T.ofKey) := zip_fst_map (fun k => T.tup (k.map T.ofKey)) (hkl.trans iv.length)
          have e4 : ((ks.zip vs).map fun p => (T.tup (p.1.map T.ofKey))) = ks.map fun k => T.tup (k.map T.ofKey) := zip_fst_map (fun k => T.tup (k.map T.ofKey)) hkl
          rw [e1] at hcc
          rw [e1, e3] at ok
          obtain ⟨h1, h2⟩ := hcc
          refine cr_sortK hc hun pins s σ H _ us Q I rx ⟨a, ks.zip vs, rfl, .inl hH, ?_, fun p hp => ?_, fun p bs hp hb => ?_⟩
          · rw [e2]
            intro d hd e he
            exact List.all_eq_true.mp (List.all_eq_true.mp h1 d hd) e he
          · have hk : p.1 ∈ ks := (List.of_mem_zip hp).1
            have h3 : ∃ t, (p.1, t) ∈ ks.zip tv := by
              have : p.1 ∈ (ks.zip tv).map Prod.fst := by rw [List.map_fst_zip (Nat.le_of_eq (hkl.trans iv.length))]; exact hk
              obtain ⟨y, hy, ey⟩ := List.mem_map.mp this
              exact ⟨y.2, by rw [← ey]; exact hy⟩
            obtain ⟨t, ht⟩ := h3
            have := List.all_eq_true.mp h2 _ ht
            intro e
            rw [e] at this
            cases this
          · have hb2 := isAll_kt (K := X.K) (Z := Z) (ι := ι) (n := S.length) hb
            rw [e4] at hb2
            rw [e2]
            refine ok _ p (isAll_srt hb2 ?_) hp
            rw [List.length_map, List.length_map]
            have := Paired.length hb
            rw [List.length_zip] at this
            omega
      · cases e
    · cases e
  · cases e
end TL
namespace L2
open PySem PySem.Spec PyProof.Rows
open AutoSeq1 (wpAny_loadPart')
theorem eq_int_none (a : Int) (t : Tok) : MeetsSeq.EqGives (.int a t) .none false := fun prog w A E s Q h => by
  unfold eqBool
  refine wpAny_holding ?_
  rw [if_neg (show ¬ (Value.int a t == Value.none) = true by intro h; cases h)]
  exact wpAny_bind (SeqAt.RcAt.int_none a t prog w E _ (wpAny_truthy_bool h))
theorem plain_rng_loop : plainId "range.__contains__.loop" = true := by decide +kernel
theorem entry_rng_loop : entryFor table "range.__contains__.loop" = some Builtin.«range.__contains__.loop» := entryFor_of_tree (by kernel_rfl)
theorem rsize (a b : Int) : Builtin.Range.rangeSize a b 1 = ((b - a).toNat : Nat) := by
  unfold Builtin.Range.rangeSize
  simp
  omega
theorem rng_loop (r : Addr) (a b : Int) (t u v : Tok) (x : Value) (hx : ∀ (i : Int) (k : Tok), MeetsSeq.EqGives (.int i k) x false) (m : Nat) :
    ∀ i : Nat, (b - a).toNat - i = m → Meets (Builtin.«range.__contains__.loop» ⟨[.ref r, x, rawInt i], []⟩)
      (fun _ R s => s.heap.get? r = some { cls := .type "range", dict := none, data := .fields #[.int a t, .int b u, .int 1 v], slots := #[] } ∧ ∀ k, R (.ok (.ret (.bool false))) { s with toks := k }) := by
  induction m with
  | zero =>
    intro i hk prog w A R s h
    obtain ⟨hp, g, d, tk, os⟩ := s; obtain ⟨hl, h⟩ := h
    wp_walk
    refine wpAny_ite_true (decide_eq_true (by rw [rsize]; omega)) ?_
    wp_walk
    exact h _
  | succ k ih =>
    intro i hk prog w A R s h
    obtain ⟨hp, g, d, tk, os⟩ := s; obtain ⟨hl, h⟩ := h
    wp_walk
    refine wpAny_ite_false (decide_eq_false (by rw [rsize]; omega)) ?_
    refine wpAny_bind (wpAny_mkInt ?_)
    refine wpAny_bind (hx _ _ prog w _ _ _ _ ?_)
    have hc : ((i : Int) + 1) = ((i + 1 : Nat) : Int) := by push_cast; rfl
    wp_walk
    rw [hc]
    exact ⟨plainId_quiet plain_rng_loop _, codeAny_builtin entry_rng_loop (by
      rw [Around.under_plainId plain_rng_loop _]
      exact ih (i + 1) (by omega) prog w A R _ ⟨hl, h⟩)⟩
theorem q_contains_no (r : Addr) (a b : Int) (t u v : Tok) (x : Value) (hn : Builtin.Range.rangeExactInt? x = none) (hx : ∀ (i : Int) (k : Tok), MeetsSeq.EqGives (.int i k) x false) :
    Meets (Builtin.«range.__contains__» ⟨[.ref r, x], []⟩) (fun _ R s => s.heap.get? r = some { cls := .type "range", dict := none, data := .fields #[.int a t, .int b u, .int 1 v], slots := #[] } ∧ ∀ k, R (.ok (.ret (.bool false))) { s with toks := k }) := by
  intro prog w A R s h
  obtain ⟨hp, g, d, tk, os⟩ := s; obtain ⟨hl, h⟩ := h
  wp_walk
  rw [hn]
  wp_walk
  exact ⟨plainId_quiet plain_rng_loop _, codeAny_builtin entry_rng_loop (by
    rw [Around.under_plainId plain_rng_loop _]
    exact rng_loop r a b t u v x hx _ 0 rfl prog w A R _ ⟨hl, h⟩)⟩
section
variable {X : Cx}
theorem op_in_rngN : OpR X (compareOp .In) (fun x y H Q => ∃ a lo hi, x = V.non ∧ y = V.ref a ∧ H a = some (.rng lo hi) ∧ Q (.bl false) H) := by
  intro pins s σ H x y v u Q I rx ry h
  obtain ⟨a, lo, hi, rfl, rfl, ha, q⟩ := h
  obtain rfl : v = Value.none := rx
  obtain rfl : u = Value.ref a := ry
  obtain ⟨t1, t2, t3, ho⟩ := I.hok a _ ha
  show wpAny _ _ (do return Value.bool (← contains (Value.ref a) Value.none)) _ _ s
  refine wpAny_bind (wpAny_contains_slot (T := "range") ⟨_, ho, rfl⟩ F.slot_range_contains (call_meets F.slot_range_contains ⟨_, ho, rfl⟩ F.entry_range_contains (F.args_range_contains_2 _ _) (q_contains_no a lo hi t1 t2 t3 .none rfl eq_int_none)
    ⟨ho, fun k => wpAny_truthy_bool (wpAny_pure ⟨.bl _, H, I.tok k, rfl, q⟩)⟩))
theorem op_notIn_rngN : OpR X (compareOp .NotIn) (fun x y H Q => ∃ a lo hi, x = V.non ∧ y = V.ref a ∧ H a = some (.rng lo hi) ∧ Q (.bl true) H) := by
  intro pins s σ H x y v u Q I rx ry h
  obtain ⟨a, lo, hi, rfl, rfl, ha, q⟩ := h
  obtain rfl : v = Value.none := rx
  obtain rfl : u = Value.ref a := ry
  obtain ⟨t1, t2, t3, ho⟩ := I.hok a _ ha
  show wpAny _ _ (do return Value.bool (!(← contains (Value.ref a) Value.none))) _ _ s
  refine wpAny_bind (wpAny_contains_slot (T := "range") ⟨_, ho, rfl⟩ F.slot_range_contains (call_meets F.slot_range_contains ⟨_, ho, rfl⟩ F.entry_range_contains (F.args_range_contains_2 _ _) (q_contains_no a lo hi t1 t2 t3 .none rfl eq_int_none)
    ⟨ho, fun k => wpAny_truthy_bool (wpAny_pure ⟨.bl _, H, I.tok k, rfl, q⟩)⟩))
end
end L2
namespace TL
open PySem PySem.Spec PyProof.Rows L2
def isiTys : List String := ["int", "bool", "tuple", "list", "str", "dict"]
def ownTys : List String := ["NoneType", "bool", "int", "str", "tuple", "list", "dict"]
theorem kit_all : ∀ a ∈ ownTys, ∀ b ∈ isiTys, kitB a b = some (a == b || (a == "bool" && b == "int")) := by decide +kernel
section
variable {X : Cx} {K : PySem.W.Frag} {Z : Addr → Prop} {H : Hp} {ι : Nat → Addr} {S : Sto} {XR : XRel} {W : WX}
theorem ty_ok {x : V} {t : T} {a : String} (R : Rel K Z ι S H) (h : Is K Z H ι S.length x t) (e : S.ty t = some a) : TyX K H x (.type a) ∧ a ∈ ownTys := by
  cases h with
  | non => cases e; exact ⟨.base .non, by decide⟩
  | bl b => cases e; exact ⟨.base (.bl b), by decide⟩
  | int b => cases e; exact ⟨.base (.int b), by decide⟩
  | str b => cases e; exact ⟨.base (.str b), by decide⟩
  | fn a => cases e
  | tup h _ => cases e; exact ⟨.base (.tup h), by decide⟩
  | lst h _ _ _ => cases e; exact ⟨.base (.lst h), by decide⟩
  | scr h _ _ => cases e
  | scrK h => cases e
  | dK h _ _ _ _ => cases e; exact ⟨.base (.dK h), by decide⟩
  | dT h _ _ _ _ => cases e; exact ⟨.base (.dT h), by decide⟩
  | ref hi =>
    rename_i i
    have q : S[i]? = some S[i] := List.getElem?_eq_getElem hi
    have h := R.obj _ _ q
    simp only [Sto.ty, q] at e
    cases ho : S[i] with
    | lst xs =>
      rw [ho] at e h
      cases e
      cases h with
      | lst h _ => exact ⟨.base (.lst h), by decide⟩
    | dK xs =>
      rw [ho] at e h
      cases e
      cases h with
      | dK h _ _ => exact ⟨.base (.dK h), by decide⟩
    | dT xs =>
      rw [ho] at e h
      cases e
      cases h with
      | dT h _ _ => exact ⟨.base (.dT h), by decide⟩
theorem isi_lift {fa : SE} {ty : String} {σ : L2.St} {H : Hp} {Q : VK} (ht : ty ∈ isiTys) (h : liftE K XR W (bindE fa fun x => fun l S => boolE (isiF ty x S) l S) σ H Q) :
    tCB (rIsi K) (tCons (liftE K XR W fa) (tCons (tC (.ty ty)) tNil)) σ H Q := by
  refine lift_mono (fun x H1 h1 => ?_) (lift_bind0 h)
  obtain ⟨Z, ι, S, l, ts, R, sl, ia, p⟩ := h1
  cases ia with
  | cons i j =>
    rename_i t ts
    cases j
    dsimp only at p
    simp only [isiF] at p
    cases q : S.ty t with
    | none => rw [q] at p; exact p.elim
    | some a =>
      rw [q] at p
      obtain ⟨k, m⟩ := ty_ok R i q
      exact ⟨x, .ty ty, .type a, .type ty, _, rfl, .ty ty, k, kit_ty (kit_all a m ty ht), p ι H1 _ Step.refl R (.bl _)⟩
theorem cr_range1 : CallR X (.type "range") (fun vs H Q => ∃ j, vs = [V.int j] ∧ ∀ p, H p = none → Q (.ref p) (L2.upd H p (.rng 0 j))) := by
  intro pins s σ H vs us Q I r h
  obtain ⟨j, rfl, q⟩ := h
  obtain ⟨u1, rfl, ri⟩ := vals1 r
  obtain ⟨t, rfl⟩ := ri
  refine call_range_1 ⟨.ref s.heap.objs.size, L2.upd H s.heap.objs.size (.rng 0 j), I.laid (t' := s.toks + 1 + 1) (fun b o e => Heap.get?_push_of_some _ e) (Nat.le_refl _) ?_, rfl, q _ (I.hok.fresh (Nat.le_refl _))⟩
  exact ⟨s.toks, t, s.toks + 1, Heap.get?_push_size _ rfl⟩
theorem cr_range : CallR X (.type "range") (fun vs H Q => ((∃ j, vs = [V.int j] ∧ ∀ p, H p = none → Q (.ref p) (L2.upd H p (.rng 0 j))) ∨ ∃ i j, vs = [V.int i, V.int j] ∧ ∀ p, H p = none → Q (.ref p) (L2.upd H p (.rng i j)))) := by
  intro pins s σ H vs us Q I r h
  rcases h with h | h
  · exact cr_range1 pins s σ H vs us Q I r h
  · exact cr_range2 pins s σ H vs us Q I r h
theorem op_notIn_rng : OpR X (compareOp .NotIn) (fun x y H Q => ∃ i a lo hi, x = V.int i ∧ y = V.ref a ∧ H a = some (.rng lo hi) ∧ Q (.bl (!decide (lo ≤ i ∧ i < hi))) H) := by
  intro pins s σ H x y v u Q I rx ry h
  obtain ⟨i, a, lo, hi, rfl, rfl, ha, q⟩ := h
  obtain ⟨k, rfl⟩ := rx
  obtain rfl : u = Value.ref a := ry
  obtain ⟨t1, t2, t3, ho⟩ := I.hok a _ ha
  show wpAny _ _ (do return Value.bool (!(← contains (Value.ref a) (Value.int i k)))) _ _ s
  refine wpAny_bind (wpAny_contains_slot (T := "range") ⟨_, ho, rfl⟩ F.slot_range_contains (call_meets F.slot_range_contains ⟨_, ho, rfl⟩ F.entry_range_contains (F.args_range_contains_2 _ _) (q_contains a lo hi i t1 t2 t3 k)
    ⟨ho, wpAny_truthy_bool (wpAny_pure ⟨.bl _, H, I, rfl, ?_⟩)⟩))
  rw [place1]
  exact q
def rRg (ng : Bool) : R2 := fun x y H Q => ∃ i a lo hi, x = V.int i ∧ y = V.ref a ∧ H a = some (.rng lo hi) ∧ Q (.bl (if ng then !decide (lo ≤ i ∧ i < hi) else decide (lo ≤ i ∧ i < hi))) H
theorem op_rg (ng : Bool) : OpR X (compareOp (if ng then .NotIn else .In)) (rRg ng) := by
  cases ng with
  | true => exact op_notIn_rng
  | false => exact op_in_rng
def rRgO (ng : Bool) : R2 := fun x y H Q => rRg ng x y H Q ∨ ∃ a lo hi, x = V.non ∧ y = V.ref a ∧ H a = some (.rng lo hi) ∧ Q (.bl ng) H
theorem op_rgO (ng : Bool) : OpR X (compareOp (if ng then .NotIn else .In)) (rRgO ng) := by
  intro pins s σ H x y v u Q I rx ry h
  rcases h with h | ⟨a, lo, hi, rfl, rfl, ha, q⟩
  · exact op_rg ng pins s σ H x y v u Q I rx ry h
  · cases ng with
    | true => exact op_notIn_rngN pins s σ H _ _ v u Q I rx ry ⟨a, lo, hi, rfl, rfl, ha, q⟩
    | false => exact op_in_rngN pins s σ H _ _ v u Q I rx ry ⟨a, lo, hi, rfl, rfl, ha, q⟩
abbrev rRange : List V → Hp → VK → Prop := fun vs H Q => ((∃ j, vs = [V.int j] ∧ ∀ p, H p = none → Q (.ref p) (L2.upd H p (.rng 0 j))) ∨ ∃ i j, vs = [V.int i, V.int j] ∧ ∀ p, H p = none → Q (.ref p) (L2.upd H p (.rng i j)))
theorem rng_vs {vs : List V} {ts : List T} {n : Nat} {lo hi : Int} (ia : IsAll K Z H ι n vs ts) (e : rngBounds ts = some (lo, hi)) : (vs = [.int hi] ∧ lo = 0) ∨ vs = [.int lo, .int hi] := by
  unfold rngBounds at e
  split at e
  · cases e
    obtain ⟨v, rfl, iv⟩ := ia.inv1
    exact .inl ⟨by rw [is_int iv], rfl⟩
  · cases e
    obtain ⟨v, w, rfl, iv, iw⟩ := ia.inv2
    exact .inr (by rw [is_int iv, is_int iw])
  · cases e
theorem inr_lift {fa fr : SE} {ng : Bool} {σ : L2.St} {H : Hp} {Q : VK} (h : liftE K XR W (bindE fa fun x => argsE fr fun ts => match x, rngBounds ts with
    | .int i, some (lo, hi) => if -(2 ^ 62) ≤ lo ∧ lo < 2 ^ 62 ∧ -(2 ^ 62) ≤ hi ∧ hi < 2 ^ 62 then retE (.bl (if ng then !decide (lo ≤ i ∧ i < hi) else decide (lo ≤ i ∧ i < hi))) else noneE
    | _, _ => noneE) σ H Q) : tOp (rRg ng) (liftE K XR W fa) (tCB rRange (liftA K XR W fr)) σ H Q := by
  refine lift_mono (fun x H1 h1 => ?_) (lift_bind0 h)
  have h1' : liftK K XR W [x] (fun ts => argsE fr fun us => match ts with
    | [x] => (match x, rngBounds us with
      | .int i, some (lo, hi) => if -(2 ^ 62) ≤ lo ∧ lo < 2 ^ 62 ∧ -(2 ^ 62) ≤ hi ∧ hi < 2 ^ 62 then retE (.bl (if ng then !decide (lo ≤ i ∧ i < hi) else decide (lo ≤ i ∧ i < hi))) else noneE
      | _, _ => noneE)
    | _ => noneE) σ H1 Q := by
    obtain ⟨Z, ι, S, l, ts, R, sl, ia, p⟩ := h1
    refine ⟨Z, ι, S, l, ts, R, sl, ia, ?_⟩
    cases ia with
    | cons i j => cases j; exact p
  refine liftA_mono (fun vs H2 h2 => ?_) (args_bind h1')
  obtain ⟨n, hn, Z, ι, S, l, ts, R, sl, ia, p⟩ := h2
  obtain ⟨us, rs, rfl, ia1, ia2⟩ : ∃ us rs, ts = us ++ rs ∧ IsAll K Z H2 ι S.length vs us ∧ IsAll K Z H2 ι S.length [x] rs := by
    refine ⟨ts.take vs.length, ts.drop vs.length, (List.take_append_drop _ _).symm, ?_, ?_⟩
    · have := ia.take vs.length
      rwa [List.take_left] at this
    · have := ia.drop vs.length
      rwa [List.drop_left] at this
  have hl : us.length = n := by rw [hn, ia1.length]
  have e1 : (us ++ rs).drop n = rs := by rw [← hl]; simp
  have e2 : (us ++ rs).take n = us := by rw [← hl]; simp
  have p : Post K XR W Z ι S.length H2 σ Q ((fun ts us => match ts with
    | [x] => (match x, rngBounds us with
      | .int i, some (lo, hi) => if -(2 ^ 62) ≤ lo ∧ lo < 2 ^ 62 ∧ -(2 ^ 62) ≤ hi ∧ hi < 2 ^ 62 then retE (.bl (if ng then !decide (lo ≤ i ∧ i < hi) else decide (lo ≤ i ∧ i < hi))) else noneE
      | _, _ => noneE)
    | _ => noneE : List T → List T → SE) rs us l S) := by
    have this := p
    dsimp only at this
    rw [e1, e2] at this
    exact this
  obtain ⟨t, rfl⟩ : ∃ t, rs = [t] := by
    cases ia2 with
    | cons a b => cases b; exact ⟨_, rfl⟩
  have ix : Is K Z H2 ι S.length x t := by cases ia2 with | cons a b => exact a
  dsimp only at p
  cases t with
  | int i =>
    cases q : rngBounds us with
    | none => rw [q] at p; exact p.elim
    | some b =>
      obtain ⟨lo, hi⟩ := b
      rw [q] at p
      dsimp only at p
      by_cases g : -(2 ^ 62) ≤ lo ∧ lo < 2 ^ 62 ∧ -(2 ^ 62) ≤ hi ∧ hi < 2 ^ 62
      · rw [if_pos g] at p
        have hx := is_int ix
        subst hx
        have fin : ∀ pa, H2 pa = none → rRg ng (.int i) (.ref pa) (L2.upd H2 pa (.rng lo hi)) Q := fun pa hp =>
          ⟨i, pa, lo, hi, rfl, rfl, upd_same, p ι _ _ (Step.fresh hp) (R.fresh hp) (.bl _)⟩
        rcases rng_vs ia1 q with ⟨rfl, rfl⟩ | rfl
        · exact .inl ⟨hi, rfl, fin⟩
        · exact .inr ⟨lo, hi, rfl, fin⟩
      · rw [if_neg g] at p
        exact p.elim
  | _ => exact p.elim
theorem inrO_lift {fa fr : SE} {ng : Bool} {σ : L2.St} {H : Hp} {Q : VK} (h : liftE K XR W (bindE fa fun x => argsE fr fun ts => match x, rngBounds ts with
    | .int i, some (lo, hi) => if -(2 ^ 62) ≤ lo ∧ lo < 2 ^ 62 ∧ -(2 ^ 62) ≤ hi ∧ hi < 2 ^ 62 then retE (.bl (if ng then !decide (lo ≤ i ∧ i < hi) else decide (lo ≤ i ∧ i < hi))) else noneE
    | .non, some (lo, hi) => if -(2 ^ 62) ≤ lo ∧ lo < 2 ^ 62 ∧ -(2 ^ 62) ≤ hi ∧ hi < 2 ^ 62 then retE (.bl ng) else noneE
    | _, _ => noneE) σ H Q) : tOp (rRgO ng) (liftE K XR W fa) (tCB rRange (liftA K XR W fr)) σ H Q := by
  refine lift_mono (fun x H1 h1 => ?_) (lift_bind0 h)
  have h1' : liftK K XR W [x] (fun ts => argsE fr fun us => match ts with
    | [x] => (match x, rngBounds us with
      | .int i, some (lo, hi) => if -(2 ^ 62) ≤ lo ∧ lo < 2 ^ 62 ∧ -(2 ^ 62) ≤ hi ∧ hi < 2 ^ 62 then retE (.bl (if ng then !decide (lo ≤ i ∧ i < hi) else decide (lo ≤ i ∧ i < hi))) else noneE
      | .non, some (lo, hi) => if -(2 ^ 62) ≤ lo ∧ lo < 2 ^ 62 ∧ -(2 ^ 62) ≤ hi ∧ hi < 2 ^ 62 then retE (.bl ng) else noneE
      | _, _ => noneE)
    | _ => noneE) σ H1 Q := by
    obtain ⟨Z, ι, S, l, ts, R, sl, ia, p⟩ := h1
    refine ⟨Z, ι, S, l, ts, R, sl, ia, ?_⟩
    cases ia with
    | cons i j => cases j; exact p
  refine liftA_mono (fun vs H2 h2 => ?_) (args_bind h1')
  obtain ⟨n, hn, Z, ι, S, l, ts, R, sl, ia, p⟩ := h2
  obtain ⟨us, rs, rfl, ia1, ia2⟩ : ∃ us rs, ts = us ++ rs ∧ IsAll K Z H2 ι S.length vs us ∧ IsAll K Z H2 ι S.length [x] rs := by
    refine ⟨ts.take vs.length, ts.drop vs.length, (List.take_append_drop _ _).symm, ?_, ?_⟩
    · have := ia.take vs.length
      rwa [List.take_left] at this
    · have := ia.drop vs.length
      rwa [List.drop_left] at this
  have hl : us.length = n := by rw [hn, ia1.length]
  have e1 : (us ++ rs).drop n = rs := by rw [← hl]; simp
  have e2 : (us ++ rs).take n = us := by rw [← hl]; simp
  have p : Post K XR W Z ι S.length H2 σ Q ((fun ts us => match ts with
    | [x] => (match x, rngBounds us with
      | .int i, some (lo, hi) => if -(2 ^ 62) ≤ lo ∧ lo < 2 ^ 62 ∧ -(2 ^ 62) ≤ hi ∧ hi < 2 ^ 62 then retE (.bl (if ng then !decide (lo ≤ i ∧ i < hi) else decide (lo ≤ i ∧ i < hi))) else noneE
      | .non, some (lo, hi) => if -(2 ^ 62) ≤ lo ∧ lo < 2 ^ 62 ∧ -(2 ^ 62) ≤ hi ∧ hi < 2 ^ 62 then retE (.bl ng) else noneE
      | _, _ => noneE)
    | _ => noneE : List T → List T → SE) rs us l S) := by
    have this := p
    dsimp only at this
    rw [e1, e2] at this
    exact this
  obtain ⟨t, rfl⟩ : ∃ t, rs = [t] := by
    cases ia2 with
    | cons a b => cases b; exact ⟨_, rfl⟩
  have ix : Is K Z H2 ι S.length x t := by cases ia2 with | cons a b => exact a
  dsimp only at p
  cases t with
  | int i =>
    cases q : rngBounds us with
    | none => rw [q] at p; exact p.elim
    | some b =>
      obtain ⟨lo, hi⟩ := b
      rw [q] at p
      dsimp only at p
      by_cases g : -(2 ^ 62) ≤ lo ∧ lo < 2 ^ 62 ∧ -(2 ^ 62) ≤ hi ∧ hi < 2 ^ 62
      · rw [if_pos g] at p
        have hx := is_int ix
        subst hx
        have fin : ∀ pa, H2 pa = none → rRgO ng (.int i) (.ref pa) (L2.upd H2 pa (.rng lo hi)) Q := fun pa hp =>
          .inl ⟨i, pa, lo, hi, rfl, rfl, upd_same, p ι _ _ (Step.fresh hp) (R.fresh hp) (.bl _)⟩
        rcases rng_vs ia1 q with ⟨rfl, rfl⟩ | rfl
        · exact .inl ⟨hi, rfl, fin⟩
        · exact .inr ⟨lo, hi, rfl, fin⟩
      · rw [if_neg g] at p
        exact p.elim
  | non =>
    cases q : rngBounds us with
    | none => rw [q] at p; exact p.elim
    | some b =>
      obtain ⟨lo, hi⟩ := b
      rw [q] at p
      dsimp only at p
      by_cases g : -(2 ^ 62) ≤ lo ∧ lo < 2 ^ 62 ∧ -(2 ^ 62) ≤ hi ∧ hi < 2 ^ 62
      · rw [if_pos g] at p
        have hx : x = .non := by cases ix; rfl
        subst hx
        have fin : ∀ pa, H2 pa = none → rRgO ng .non (.ref pa) (L2.upd H2 pa (.rng lo hi)) Q := fun pa hp =>
          .inr ⟨pa, lo, hi, rfl, rfl, upd_same, p ι _ _ (Step.fresh hp) (R.fresh hp) (.bl _)⟩
        rcases rng_vs ia1 q with ⟨rfl, rfl⟩ | rfl
        · exact .inl ⟨hi, rfl, fin⟩
        · exact .inr ⟨lo, hi, rfl, fin⟩
      · rw [if_neg g] at p
        exact p.elim
  | _ => exact p.elim
end
section
variable {K : PySem.W.Frag} {Z Z' : Addr → Prop} {H H' : Hp} {ι ι' : Nat → Addr} {n' : Nat}
mutual
theorem Is.stepZ {S : Sto} (R : Rel K Z ι S H) (hz : ∀ a o, H a = some o → Z' a → Z a) (s : Step ι S.length H ι' n' H') : ∀ {v : V} {t : T}, Is K Z H ι S.length v t → Is K Z' H' ι' n' v t
  | _, _, .non => .non
  | _, _, .bl b => .bl b
  | _, _, .int i => .int i
  | _, _, .str x => .str x
  | _, _, .fn a => .fn a
  | _, _, .tup (a := a) h hs => .tup (s.keep _ _ h (R.notup (.of h))) (IsAll.stepZ R hz s hs)
  | _, _, .lst h hn z hs => .lst (s.keep _ _ h hn) (s.nrec h hn) (fun q => z (hz _ _ h q)) (IsAll.stepZ R hz s hs)
  | _, _, .scrK h => .scrK h
  | _, _, .scr (a := a) h hn z => by
    obtain ⟨o, e⟩ := Rd.is h
    exact .scr (Rd.step s h hn) (s.nrec e hn) fun q => z (hz _ _ e q)
  | _, _, .dK h hn z hl hs => .dK (s.keep _ _ h hn) (s.nrec h hn) (fun q => z (hz _ _ h q)) hl (IsAll.stepZ R hz s hs)
  | _, _, .dT h hn z hl hs => .dT (s.keep _ _ h hn) (s.nrec h hn) (fun q => z (hz _ _ h q)) hl (IsAll.stepZ R hz s hs)
  | _, _, .ref (i := i) hi => by
    rw [← s.ext i hi]
    exact .ref (Nat.lt_of_lt_of_le hi s.le)
theorem IsAll.stepZ {S : Sto} (R : Rel K Z ι S H) (hz : ∀ a o, H a = some o → Z' a → Z a) (s : Step ι S.length H ι' n' H') : ∀ {vs : List V} {ts : List T}, IsAll K Z H ι S.length vs ts → IsAll K Z' H' ι' n' vs ts
  | _, _, .nil => .nil
  | _, _, .cons h hs => .cons (Is.stepZ R hz s h) (IsAll.stepZ R hz s hs)
end
theorem Sl.stepZ {S : Sto} {σ : L2.St} {l : Lo} (R : Rel K Z ι S H) (hz : ∀ a o, H a = some o → Z' a → Z a) (s : Step ι S.length H ι' n' H') (h : Sl K Z H ι S.length σ l) : Sl K Z' H' ι' n' σ l :=
  ⟨h.1, fun j t e => let ⟨v, e1, r⟩ := h.2 j t e; ⟨v, e1, Is.stepZ R hz s r⟩⟩
def isTup : T → Bool
  | .tup _ => true
  | _ => false
def SqB (K : PySem.W.Frag) (b : Bool) (H : Hp) (a : Addr) (vs : List V) : Prop := if b then SqT K H a vs else SqL K H a vs
theorem seq_okB {S : Sto} {x : V} {t : T} {ts : List T} (R : Rel K Z ι S H) (h : Is K Z H ι S.length x t) (e : S.seq t = some ts) : ∃ a vs, x = .ref a ∧ SqB K (isTup t) H a vs ∧ IsAll K Z H ι S.length vs ts := by
  cases h with
  | lst h hn hz hs => cases e; exact ⟨_, _, rfl, .of h, hs⟩
  | tup h hs => cases e; exact ⟨_, _, rfl, .of h, hs⟩
  | scr h hn hz => cases e; exact ⟨_, _, rfl, .inl h, isAll_ints _⟩
  | scrK h => cases e; exact ⟨_, _, rfl, .inr h, isAll_ints _⟩
  | ref hi =>
    rename_i i
    obtain ⟨a, vs, e1, e2, e3⟩ := items_ok (ts := ts) R (.ref hi) (by unfold Sto.items; unfold Sto.seq at e; exact e)
    exact ⟨a, vs, e1, .of e2, e3⟩
  | _ => cases e
theorem seq_noref {S S' : Sto} {t : T} (h : isRefT t = false) : S'.seq t = S.seq t := by
  cases t <;> first | rfl | cases h
theorem okSrc_eq {d : T} {items : List T} {S S' : Sto} (e : srcItems d S = some items) (h : okSrc d items S' = true) : srcItems d S' = some items := by
  unfold okSrc at h
  by_cases c : srcRef d = true
  · rw [if_pos c] at h
    cases q : srcItems d S' with
    | none => rw [q] at h; cases h
    | some ys => rw [q] at h; rw [T.sames_eq h]
  · have c : srcRef d = false := by simpa using c
    rw [← e]
    unfold srcItems
    unfold srcRef at c
    split <;> first
      | rfl
      | exact seq_noref (by simpa using c)
      | (rw [seq_noref (S := S) (S' := S') (by simpa using c)])
      | (simp only [Bool.or_eq_false_iff] at c
         rw [seq_noref (S := S) (S' := S') c.1, seq_noref (S := S) (S' := S') c.2])
structure ItW (K : PySem.W.Frag) (Z : Addr → Prop) (ι : Nat → Addr) (S : Sto) (H : Hp) (J : It) (d : T) (items : List T) : Prop where
  run : ∀ (Z' : Addr → Prop) (ι' : Nat → Addr) (S' : Sto) (H' : Hp), (∀ a o, H a = some o → Z' a → Z a) → Step ι S.length H ι' S'.length H' → Rel K Z' ι' S' H' → okSrc d items S' = true →
    (∀ i, i < items.length → J.go i H') ∧ J.stop items.length H' ∧ ∀ i x H'', i < items.length → J.yld i H' x H'' → ∃ t, items[i]? = some t ∧ Step ι' S'.length H' ι' S'.length H'' ∧ Rel K Z' ι' S' H'' ∧ Is K Z' H'' ι' S'.length x t
end
section
variable (K : PySem.W.Frag) (XR : XRel) (W : WX)
def PostI (Z : Addr → Prop) (ι : Nat → Addr) (n : Nat) (H : Hp) (σ : L2.St) (Q : It → Hp → Prop) : Option (Res × Sto) → Prop
  | some (.ok d, S') => ∃ items, srcItems d S' = some items ∧ ∀ ι' H' J, Step ι n H ι' S'.length H' → Rel K Z ι' S' H' → ItW K Z ι' S' H' J d items → Q J H'
  | some (.err x, S') => ∀ ι' H' cls d, Step ι n H ι' S'.length H' → Rel K Z ι' S' H' → XR Z x cls d H' ι' S'.length → W cls d σ H'
  | none => False
def liftI (f : SE) : TI := fun σ H R => ∃ (Z : Addr → Prop) (ι : Nat → Addr) (S : Sto) (l : Lo), Rel K Z ι S H ∧ Sl K Z H ι S.length σ l ∧ PostI K XR W Z ι S.length H σ R (f l S)
end
section
variable {K : PySem.W.Frag} {XR : XRel} {W : WX} {Z : Addr → Prop} {H : Hp} {ι : Nat → Addr} {S : Sto}
theorem PostI.of_step {ι ι1 : Nat → Addr} {n n1 : Nat} {H H1 : Hp} {σ : L2.St} {Q : It → Hp → Prop} (s : Step ι n H ι1 n1 H1) : ∀ {o : Option (Res × Sto)}, PostI K XR W Z ι n H σ Q o → PostI K XR W Z ι1 n1 H1 σ Q o
  | none, h => h
  | some (.ok d, S'), ⟨items, e, h⟩ => ⟨items, e, fun ι' H' v st R i => h ι' H' v (s.trans st) R i⟩
  | some (.err x, S'), h => fun ι' H' cls d st R i => h ι' H' cls d (s.trans st) R i
theorem liftI_bind {f : SE} {g : T → SE} {σ : L2.St} {R : It → Hp → Prop} (h : liftI K XR W (bindE f g) σ H R) :
    liftE K XR W f σ H fun x H1 => ∃ (Z : Addr → Prop) (ι : Nat → Addr) (S : Sto) (l : Lo) (t : T), Rel K Z ι S H1 ∧ Sl K Z H1 ι S.length σ l ∧ Is K Z H1 ι S.length x t ∧ PostI K XR W Z ι S.length H1 σ R (g t l S) := by
  obtain ⟨Z, ι, S, l, R0, sl, p⟩ := h
  refine ⟨Z, ι, S, l, [], R0, sl, .nil, ?_⟩
  simp only [bindE] at p
  show Post K XR W Z ι S.length H σ _ (f l S)
  cases e : f l S with
  | none => rw [e] at p; exact p
  | some r =>
    obtain ⟨r, S'⟩ := r
    rw [e] at p
    cases r with
    | err x => exact p
    | ok t => exact fun ι' H' v st R' i => ⟨Z, ι', S', l, t, R', Sl.step R0 st sl, i, p.of_step st⟩
theorem liftI_argsN {f : SE} {g : List T → SE} {σ : L2.St} {R : It → Hp → Prop} {n : Nat} (hl : ∀ l S ts S', f l S = some (.ok (.lst ts), S') → ts.length = n) (h : liftI K XR W (argsE f g) σ H R) :
    liftA K XR W f σ H fun vs H1 => ∃ (Z : Addr → Prop) (ι : Nat → Addr) (S : Sto) (l : Lo) (ts : List T), Rel K Z ι S H1 ∧ Sl K Z H1 ι S.length σ l ∧ IsAll K Z H1 ι S.length vs ts ∧ vs.length = n ∧ PostI K XR W Z ι S.length H1 σ R (g ts l S) := by
  obtain ⟨Z, ι, S, l, R0, sl, p⟩ := h
  refine ⟨Z, ι, S, l, R0, sl, ?_⟩
  simp only [argsE, bindE] at p
  cases e : f l S with
  | none => rw [e] at p; exact p
  | some r =>
    obtain ⟨r, S'⟩ := r
    rw [e] at p
    cases r with
    | err x => exact p
    | ok t =>
      cases t with
      | lst us => exact fun ι' H' vs st R' i => ⟨Z, ι', S', l, us, R', Sl.step R0 st sl, i, by rw [i.length]; exact hl _ _ _ _ e, p.of_step st⟩
      | _ => obtain ⟨_, _, p⟩ := p <;> exact p.elim
end
def Itb (K : PySem.W.Frag) (b : Bool) (a : Addr) : It := if b then Itt K a else Itl K a
def iSq (K : PySem.W.Frag) (te : TE) : TI := fun σ H R => te σ H fun x H1 => ∃ a b, x = .ref a ∧ (∃ xs, SqB K b H1 a xs) ∧ R (Itb K b a) H1
theorem pi_sq {X : Cx} {tg l : Expr} {tl : TE} (hl : PE X l tl) : PI X tg l (iSq X.K tl) := by
  refine ⟨fun pins s σ H R I h => ?_⟩
  refine thn (hl.run pins s σ H _ I h) fun v s1 ⟨x, H1, I1, r1, q1⟩ => ?_
  obtain ⟨a, b, e, ⟨xs, hq⟩, q⟩ := q1
  subst e
  cases r1
  cases b with
  | false =>
    obtain ⟨its, rv, p, hz⟩ := I1.list hq
    refine wpAny_pyIter_list p.isList ?_
    exact pi_one (tk := s1.toks) I1 _ (turn_list a _) ⟨_, Heap.get?_push_size _ rfl, rfl, rfl⟩ q
  | true =>
    obtain ⟨its, rv, p, hz⟩ := I1.tuple hq
    refine wpAny_pyIter_tuple (show s1.heap.IsTuple a its.toArray from p) ?_
    exact pi_one (tk := s1.toks) I1 _ (turn_tuple a _) ⟨_, Heap.get?_push_size _ rfl, rfl, rfl⟩ q
section
variable {K : PySem.W.Frag} {XR : XRel} {W : WX} {Z : Addr → Prop} {H : Hp} {ι : Nat → Addr} {S : Sto}
theorem itw_sq {a : Addr} {t : T} {items : List T} {k : Int} (R : Rel K Z ι S H) (i : Is K Z H ι S.length (.ref a) t) (e : S.seq t = some items) : ItW K Z ι S H (Itb K (isTup t) a) (.tup [.int k, t]) items := by
  refine ⟨fun Z' ι' S' H' hz st R' ok => ?_⟩
  have i' := Is.stepZ R hz st i
  have e' : S'.seq t = some items := okSrc_eq (d := .tup [.int k, t]) (S := S) e ok
  obtain ⟨a', vs, ea, sq, ia⟩ := seq_okB R' i' e'
  cases ea
  have hl := ia.length
  cases hb : isTup t with
  | true =>
    rw [hb] at sq
    refine ⟨fun i hi => ⟨vs, vs[i]'(by omega), sq, by simp [show i < vs.length by omega]⟩, ⟨vs, sq, by omega⟩, fun i x H'' hi y => ?_⟩
    obtain ⟨rfl, y⟩ := y
    obtain ⟨u, hu, iu⟩ := ia.get' (y vs sq)
    exact ⟨u, hu, .refl, R', iu⟩
  | false =>
    rw [hb] at sq
    refine ⟨fun i hi => ⟨vs, vs[i]'(by omega), sq, by simp [show i < vs.length by omega]⟩, ⟨vs, sq, by omega⟩, fun i x H'' hi y => ?_⟩
    obtain ⟨rfl, y⟩ := y
    obtain ⟨u, hu, iu⟩ := ia.get' (y vs sq)
    exact ⟨u, hu, .refl, R', iu⟩
theorem sq_lift {fa : SE} {σ : L2.St} {Q : It → Hp → Prop} (h : liftI K XR W (bindE fa fun x => retE (.tup [.int 0, x])) σ H Q) : iSq K (liftE K XR W fa) σ H Q := by
  refine lift_mono (fun x H1 h1 => ?_) (liftI_bind h)
  obtain ⟨Z, ι, S, l, t, R, sl, i, items, e, p⟩ := h1
  have e : S.seq t = some items := e
  obtain ⟨a, vs, rfl, sq, ia⟩ := seq_okB R i e
  exact ⟨a, isTup t, rfl, ⟨vs, sq⟩, p ι H1 _ .refl R (itw_sq R i e)⟩
theorem itw_rng {lo hi : Int} (n : Nat) (hn : n = (hi - lo).toNat) : ItW K Z ι S H (Itr lo n) (.tup [.non, .lst (intRange lo hi)]) (intRange lo hi) := by
  have hl : (intRange lo hi).length = n := by simp [intRange, hn]
  refine ⟨fun Z' ι' S' H' hz st R' ok => ⟨fun i h => by rw [hl] at h; exact h, by show n ≤ _; omega, fun i x H'' h y => ?_⟩⟩
  obtain ⟨rfl, rfl⟩ := y
  have hi : i < (hi - lo).toNat := by omega
  exact ⟨.int (lo + (i : Nat)), by simp [intRange, List.getElem?_range hi], .refl, R', .int _⟩
theorem itw_rngC {i j : Int} (n : Nat) (hn : n = (i - j).toNat) : ItW K Z ι S H (Itc i (-1) n) (.tup [.non, .lst ((List.range (i - j).toNat).map fun k => .int (i - (k : Nat)))]) ((List.range (i - j).toNat).map fun k => .int (i - (k : Nat))) := by
  refine ⟨fun Z' ι' S' H' hz st R' ok => ⟨fun k h => by show k < n; simpa [hn] using h, by show n ≤ _; simp [hn], fun k x H'' h y => ?_⟩⟩
  obtain ⟨rfl, rfl⟩ := y
  have hi : k < (i - j).toNat := by simpa using h
  have e : i + (k : Int) * -1 = i - k := by omega
  exact ⟨.int (i - (k : Nat)), by simp [List.getElem?_range hi], .refl, R', by rw [e]; exact .int _⟩
def iRngA (n : Nat) (ta : TA) : TI := if n = 1 then iRng1 ta else if n = 2 then iRng2 ta else iRng3 ta
theorem rngA_lift {fr : SE} {n : Nat} (hl : ∀ l S ts S', fr l S = some (.ok (.lst ts), S') → ts.length = n) {σ : L2.St} {Q : It → Hp → Prop} (h : liftI K XR W (argsE fr fun ts => match rngF ts with
    | some xs => retE (.tup [.non, .lst xs])
    | none => noneE) σ H Q) : iRngA n (liftA K XR W fr) σ H Q := by
  have key : liftA K XR W fr σ H fun vs H1 =>
      (n = 1 ∧ ∃ j : Int, vs = [.int j] ∧ -(2 ^ 62) ≤ j ∧ j < 2 ^ 62 ∧ Q (Itr 0 j.toNat) H1) ∨
      (n = 2 ∧ ∃ i j : Int, vs = [.int i, .int j] ∧ (-(2 ^ 62) ≤ i ∧ i < 2 ^ 62 ∧ -(2 ^ 62) ≤ j ∧ j < 2 ^ 62) ∧ Q (Itr i (j - i).toNat) H1) ∨
      (n = 3 ∧ ∃ (i j c : Int) (n : Nat), vs = [.int i, .int j, .int c] ∧ RgC i j c n ∧ Q (Itc i c n) H1) := by
    refine liftA_mono (fun vs H1 h1 => ?_) (liftI_argsN hl h)
    obtain ⟨Z, ι, S, l, ts, R, sl, ia, hn, p⟩ := h1
    cases e : rngF ts with
    | none => rw [e] at p; exact p.elim
    | some xs =>
      rw [e] at p
      unfold rngF at e
      obtain ⟨items, e2, p⟩ := p
      have e2 : xs = items := by cases e2; rfl
      subst e2
      split at e
      · rename_i i j c
        split at e
        · rename_i g
          obtain ⟨rfl, g⟩ := g
          cases e
          cases ia with
          | cons a b =>
            obtain ⟨v, w, rfl, iv, iw⟩ := b.inv2
            cases is_int a; cases is_int iv; cases is_int iw
            exact .inr (.inr ⟨hn.symm, i, j, -1, _, rfl, RgC.neg g.1 g.2.1 g.2.2.1 g.2.2.2, p ι H1 _ .refl R (itw_rngC _ rfl)⟩)
        · cases e
      · cases q : rngBounds ts with
        | none => rw [q] at e; cases e
        | some b =>
          obtain ⟨lo, hi⟩ := b
          rw [q] at e
          dsimp only at e
          split at e
          · rename_i g
            cases e
            rcases rng_vs ia q with ⟨rfl, rfl⟩ | rfl
            · exact .inl ⟨hn.symm, hi, rfl, g.2.2.1, g.2.2.2, p ι H1 _ .refl R (itw_rng _ (by simp))⟩
            · exact .inr (.inl ⟨hn.symm, lo, hi, rfl, g, p ι H1 _ .refl R (itw_rng _ rfl)⟩)
          · cases e
  unfold iRngA
  by_cases h1 : n = 1
  · rw [if_pos h1]
    refine liftA_mono (fun vs H1 q => ?_) key
    rcases q with ⟨_, q⟩ | ⟨h2, _⟩ | ⟨h2, _⟩
    · exact q
    · omega
    · omega
  · rw [if_neg h1]
    by_cases h2 : n = 2
    · rw [if_pos h2]
      refine liftA_mono (fun vs H1 q => ?_) key
      rcases q with ⟨h3, _⟩ | ⟨_, q⟩ | ⟨h3, _⟩
      · omega
      · exact q
      · omega
    · rw [if_neg h2]
      refine liftA_mono (fun vs H1 q => ?_) key
      rcases q with ⟨h3, _⟩ | ⟨h3, _⟩ | ⟨_, q⟩
      · omega
      · omega
      · exact q
end
def itAt (b : Bool) (h : Heap) (it a : Addr) (i : Nat) : Prop := if b then h.IsTupleIter it a i else h.IsListIter it a i
def seqAt (b : Bool) (h : Heap) (a : Addr) (items : Array Value) : Prop := if b then h.IsTuple a items else h.IsList a items
theorem itAt.has {b : Bool} {h : Heap} {it a : Addr} {i : Nat} (x : itAt b h it a i) : ∃ o, h.get? it = some o ∧ ∀ v, o.data ≠ .cell v := by
  cases b with
  | false => obtain ⟨o, e, c, d⟩ := x; exact ⟨o, e, fun v z => by rw [d] at z; cases z⟩
  | true => obtain ⟨o, e, c, d⟩ := x; exact ⟨o, e, fun v z => by rw [d] at z; cases z⟩
theorem itAt.at {b : Bool} {h h' : Heap} {it a : Addr} {i : Nat} (x : itAt b h it a i) (k : ∀ o, h.get? it = some o → h'.get? it = some o) : itAt b h' it a i := by
  cases b with
  | false => exact Heap.IsListIter.at x k
  | true => exact Heap.IsTupleIter.at x k
theorem draws_b (b : Bool) {prog : Program} {w : World} {A : Around} (hh : A.handled = none) (it a : Addr) (hne : a ≠ it) (items : Array Value) :
    Draws prog w A it [it, a] items.size (fun i v => items[i]? = some v) (fun i h => itAt b h it a i ∧ seqAt b h a items) := by
  cases b with
  | false => exact Draws.list hh it a hne items
  | true => exact Draws.tuple hh it a hne items
def itOf (b : Bool) (a : Addr) : Obj := if b then { cls := .type "tuple_iterator", data := .fields #[.ref a, .int 0 0] } else { cls := .type "list_iterator", data := .fields #[.ref a, .int 0 0] }
theorem begins_b (b : Bool) (a : Addr) (items : Array Value) : Begins (.ref a) (itOf b a) fun h => seqAt b h a items := by
  cases b with
  | false => exact begins_list a items
  | true => exact begins_tuple a items
theorem itOf_at {b : Bool} {h : Heap} {it a : Addr} (e : h.get? it = some (itOf b a)) : itAt b h it a 0 := by
  cases b with
  | false => exact ⟨_, e, rfl, rfl⟩
  | true => exact ⟨_, e, rfl, rfl⟩
theorem inv_sq {X : Cx} {pins : List (Addr × Obj)} {σ : L2.St} {H : Hp} {s : Shared} {b : Bool} {a : Addr} {xs : List V} (I : Inv X pins σ H s) (h : SqB X.K b H a xs) : ∃ its, Vals xs its ∧ seqAt b s.heap a its.toArray ∧ a < s.heap.objs.size := by
  cases b with
  | false =>
    obtain ⟨its, rv, p, _⟩ := I.list h
    exact ⟨its, rv, p.isList, p.lt⟩
  | true =>
    obtain ⟨its, rv, p, _⟩ := I.tuple h
    obtain ⟨o, ho, _⟩ := id p
    exact ⟨its, rv, p, Heap.lt_size ho⟩
theorem sq_inj {X : Cx} {pins : List (Addr × Obj)} {σ : L2.St} {H : Hp} {s : Shared} {b : Bool} {a : Addr} {xs ys : List V} (I : Inv X pins σ H s) (h : SqB X.K b H a xs) (k : SqB X.K b H a ys) : xs = ys := by
  cases b with
  | false => exact I.list_inj h k
  | true => exact I.tuple_inj h k
def ItzB (K : PySem.W.Frag) (b c : Bool) (a a' : Addr) : It :=
  ⟨fun i H => ∃ (xs ys : List V) (x y : V), SqB K b H a xs ∧ SqB K c H a' ys ∧ xs[i]? = some x ∧ ys[i]? = some y,
    fun i H v H' => ∃ T x y, v = .ref T ∧ H T = none ∧ H' = L2.upd H T (.tup [x, y]) ∧ (∀ xs, SqB K b H a xs → xs[i]? = some x) ∧ ∀ ys, SqB K c H a' ys → ys[i]? = some y,
    fun i H => ∃ xs ys : List V, SqB K b H a xs ∧ SqB K c H a' ys ∧ i ≤ xs.length ∧ i ≤ ys.length ∧ (i = xs.length ∨ i = ys.length)⟩
theorem turn_zipB {P : Program} {w : World} {K : PySem.W.Frag} {elts : List Expr} {kk : Nat} {tpos : Pos} (b c : Bool) {a a' z TI TO i1 i2 : Addr} (D : ZipSep2 z TI TO i1 i2 [i1, a] [i2, a']) (h1a : a ≠ i1) (h2a : a' ≠ i2) :
    Turn P w K (.Tuple elts kk tpos) (ItzB K b c a a') [z, TI, TO, i1, i2] z (fun i h => IsZip h z TI TO .none ∧ IsTupOf2 h TI (.ref i1) (.ref i2) ∧ (∃ x y, IsTupOf2 h TO x y) ∧ itAt b h i1 a i ∧ itAt c h i2 a' i) where
  mem := by simp
  obj := fun i h st q hq => by
    obtain ⟨hz, hTI, ⟨x, y, hTO⟩, h1, h2⟩ := st
    have e' : q = z ∨ q = TI ∨ q = TO ∨ q = i1 ∨ q = i2 := by simpa using hq
    rcases e' with q | q | q | q | q
    · rw [q]; exact ⟨_, hz, fun v q => nomatch q⟩
    · rw [q]; exact ⟨_, hTI, fun v q => nomatch q⟩
    · rw [q]; exact ⟨_, hTO, fun v q => nomatch q⟩
    · rw [q]; exact h1.has
    · rw [q]; exact h2.has
  keep := fun i h h' st k => by
    obtain ⟨hz, hTI, ⟨x, y, hTO⟩, h1, h2⟩ := st
    exact ⟨k z (by simp) _ hz, k TI (by simp) _ hTI, ⟨x, y, k TO (by simp) _ hTO⟩, h1.at fun o q => k i1 (by simp) o q, h2.at fun o q => k i2 (by simp) o q⟩
  item := by
    intro X hP hw hK hc i pins s σ H E I hf st hg
    subst hP hw hK
    obtain ⟨hz, hTI, ⟨x0, y0, hTO⟩, h1, h2⟩ := st
    obtain ⟨xs, ys, x, y, hqx, hqy, hx, hy⟩ := hg
    obtain ⟨its, rv, p, _⟩ := inv_sq I hqx
    obtain ⟨its2, rv2, p2, _⟩ := inv_sq I hqy
    obtain ⟨u, hu, ru⟩ := rv.get hx
    obtain ⟨u2, hu2, ru2⟩ := rv2.get hy
    have hzl : z < s.heap.objs.size := Heap.lt_size hz
    have hh : X.A.in1.handled = none := I.ok.hd hc
    have l1 : i < its.toArray.size := by
      have := (List.getElem?_eq_some_iff.mp hu).1
      simpa using this
    have l2 : i < its2.toArray.size := by
      have := (List.getElem?_eq_some_iff.mp hu2).1
      simpa using this
    refine wpAny_pyNext_zipD2_item D (draws_b b hh i1 a h1a its.toArray) (draws_b c hh i2 a' h2a its2.toArray) hz hTI hTO ⟨h1, p⟩ ⟨h2, p2⟩ l1 l2 fun v1 v2 h' tk q1 q2 z' TO' h1' h2' hT hsz hk => ?_
    have q1 : v1 = u := by have q1 : its.toArray[i]? = some v1 := q1; rw [List.getElem?_toArray, hu] at q1; cases q1; rfl
    have q2 : v2 = u2 := by have q2 : its2.toArray[i]? = some v2 := q2; rw [List.getElem?_toArray, hu2] at q2; cases q2; rfl
    subst q1 q2
    refine ⟨_, rfl, wpAny_letOwnedTupleGo_zip (s := { s with heap := h', toks := tk }) z' fun h'' z'' sb => ?_⟩
    have hT2 : h''.get? s.heap.objs.size = some { cls := .type "tuple", data := .seq #[v1, v2] } := (sb.2 _ (Nat.ne_of_gt hzl)).trans hT
    have new : ObjOk X.prog X.w (L2.upd H s.heap.objs.size (.tup [x, y])) h'' s.heap.objs.size (.tup [x, y]) :=
      ⟨by show 2 ≤ sizeLine; decide, [v1, v2], .cons ru (.cons ru2 .nil), ⟨_, hT2, rfl, _, rfl⟩⟩
    have I1 : Inv X pins σ (L2.upd H s.heap.objs.size (.tup [x, y])) { s with heap := h'', toks := tk } :=
      I.turnedNew (t' := tk) (ch := [z, TI, TO, i1, i2]) (fun c o hb q => (sb.2 c (fun q' => hb (by simp [q']))).trans (hk c o (fun q' => hb (by simp [q'])) (fun q' => hb (by simp [q'])) (fun q' => hb (by simp [q'])) (fun q' => hb (by simp [q'])) q)) hf (Nat.le_refl _) new
    refine ⟨.ref s.heap.objs.size, _, I1, rfl, ⟨_, x, y, rfl, I.hok.fresh (Nat.le_refl _), rfl, fun l hl => by rw [sq_inj I hl hqx]; exact hx, fun l hl => by rw [sq_inj I hl hqy]; exact hy⟩, ⟨z'', ?_, ⟨v1, v2, ?_⟩, ?_, ?_⟩, fun q hq => ?_⟩
    · exact (sb.2 _ D.TIz).trans (hk _ _ D.TIz D.TITO D.TIi1 D.TIi2 hTI)
    · exact (sb.2 _ D.TOz).trans TO'
    · exact h1'.1.at fun o q => (sb.2 _ (Ne.symm D.zi1)).trans q
    · exact h2'.1.at fun o q => (sb.2 _ (Ne.symm D.zi2)).trans q
    · have hlt : q < s.heap.objs.size := by
        have e' : q = z ∨ q = TI ∨ q = TO ∨ q = i1 ∨ q = i2 := by simpa using hq
        rcases e' with q | q | q | q | q
        · rw [q]; exact hzl
        · rw [q]; exact Heap.lt_size hTI
        · rw [q]; exact Heap.lt_size hTO
        · rw [q]; obtain ⟨_, e1, _⟩ := h1.has; exact Heap.lt_size e1
        · rw [q]; obtain ⟨_, e2, _⟩ := h2.has; exact Heap.lt_size e2
      rw [upd_ne (Nat.ne_of_lt hlt)]
      exact (hf q hq).1
  done := by
    intro X hP hw hK hc i pins s σ H E I hf st hg
    subst hP hw hK
    obtain ⟨hz, hTI, ⟨x0, y0, hTO⟩, h1, h2⟩ := st
    obtain ⟨xs, ys, hqx, hqy, g1, g2, g3⟩ := hg
    obtain ⟨its, rv, p, _⟩ := inv_sq I hqx
    obtain ⟨its2, rv2, p2, _⟩ := inv_sq I hqy
    have l1 := rv.length
    have l2 := rv2.length
    have hh : X.A.in1.handled = none := I.ok.hd hc
    refine wpAny_pyNext_zipD2_end D (draws_b b hh i1 a h1a its.toArray) (draws_b c hh i2 a' h2a its2.toArray) hz hTI hTO ⟨h1, p⟩ ⟨h2, p2⟩ (by simp; omega) (by simp; omega) (by simp; omega) fun h' tk hk => ⟨rfl, I.turnedL (t' := tk) (ch := [z, TI, TO, i1, i2]) (fun c o hb q =>
      hk c o (fun q' => hb (by simp [q'])) (fun q' => hb (by simp [q'])) (fun q' => hb (by simp [q'])) (fun q' => hb (by simp [q'])) q) hf⟩
  self := fun A i s Q E st h => wpAny_pyIter_zip st.1 h
def iZipB (K : PySem.W.Frag) (ta : TA) : TI := fun σ H R => ta σ H fun vs H1 => ∃ b c a a', vs = [.ref a, .ref a'] ∧ (∃ xs, SqB K b H1 a xs) ∧ (∃ ys, SqB K c H1 a' ys) ∧ R (ItzB K b c a a') H1
theorem pi_zipB {X : Cx} {e e2 : Expr} {ta : TA} {p pos tpos : Pos} {elts : List Expr} {kk : Nat} (hg : Gl X "zip") (hm : X.mg "zip" = none) (ha : PA X [e, e2] ta)
    (hs : starEach [e, e2] X.env = (false, eval e X.env) :: starEach [e2] X.env := by rfl) (hpl : (backTo pos (starEach [e2] X.env)).any (·.1) = false := by rfl) :
    PI X (.Tuple elts kk tpos) (.Call (.Name "zip" p) [e, e2] [] pos) (iZipB X.K ta) := by
  refine ⟨fun pins s σ H R I h => ?_⟩
  refine Call_ (ld_blt I hg hm PyProof.Rows.boot_zip (PyProof.Rows.callWith_type1 (thn (ha.run pos pins s σ H _ I h) fun us s1 ⟨vs, H1, I1, r1, q1⟩ => ?_) hs hpl))
  obtain ⟨b, c, a, a', ex, ⟨xs, hqx⟩, ⟨ys, hqy⟩, q⟩ := q1
  subst ex
  cases r1 with
  | cons r rr =>
    cases rr with
    | cons r' rr =>
      cases rr
      cases r
      cases r'
      have fresh5 : ∀ c, c ∈ [s1.heap.objs.size + 4, s1.heap.objs.size + 2, s1.heap.objs.size + 3, s1.heap.objs.size, s1.heap.objs.size + 1] → FpOk X pins H1 c := fun c hcm => by
        have e' : c = s1.heap.objs.size + 4 ∨ c = s1.heap.objs.size + 2 ∨ c = s1.heap.objs.size + 3 ∨ c = s1.heap.objs.size ∨ c = s1.heap.objs.size + 1 := by simpa using hcm
        have hle : s1.heap.objs.size ≤ c := by
          rcases e' with z | z | z | z | z
          · rw [z]; exact Nat.le_add_right _ _
          · rw [z]; exact Nat.le_add_right _ _
          · rw [z]; exact Nat.le_add_right _ _
          · rw [z]; exact Nat.le_refl _
          · rw [z]; exact Nat.le_add_right _ _
        exact I1.fpOk hle (I1.hok.fresh hle)
      obtain ⟨its, rv, p1, la⟩ := inv_sq I1 hqx
      obtain ⟨its2, rv2, p2, lb⟩ := inv_sq I1 hqy
      refine zip_begins2 (begins_b b a its.toArray) (begins_b c a' its2.toArray) p1 p2 fun h' hz hTI hTO h1 h2 hsz hk => wpAny_pyIter_zip hz ?_
      have I2 : Inv X pins σ H1 { s1 with heap := h' } := I1.kept (t' := s1.toks) hk
      have S := PySem.zip_sep2 (N := s1.heap.objs.size) (fp1 := [a]) (fp2 := [a']) (fun b hb => by cases List.mem_singleton.mp hb; exact la) (fun b hb => by cases List.mem_singleton.mp hb; exact lb)
      exact ⟨s1.heap.objs.size + 4, [s1.heap.objs.size + 4, s1.heap.objs.size + 2, s1.heap.objs.size + 3, s1.heap.objs.size, s1.heap.objs.size + 1], _, _, H1, rfl, I2, turn_zipB b c S (Nat.ne_of_lt la) (Nat.ne_of_lt (Nat.lt_succ_of_lt lb)), ⟨hz, hTI, ⟨_, _, hTO⟩, itOf_at h1, itOf_at h2⟩, fresh5, q⟩
def IteB (K : PySem.W.Frag) (b : Bool) (a : Addr) : It :=
  ⟨fun i H => ∃ (xs : List V) (x : V), SqB K b H a xs ∧ xs[i]? = some x, fun i H v H' => ∃ T x, v = .ref T ∧ H T = none ∧ H' = L2.upd H T (.tup [.int (i : Nat), x]) ∧ ∀ xs, SqB K b H a xs → xs[i]? = some x, fun i H => ∃ xs : List V, SqB K b H a xs ∧ xs.length = i⟩
theorem turn_enumB {P : Program} {w : World} {K : PySem.W.Frag} {elts : List Expr} {kk : Nat} {tpos : Pos} (b : Bool) (a e it : Addr) (hai : a ≠ it) (hea : e ≠ a) :
    Turn P w K (.Tuple elts kk tpos) (IteB K b a) [e, it] e (fun i h => (∃ old, IsEnum h e it ((i : Nat) : Int) old) ∧ itAt b h it a i ∧ e ≠ it) where
  mem := by simp
  obj := fun i h st b hb => by
    obtain ⟨⟨old, he⟩, h1, _⟩ := st
    have e' : b = e ∨ b = it := by simpa using hb
    rcases e' with z | z
    · rw [z]; exact ⟨_, he, fun v q => nomatch q⟩
    · rw [z]; exact h1.has
  keep := fun i h h' st k => let ⟨⟨old, he⟩, hi, hne⟩ := st; ⟨⟨old, k e (by simp) _ he⟩, hi.at fun o q => k it (by simp) o q, hne⟩
  item := by
    intro X hP hw hK hc i pins s σ H E I hf st hg
    subst hP hw hK
    obtain ⟨⟨old, he⟩, hit, hne⟩ := st
    obtain ⟨xs, x, hq, hx⟩ := hg
    obtain ⟨its, rv, p, _⟩ := inv_sq I hq
    obtain ⟨u, hu, ru⟩ := rv.get hx
    have hel : e < s.heap.objs.size := Heap.lt_size he
    have hil : it < s.heap.objs.size := by obtain ⟨_, q, _⟩ := hit.has; exact Heap.lt_size q
    have hh : X.A.in1.handled = none := I.ok.hd hc
    have l1 : i < its.toArray.size := by
      have := (List.getElem?_eq_some_iff.mp hu).1
      simpa using this
    refine wpAny_pyNext_enum_itemD (draws_b b hh it a hai its.toArray) he ⟨hit, p⟩ l1 hne (by simp [hne, hea]) fun v h' tk q1 ho hit' hT hsz hk => ?_
    have q1 : v = u := by have q1 : its.toArray[i]? = some v := q1; rw [List.getElem?_toArray, hu] at q1; cases q1; rfl
    subst q1
    refine ⟨_, rfl, wpAny_letOwnedTupleGo_enum (s := { s with heap := h', toks := tk + 1 }) ho fun h'' he' sb => ?_⟩
    have hT2 : h''.get? s.heap.objs.size = some { cls := .type "tuple", data := .seq #[.int i tk, v] } := (sb.2 _ (Nat.ne_of_gt hel)).trans hT
    have new : ObjOk X.prog X.w (L2.upd H s.heap.objs.size (.tup [.int (i : Nat), x])) h'' s.heap.objs.size (.tup [.int (i : Nat), x]) :=
      ⟨by show 2 ≤ sizeLine; decide, [.int i tk, v], .cons ⟨_, rfl⟩ (.cons ru .nil), ⟨_, hT2, rfl, _, rfl⟩⟩
    have I1 : Inv X pins σ (L2.upd H s.heap.objs.size (.tup [.int (i : Nat), x])) { s with heap := h'', toks := tk + 1 } :=
      I.turnedNew (ch := [e, it]) (fun b ob hb q => (sb.2 b (fun z => hb (by simp [z]))).trans (hk b ob (fun z => hb (by simp [z])) (fun z => hb (by simp [z])) q)) hf (Nat.le_refl _) new
    refine ⟨.ref s.heap.objs.size, _, I1, rfl, ⟨_, x, rfl, I.hok.fresh (Nat.le_refl _), rfl, fun ys hy => by rw [sq_inj I hy hq]; exact hx⟩, ⟨⟨v, ?_⟩, hit'.1.at fun o q => (sb.2 it (Ne.symm hne)).trans q, hne⟩, fun b hb => ?_⟩
    · have e1 : ((i + 1 : Nat) : Int) = (i : Int) + 1 := by omega
      rw [e1]; exact he'
    · have hb' : b < s.heap.objs.size := by
        have e' : b = e ∨ b = it := by simpa using hb
        rcases e' with z | z
        · rw [z]; exact hel
        · rw [z]; exact hil
      rw [upd_ne (Nat.ne_of_lt hb')]
      exact (hf b hb).1
  done := by
    intro X hP hw hK hc i pins s σ H E I hf st hg
    subst hP hw hK
    obtain ⟨⟨old, he⟩, hit, hne⟩ := st
    obtain ⟨xs, hq, hx⟩ := hg
    obtain ⟨its, rv, p, _⟩ := inv_sq I hq
    obtain ⟨f0, f1, f2, f3, f4, f5⟩ := hf it (by simp)
    have hl := rv.length
    have hh : X.A.in1.handled = none := I.ok.hd hc
    have e2 : its.toArray.size = i := by simp; omega
    refine wpAny_pyNext_enum_endD (draws_b b hh it a hai its.toArray) he ⟨by rw [e2]; exact hit, p⟩ fun h' eb => ⟨rfl, I.turned (t' := s.toks) (fun b o hb q => eb b o hb q) f0 f1 f3 f4 f5⟩
  self := fun A i s Q E st h => let ⟨⟨_, he⟩, _⟩ := st; wpAny_pyIter_enum he h
end TL
namespace PySem
open Sem (wp)
set_option maxHeartbeats 1000000 in
theorem tl_meets_enumerate_new1 {v : Value} {o : Obj} {H : Heap → Prop} (B : Begins v o H) :
    Meets (Builtin.«enumerate.__new__» ⟨[.type "enumerate", v], []⟩) (fun _ R s => H s.heap ∧
      R (.ok (.ret (.ref (s.heap.push o).objs.size)))
        { s with heap := (s.heap.push o).push { cls := .type "enumerate", data := .fields #[.none, .bool false, .ref s.heap.objs.size, rawInt 0, .none, .none] } }) :=
  .of_wp fun prog w A R s h => by
    obtain ⟨hp, g, d, tk, os⟩ := s
    obtain ⟨h1, h⟩ := h
    have hsub := sub_enumerate
    have q1 : ∀ {A' : Around} {E : Value → Shared → Prop} {Q : Value → Shared → Prop}, Q (.ref hp.objs.size) ⟨hp.push o, g, d, tk, os⟩ → wpAny (model prog w) A' (pyIter v) Q E ⟨hp, g, d, tk, os⟩ :=
      fun q => B.iter prog w _ _ ⟨hp, g, d, tk, os⟩ _ h1 q
    wp_walk using q1
    refine wpAny_stack_any fun st => wpAny_pure ?_
    split
    · rename_i c _ _ _ _ _
      cases (c == Value.type "enumerate")
      · wp_walk using q1
        exact ⟨_, rfl, h⟩
      · wp_walk using q1
        exact ⟨_, rfl, h⟩
    · wp_walk using q1
      exact ⟨_, rfl, h⟩
theorem tl_enum_begins {prog : Program} {w : World} {A : Around} {E : Value → Shared → Prop} {s : Shared} {v : Value} {o : Obj} {H : Heap → Prop} {Q : Value → Shared → Prop} (B : Begins v o H) (h1 : H s.heap)
    (h : ∀ h', IsEnum h' (s.heap.objs.size + 1) s.heap.objs.size 0 .none → h'.get? s.heap.objs.size = some o → h'.objs.size = s.heap.objs.size + 2 →
      (∀ b o, s.heap.get? b = some o → h'.get? b = some o) → Q (.ref (s.heap.objs.size + 1)) { s with heap := h' }) :
    wpAny (model prog w) A (call (.type "enumerate") [v]) Q E s := by
  refine callType_new F.called_enumerate (by decide) (F.typeCall_enumerate_1 _) (F.newCall_enumerate_1 _) (fun obj => F.args_object_init_2 obj _) F.entry_enumerate_new
    (tl_meets_enumerate_new1 B) ⟨h1, ?_⟩
  have hz : (s.heap.push o).objs.size = s.heap.objs.size + 1 := Heap.size_push ..
  show _ ∧ _
  rw [hz]
  have he : IsEnum ((s.heap.push o).push { cls := .type "enumerate", data := .fields #[.none, .bool false, .ref s.heap.objs.size, rawInt 0, .none, .none] }) (s.heap.objs.size + 1) s.heap.objs.size 0 .none := by
    have := Heap.get?_push_size (s.heap.push o) (o := { cls := .type "enumerate", data := .fields #[.none, .bool false, .ref s.heap.objs.size, rawInt 0, .none, .none] }) rfl
    rw [hz] at this; exact this
  refine ⟨⟨_, he, rfl⟩, h _ he (Heap.get?_push_of_some _ (Heap.get?_push_size _ B.free)) (by rw [Heap.size_push, hz]) fun b o x => Heap.get?_push_of_some _ (Heap.get?_push_of_some _ x)⟩
end PySem
namespace TL
open PySem PySem.Spec PyProof.Rows L2
def iEnumB (K : PySem.W.Frag) (ta : TA) : TI := fun σ H R => ta σ H fun vs H1 => ∃ b a, vs = [.ref a] ∧ (∃ xs, SqB K b H1 a xs) ∧ R (IteB K b a) H1
theorem pi_enumB {X : Cx} {e : Expr} {ta : TA} {p pos tpos : Pos} {elts : List Expr} {kk : Nat} (hg : Gl X "enumerate") (hm : X.mg "enumerate" = none) (ha : PA X [e] ta) (hs : starEach [e] X.env = [(false, eval e X.env)] := by rfl) :
    PI X (.Tuple elts kk tpos) (.Call (.Name "enumerate" p) [e] [] pos) (iEnumB X.K ta) := by
  refine ⟨fun pins s σ H R I h => ?_⟩
  refine Call_ (ld_blt I hg hm boot_enumerate (PyProof.Rows.callWith_type1 (thn (ha.run pos pins s σ H _ I h) fun us s1 ⟨vs, H1, I1, r1, q1⟩ => ?_) hs rfl))
  obtain ⟨b, a, ex, ⟨xs, hq⟩, q⟩ := q1
  subst ex
  cases r1 with
  | cons r rr =>
    cases rr
    cases r
    obtain ⟨its, rv, p', la⟩ := inv_sq I1 hq
    refine PySem.tl_enum_begins (begins_b b a its.toArray) p' fun h' he hit hsz hk => wpAny_pyIter_enum he ?_
    have I2 : Inv X pins σ H1 { s1 with heap := h' } := I1.kept (t' := s1.toks) hk
    refine ⟨s1.heap.objs.size + 1, [s1.heap.objs.size + 1, s1.heap.objs.size], _, _, H1, rfl, I2, turn_enumB b a (s1.heap.objs.size + 1) s1.heap.objs.size (Nat.ne_of_lt la) (Ne.symm (Nat.ne_of_lt (Nat.lt_succ_of_lt la))), ⟨⟨.none, he⟩, itOf_at hit, Nat.succ_ne_self _⟩, fun b hb => ?_, q⟩
    have e' : b = s1.heap.objs.size + 1 ∨ b = s1.heap.objs.size := by simpa using hb
    have hle : s1.heap.objs.size ≤ b := by
      rcases e' with z | z
      · rw [z]; exact Nat.le_add_right _ _
      · rw [z]; exact Nat.le_refl _
    exact I1.fpOk hle (I1.hok.fresh hle)
section
variable {K : PySem.W.Frag} {XR : XRel} {W : WX} {Z : Addr → Prop} {H : Hp} {ι : Nat → Addr} {S : Sto}
theorem enumT_get : ∀ {xs : List T} {k i : Nat} {t : T}, xs[i]? = some t → (enumT k xs)[i]? = some (.tup [.int ((k + i : Nat) : Int), t])
  | [], _, _, _, e => by simp at e
  | x :: r, k, 0, t, e => by simp at e; subst e; simp [enumT]
  | x :: r, k, i + 1, t, e => by
    have := enumT_get (k := k + 1) (xs := r) (i := i) (t := t) (by simpa using e)
    have e2 : k + 1 + i = k + (i + 1) := by omega
    rw [e2] at this
    simp only [enumT, List.getElem?_cons_succ]
    exact this
theorem enumT_len : ∀ {xs : List T} {k : Nat}, (enumT k xs).length = xs.length
  | [], _ => rfl
  | x :: r, k => by simp [enumT, enumT_len (xs := r)]
theorem zipT_get : ∀ {xs ys : List T} {i : Nat} {t u : T}, xs[i]? = some t → ys[i]? = some u → (zipT xs ys)[i]? = some (.tup [t, u])
  | [], _, _, _, _, e, _ => by simp at e
  | _ :: _, [], _, _, _, _, e => by simp at e
  | x :: r, y :: q, 0, t, u, e, e2 => by simp at e e2; subst e e2; simp [zipT]
  | x :: r, y :: q, i + 1, t, u, e, e2 => by
    simp only [zipT, List.getElem?_cons_succ]
    exact zipT_get (by simpa using e) (by simpa using e2)
theorem zipT_len : ∀ {xs ys : List T}, (zipT xs ys).length = min xs.length ys.length
  | [], _ => by simp [zipT]
  | _ :: _, [] => by simp [zipT]
  | x :: r, y :: q => by simp [zipT, zipT_len (xs := r) (ys := q)]
theorem itw_enum {a : Addr} {t : T} {items : List T} {k : Bool} (R : Rel K Z ι S H) (i : Is K Z H ι S.length (.ref a) t) (e : S.seq t = some items) : ItW K Z ι S H (IteB K (isTup t) a) (.tup [.bl k, t]) (enumT 0 items) := by
  refine ⟨fun Z' ι' S' H' hz st R' ok => ?_⟩
  have i' := Is.stepZ R hz st i
  have e' : srcItems (.tup [.bl k, t]) S' = some (enumT 0 items) := okSrc_eq (d := .tup [.bl k, t]) (S := S) (by show (S.seq t).map _ = _; rw [e]; rfl) ok
  have e' : (S'.seq t).map (enumT 0) = some (enumT 0 items) := e'
  cases q : S'.seq t with
  | none => rw [q] at e'; cases e'
  | some its =>
    rw [q] at e'
    have e' : enumT 0 its = enumT 0 items := by simpa using e'
    obtain ⟨a', vs, ea, sq, ia⟩ := seq_okB R' i' q
    cases ea
    have hl := ia.length
    have hl2 : (enumT 0 items).length = vs.length := by rw [← e', enumT_len, hl]
    rw [hl2]
    refine ⟨fun i hi => ⟨vs, vs[i]'(by omega), sq, by simp [hi]⟩, ⟨vs, sq, rfl⟩, fun i x H'' hi y => ?_⟩
    obtain ⟨p, z, rfl, hp, rfl, y⟩ := y
    obtain ⟨u, hu, iu⟩ := ia.get' (y vs sq)
    refine ⟨.tup [.int ((0 + i : Nat) : Int), u], by rw [← e']; exact enumT_get hu, .fresh hp, R'.fresh hp, .tup upd_same ?_⟩
    rw [Nat.zero_add]
    exact .cons (.int _) (.cons (Is.step R' (.fresh hp) iu) .nil)
theorem enum_lift {fa : SE} {σ : L2.St} {Q : It → Hp → Prop} (h : liftI K XR W (bindE fa fun x => retE (.tup [.bl false, x])) σ H Q) : iEnumB K (tCons (liftE K XR W fa) tNil) σ H Q := by
  refine lift_mono (fun x H1 h1 => ?_) (liftI_bind h)
  obtain ⟨Z, ι, S, l, t, R, sl, i, items, e, p⟩ := h1
  have e : (S.seq t).map (enumT 0) = some items := e
  cases q : S.seq t with
  | none => rw [q] at e; cases e
  | some its =>
    rw [q] at e
    have e : enumT 0 its = items := by simpa using e
    subst e
    obtain ⟨a, vs, rfl, sq, ia⟩ := seq_okB R i q
    exact ⟨isTup t, a, rfl, ⟨vs, sq⟩, p ι H1 _ .refl R (itw_enum R i q)⟩
theorem itw_zip {a a' : Addr} {t t' : T} {xs ys : List T} {k : Bool} (R : Rel K Z ι S H) (i1 : Is K Z H ι S.length (.ref a) t) (i2 : Is K Z H ι S.length (.ref a') t') (e1 : S.seq t = some xs) (e2 : S.seq t' = some ys) :
    ItW K Z ι S H (ItzB K (isTup t) (isTup t') a a') (.tup [.bl k, t, t']) (zipT xs ys) := by
  refine ⟨fun Z' ι' S' H' hz st R' ok => ?_⟩
  have i1' := Is.stepZ R hz st i1
  have i2' := Is.stepZ R hz st i2
  have e' : srcItems (.tup [.bl k, t, t']) S' = some (zipT xs ys) := okSrc_eq (d := .tup [.bl k, t, t']) (S := S) (by unfold srcItems; simp only [e1, e2]) ok
  unfold srcItems at e'
  cases q1 : S'.seq t with
  | none => simp only [q1] at e'; cases e'
  | some us =>
    cases q2 : S'.seq t' with
    | none => simp only [q1, q2] at e'; cases e'
    | some ws =>
      simp only [q1, q2] at e'
      have e' : zipT us ws = zipT xs ys := by simpa using e'
      obtain ⟨a1, vs, ea, sq, ia⟩ := seq_okB R' i1' q1
      obtain ⟨a2, vs2, ea2, sq2, ia2⟩ := seq_okB R' i2' q2
      cases ea; cases ea2
      have hl := ia.length
      have hl2 := ia2.length
      have hl3 : (zipT xs ys).length = min vs.length vs2.length := by rw [← e', zipT_len, hl, hl2]
      rw [hl3]
      refine ⟨fun i hi => ⟨vs, vs2, vs[i]'(by omega), vs2[i]'(by omega), sq, sq2, by simp [show i < vs.length by omega], by simp [show i < vs2.length by omega]⟩, ⟨vs, vs2, sq, sq2, by omega, by omega, by omega⟩, fun i x H'' hi y => ?_⟩
      obtain ⟨p, z, z2, rfl, hp, rfl, y, y2⟩ := y
      obtain ⟨u, hu, iu⟩ := ia.get' (y vs sq)
      obtain ⟨u2, hu2, iu2⟩ := ia2.get' (y2 vs2 sq2)
      refine ⟨.tup [u, u2], by rw [← e']; exact zipT_get hu hu2, .fresh hp, R'.fresh hp, .tup upd_same ?_⟩
      exact .cons (Is.step R' (.fresh hp) iu) (.cons (Is.step R' (.fresh hp) iu2) .nil)
theorem liftI_bindK {fa fb : SE} {g : T → T → SE} {σ : L2.St} {R : It → Hp → Prop} (h : liftI K XR W (bindE fa fun x => bindE fb fun y => g x y) σ H R) :
    liftE K XR W fa σ H fun x H1 => liftE K XR W fb σ H1 fun y H2 => ∃ (Z : Addr → Prop) (ι : Nat → Addr) (S : Sto) (l : Lo) (t u : T), Rel K Z ι S H2 ∧ Sl K Z H2 ι S.length σ l ∧ Is K Z H2 ι S.length x t ∧ Is K Z H2 ι S.length y u ∧ PostI K XR W Z ι S.length H2 σ R (g t u l S) := by
  refine lift_mono (fun x H1 h1 => ?_) (liftI_bind h)
  obtain ⟨Z, ι, S, l, t, R0, sl, ix, p⟩ := h1
  refine ⟨Z, ι, S, l, [], R0, sl, .nil, ?_⟩
  simp only [bindE] at p
  show Post K XR W Z ι S.length H1 σ _ (fb l S)
  cases e : fb l S with
  | none => rw [e] at p; exact p
  | some r =>
    obtain ⟨r, S'⟩ := r
    rw [e] at p
    cases r with
    | err x => exact p
    | ok t2 => exact fun ι' H' v st R' i => ⟨Z, ι', S', l, t, t2, R', Sl.step R0 st sl, Is.step R0 st ix, i, p.of_step st⟩
theorem zip_lift {fa fb : SE} {σ : L2.St} {Q : It → Hp → Prop} (h : liftI K XR W (bindE fa fun x => bindE fb fun y => retE (.tup [.bl true, x, y])) σ H Q) : iZipB K (tCons (liftE K XR W fa) (tCons (liftE K XR W fb) tNil)) σ H Q := by
  refine lift_mono (fun x H1 h1 => lift_mono (fun y H2 h2 => ?_) h1) (liftI_bindK h)
  obtain ⟨Z, ι, S, l, t, u, R, sl, i1, i2, items, e, p⟩ := h2
  unfold srcItems at e
  cases q1 : S.seq t with
  | none => simp only [q1] at e; cases e
  | some us =>
    cases q2 : S.seq u with
    | none => simp only [q1, q2] at e; cases e
    | some ws =>
      simp only [q1, q2] at e
      cases e
      obtain ⟨a, vs, rfl, sq, ia⟩ := seq_okB R i1 q1
      obtain ⟨a2, vs2, rfl, sq2, ia2⟩ := seq_okB R i2 q2
      exact ⟨isTup t, isTup u, a, a2, rfl, ⟨vs, sq⟩, ⟨vs2, sq2⟩, p ι H2 _ .refl R (itw_zip R i1 i2 q1 q2)⟩
end
end TL
namespace PySem
open Sem (wp)
open PySem.W (kdx_alive)
abbrev IsZipX (h : Heap) (z TI TO : Addr) (f0 : Value) (f : Bool) : Prop :=
  h.get? z = some { cls := .type "zip", dict := none, data := .fields #[f0, .bool f, .bool false, .ref TI, .ref TO], slots := #[] }
def OutV (v : Value) : Prop := v = .none ∨ ∃ T : Addr, v = rawInt T
section
variable {prog : Program} {w : World} {A : Around} {E : Value → Shared → Prop} {s : Shared} {z TI TO i1 i2 : Addr} {fp1 fp2 : List Addr} {n1 n2 i : Nat} {P1 P2 : Nat → Value → Prop} {St1 St2 : Nat → Heap → Prop} {a1 a2 f0 : Value} {f : Bool}
theorem zx_gone {a : Addr} {Q : Option Obj → Shared → Prop} (ho : s.heap.get? a = none) (h : Q none s) : wpAny (model prog w) A (loadIfAlive a) Q E s := by
  have h' : Q (s.heap.get? a) s := by rw [ho]; exact h
  exact fun _ _ _ => h'
theorem zx_free {Q : Bool → Shared → Prop} (hz : IsZipX s.heap z TI TO f0 f) (ho : OutV f0) (h1 : Q true s) (h2 : ∀ h' f', IsZipX h' z TI TO f0 f' → Heap.SameBut z s.heap h' → Q false { s with heap := h' }) :
    wpAny (model prog w) A (Builtin.SmallTypes.ownedTupleIsFree (.ref z)) Q E s := by
  rcases ho with rfl | ⟨T, rfl⟩
  · unfold Builtin.SmallTypes.ownedTupleIsFree
    exact wpAny_bind (wpAny_field hz rfl (x := .none) rfl (wpAny_pure h1))
  · cases hT : s.heap.get? T with
    | none =>
      unfold Builtin.SmallTypes.ownedTupleIsFree
      refine wpAny_bind (wpAny_field hz rfl (x := rawInt T) rfl ?_)
      show wpAny _ _ (loadIfAlive ((T : Int).toNat) >>= _) _ _ _
      rw [Int.toNat_natCast]
      refine wpAny_bind (zx_gone hT ?_)
      exact wpAny_pure h1
    | some o => exact wpAny_tupleHeld_zip hz hT fun h' hz' hs => h2 h' true hz' hs
theorem zx_next_item {Q : Value → Shared → Prop} (D : ZipSep2 z TI TO i1 i2 fp1 fp2) (D1 : Draws prog w A i1 fp1 n1 P1 St1) (D2 : Draws prog w A i2 fp2 n2 P2 St2)
    (hz : IsZipX s.heap z TI TO f0 f) (ho : OutV f0) (hTI : IsTupOf2 s.heap TI (.ref i1) (.ref i2)) (hTO : IsTupOf2 s.heap TO a1 a2) (st1 : St1 i s.heap) (st2 : St2 i s.heap) (hlt1 : i < n1) (hlt2 : i < n2)
    (hQ : ∀ x1 x2 h' tk g0 g, P1 i x1 → P2 i x2 → IsZipX h' z TI TO g0 g → OutV g0 → (∃ b1 b2, IsTupOf2 h' TO b1 b2) → St1 (i + 1) h' → St2 (i + 1) h' → IsTupOf2 h' s.heap.objs.size x1 x2 →
      (∀ c o, c ≠ z → c ≠ TO → c ≠ i1 → c ≠ i2 → s.heap.get? c = some o → h'.get? c = some o) → Q (.ref s.heap.objs.size) { s with heap := h', toks := tk }) :
    wpAny (model prog w) A (Builtin.«zip.__next__» ⟨[.ref z], []⟩) (fun fin s' => ∃ v, fin = .done (.ret v) ∧ Q v s') E s := by
  obtain ⟨hp, gs, d, tk0, os⟩ := s
  show wpAny _ _ (field (.ref z) 2 >>= _) _ _ _
  refine wpAny_bind (wpAny_field hz rfl (x := .bool false) rfl ?_)
  show wpAny _ _ (field (.ref z) 3 >>= _) _ _ _
  refine wpAny_bind (wpAny_field hz rfl (x := .ref TI) rfl ?_)
  refine wpAny_bind (wpAny_seqItems hTI rfl ?_)
  show wpAny _ _ (Builtin.SmallTypes.ownedTupleIsFree (.ref z) >>= _) _ _ _
  refine wpAny_bind (zx_free hz ho ?_ fun k0 f' hz0 hs0 => ?_)
  · simp only [if_true]
    refine wpAny_bind (wpAny_rule ?_)
    refine wpAny_bind (wpAny_field hz rfl (x := .ref TO) rfl ?_)
    refine wpAny_bind (wpAny_setField_rec hz (by simp) fun k0 hz0 hs0 => ?_)
    replace hz0 : IsZipX k0 z TI TO .ellipsis f := hz0
    replace hs0 : Heap.SameBut z hp k0 := hs0
    refine wpAny_bind ?_
    simp only [List.zipIdx_cons, List.zipIdx_nil, List.forIn_cons, List.forIn_nil]
    refine wpAny_bind (wpAny_bind (wpAny_onRaise ?_))
    show wpAny _ _ (Builtin.SmallTypes.nextOf (.ref i1) >>= _) _ _ ⟨k0, gs, d, tk0, os⟩
    refine wpAny_bind (D1.item i _ _ _ hlt1 (D1.over st1 hs0 D.zf1) fun x1 p1 tk1 hx1 sn1 hp1 => wpAny_pure ?_)
    replace hp1 : Heap.SameBut i1 k0 p1 := hp1
    have hU1 : IsTupOf2 p1 TO a1 a2 := hp1.extBut _ _ D.Ti1 (hs0.extBut _ _ D.TOz hTO)
    refine wpAny_bind (wpAny_seqItems (s := ⟨p1, gs, d, tk1, os⟩) hU1 rfl ?_)
    refine wpAny_bind (updateSeq_IsTupOf2 (s := ⟨p1, gs, d, tk1, os⟩) hU1 fun k1 hT1 hs1 => ?_)
    replace hT1 : IsTupOf2 k1 TO x1 a2 := hT1
    replace hs1 : Heap.SameBut TO p1 k1 := hs1
    refine wpAny_bind (wpAny_letGo (wpAny_pure ?_))
    refine wpAny_bind (wpAny_bind (wpAny_onRaise ?_))
    show wpAny _ _ (Builtin.SmallTypes.nextOf (.ref i2) >>= _) _ _ ⟨k1, gs, d, tk1, os⟩
    refine wpAny_bind (D2.item i _ _ _ hlt2 (D2.over (D2.over (D2.over st2 hs0 D.zf2) hp1 D.sep1_2) hs1 D.Tf2) fun x2 p2 tk2 hx2 sn2 hp2 => wpAny_pure ?_)
    replace hp2 : Heap.SameBut i2 k1 p2 := hp2
    have hU2 : IsTupOf2 p2 TO x1 a2 := hp2.extBut _ _ D.Ti2 hT1
    refine wpAny_bind (wpAny_seqItems (s := ⟨p2, gs, d, tk2, os⟩) hU2 rfl ?_)
    refine wpAny_bind (updateSeq_IsTupOf2 (s := ⟨p2, gs, d, tk2, os⟩) hU2 fun k2 hT2 hs2 => ?_)
    replace hT2 : IsTupOf2 k2 TO x1 x2 := hT2
    replace hs2 : Heap.SameBut TO p2 k2 := hs2
    refine wpAny_bind (wpAny_letGo (wpAny_pure (wpAny_pure ?_)))
    refine wpAny_bind (wpAny_seqItems (s := ⟨k2, gs, d, tk2, os⟩) hT2 rfl ?_)
    refine wpAny_bind (wpAny_newTuple ?_)
    have hsz : k2.objs.size = hp.objs.size := by rw [hs2.1, hp2.1, hs1.1, hp1.1, hs0.1]
    have hzz : IsZipX k2 z TI TO .ellipsis f := (hs2.extBut _ _ D.TOz.symm (hp2.extBut _ _ D.zi2 (hs1.extBut _ _ D.TOz.symm (hp1.extBut _ _ D.zi1 hz0))))
    have hkk : ∀ c o, c ≠ z → c ≠ TO → c ≠ i1 → c ≠ i2 → hp.get? c = some o → k2.get? c = some o := fun c o cz cT c1 c2 e =>
      (hs2.extBut _ _ cT (hp2.extBut _ _ c2 (hs1.extBut _ _ cT (hp1.extBut _ _ c1 (hs0.extBut _ _ cz e)))))
    have hj1 : St1 (i + 1) k2 := (D1.over (D1.over (D1.over sn1 hs1 D.Tf1) hp2 D.sep2_1) hs2 D.Tf1)
    have hj2 : St2 (i + 1) k2 := (D2.over sn2 hs2 D.Tf2)
    have hzlt : z < k2.objs.size := Heap.lt_size hzz
    show wpAny _ _ (Builtin.SmallTypes.ownedTupleHandOut (.ref z) (.ref k2.objs.size) >>= _) _ _ ⟨k2.push { cls := .type "tuple", data := .seq #[x1, x2] }, gs, d, tk2, os⟩
    refine wpAny_bind ?_
    unfold Builtin.SmallTypes.ownedTupleHandOut
    have hz6 : IsZipX (k2.push { cls := .type "tuple", data := .seq #[x1, x2] }) z TI TO .ellipsis f := Heap.get?_push_of_some _ hzz
    refine wpAny_bind (wpAny_setField_rec hz6 (by simp) fun k7 hz7 hs7 => ?_)
    replace hz7 : IsZipX k7 z TI TO (rawInt k2.objs.size) f := hz7
    refine wpAny_setField_rec hz7 (by simp) fun k8 hz8 hs8 => ?_
    replace hz8 : IsZipX k8 z TI TO (rawInt k2.objs.size) false := hz8
    replace hs7 : Heap.SameBut z (k2.push { cls := .type "tuple", data := .seq #[x1, x2] }) k7 := hs7
    replace hs8 : Heap.SameBut z k7 k8 := hs8
    have up : ∀ c o, c ≠ z → k2.get? c = some o → k8.get? c = some o := fun c o c1 e => hs8.extBut _ _ c1 (hs7.extBut _ _ c1 (Heap.get?_push_of_some _ e))
    have hT8 : IsTupOf2 k8 k2.objs.size x1 x2 := hs8.extBut _ _ (Nat.ne_of_gt hzlt) (hs7.extBut _ _ (Nat.ne_of_gt hzlt) (Heap.get?_push_size _ rfl))
    rw [hsz] at hz8 hT8
    refine wpAny_pure ⟨_, rfl, ?_⟩
    show Q (.ref k2.objs.size) ⟨k8, gs, d, tk2, os⟩
    rw [hsz]
    exact hQ x1 x2 k8 tk2 _ _ hx1 hx2 hz8 (.inr ⟨_, rfl⟩) ⟨_, _, up _ _ D.TOz hT2⟩ (D1.frame _ _ _ hj1 fun b hb o e => up b o (fun q => D.zf1 (q ▸ hb)) e) (D2.frame _ _ _ hj2 fun b hb o e => up b o (fun q => D.zf2 (q ▸ hb)) e) hT8 fun c o cz cT c1 c2 e => up c o cz (hkk c o cz cT c1 c2 e)
  · replace hs0 : Heap.SameBut z hp k0 := hs0
    simp only [Bool.false_eq_true, if_false]
    refine wpAny_bind ?_
    rw [← Array.forIn_toList]
    simp only [List.forIn_cons, List.forIn_nil]
    refine wpAny_bind (wpAny_bind (wpAny_holding ?_))
    show wpAny _ _ (Builtin.SmallTypes.nextOf (.ref i1) >>= _) _ _ ⟨k0, gs, d, tk0, os⟩
    refine wpAny_bind (D1.item i _ _ _ hlt1 (D1.over st1 hs0 D.zf1) fun x1 p1 tk1 hx1 sn1 hp1 => wpAny_pure ?_)
    replace hp1 : Heap.SameBut i1 k0 p1 := hp1
    refine wpAny_pure ?_
    refine wpAny_bind (wpAny_bind (wpAny_holding ?_))
    show wpAny _ _ (Builtin.SmallTypes.nextOf (.ref i2) >>= _) _ _ ⟨p1, gs, d, tk1, os⟩
    refine wpAny_bind (D2.item i _ _ _ hlt2 (D2.over (D2.over st2 hs0 D.zf2) hp1 D.sep1_2) fun x2 p2 tk2 hx2 sn2 hp2 => wpAny_pure ?_)
    replace hp2 : Heap.SameBut i2 p1 p2 := hp2
    refine wpAny_pure (wpAny_pure ?_)
    show wpAny _ _ (newTuple [x1, x2] >>= _) _ _ _
    refine wpAny_bind (wpAny_newTuple ?_)
    have hsz : p2.objs.size = hp.objs.size := by rw [hp2.1, hp1.1, hs0.1]
    have hzz : IsZipX p2 z TI TO f0 f' := hp2.extBut _ _ D.zi2 (hp1.extBut _ _ D.zi1 hz0)
    have hkk : ∀ c o, c ≠ z → c ≠ i1 → c ≠ i2 → hp.get? c = some o → p2.get? c = some o := fun c o cz c1 c2 e => hp2.extBut _ _ c2 (hp1.extBut _ _ c1 (hs0.extBut _ _ cz e))
    have hj1 : St1 (i + 1) p2 := D1.over sn1 hp2 D.sep2_1
    refine wpAny_pure ⟨_, rfl, ?_⟩
    show Q (.ref p2.objs.size) _
    have hpp : IsTupOf2 (p2.push { cls := .type "tuple", data := .seq #[x1, x2] }) p2.objs.size x1 x2 := Heap.get?_push_size _ rfl
    rw [hsz] at hpp ⊢
    exact hQ x1 x2 _ tk2 f0 f' hx1 hx2 (Heap.get?_push_of_some _ hzz) ho ⟨_, _, Heap.get?_push_of_some _ (hkk _ _ D.TOz D.Ti1 D.Ti2 hTO)⟩ (D1.frame _ _ _ hj1 fun b hb o e => Heap.get?_push_of_some _ e) (D2.frame _ _ _ sn2 fun b hb o e => Heap.get?_push_of_some _ e) hpp fun c o cz cT c1 c2 e => Heap.get?_push_of_some _ (hkk c o cz c1 c2 e)
theorem zx_next_end {Q : Fin → Shared → Prop} (D : ZipSep2 z TI TO i1 i2 fp1 fp2) (D1 : Draws prog w A i1 fp1 n1 P1 St1) (D2 : Draws prog w A i2 fp2 n2 P2 St2)
    (hz : IsZipX s.heap z TI TO f0 f) (ho : OutV f0) (hTI : IsTupOf2 s.heap TI (.ref i1) (.ref i2)) (hTO : IsTupOf2 s.heap TO a1 a2) (st1 : St1 i s.heap) (st2 : St2 i s.heap) (hle1 : i ≤ n1) (hle2 : i ≤ n2) (hend : i = n1 ∨ i = n2)
    (hE : ∀ h' tk e, (∀ c o, c ≠ z → c ≠ TO → c ≠ i1 → c ≠ i2 → s.heap.get? c = some o → h'.get? c = some o) → (∃ o, h'.get? e = some o ∧ o.cls = .type "StopIteration") → E (.ref e) { s with heap := h', toks := tk }) :
    wpAny (model prog w) A (Builtin.«zip.__next__» ⟨[.ref z], []⟩) Q E s := by
  obtain ⟨hp, gs, d, tk0, os⟩ := s
  show wpAny _ _ (field (.ref z) 2 >>= _) _ _ _
  refine wpAny_bind (wpAny_field hz rfl (x := .bool false) rfl ?_)
  show wpAny _ _ (field (.ref z) 3 >>= _) _ _ _
  refine wpAny_bind (wpAny_field hz rfl (x := .ref TI) rfl ?_)
  refine wpAny_bind (wpAny_seqItems hTI rfl ?_)
  show wpAny _ _ (Builtin.SmallTypes.ownedTupleIsFree (.ref z) >>= _) _ _ _
  refine wpAny_bind (zx_free hz ho ?_ fun k0 f' hz0 hs0 => ?_)
  · simp only [if_true]
    refine wpAny_bind (wpAny_rule ?_)
    refine wpAny_bind (wpAny_field hz rfl (x := .ref TO) rfl ?_)
    refine wpAny_bind (wpAny_setField_rec hz (by simp) fun k0 hz0 hs0 => ?_)
    replace hz0 : IsZipX k0 z TI TO .ellipsis f := hz0
    replace hs0 : Heap.SameBut z hp k0 := hs0
    refine wpAny_bind ?_
    simp only [List.zipIdx_cons, List.zipIdx_nil, List.forIn_cons, List.forIn_nil]
    refine wpAny_bind (wpAny_bind (wpAny_onRaise ?_))
    show wpAny _ _ (Builtin.SmallTypes.nextOf (.ref i1) >>= _) _ _ ⟨k0, gs, d, tk0, os⟩
    by_cases hlt1 : i < n1
    · refine wpAny_bind (D1.item i _ _ _ hlt1 (D1.over st1 hs0 D.zf1) fun x1 p1 tk1 hx1 sn1 hp1 => wpAny_pure ?_)
      replace hp1 : Heap.SameBut i1 k0 p1 := hp1
      have hU1 : IsTupOf2 p1 TO a1 a2 := hp1.extBut _ _ D.Ti1 (hs0.extBut _ _ D.TOz hTO)
      refine wpAny_bind (wpAny_seqItems (s := ⟨p1, gs, d, tk1, os⟩) hU1 rfl ?_)
      refine wpAny_bind (updateSeq_IsTupOf2 (s := ⟨p1, gs, d, tk1, os⟩) hU1 fun k1 hT1 hs1 => ?_)
      replace hT1 : IsTupOf2 k1 TO x1 a2 := hT1
      replace hs1 : Heap.SameBut TO p1 k1 := hs1
      refine wpAny_bind (wpAny_letGo (wpAny_pure ?_))
      have hi2 : i = n2 := by omega
      refine wpAny_bind (wpAny_bind (wpAny_onRaise ?_))
      show wpAny _ _ (Builtin.SmallTypes.nextOf (.ref i2) >>= _) _ _ ⟨k1, gs, d, tk1, os⟩
      refine wpAny_bind (D2.done ⟨k1, gs, d, tk1, os⟩ _ _ (by rw [← hi2]; exact (D2.over (D2.over (D2.over st2 hs0 D.zf2) hp1 D.sep1_2) hs1 D.Tf2)) fun q e hq he => ?_)
      replace hq : Heap.ExtBut i2 k1 q := hq
      obtain ⟨oe, hoe, hce⟩ := he
      replace hoe : q.get? e = some oe := hoe
      have hzq : IsZipX q z TI TO .ellipsis f := hq _ _ D.zi2 (hs1.extBut _ _ D.TOz.symm (hp1.extBut _ _ D.zi1 hz0))
      have hez : e ≠ z := fun x => by subst x; rw [hzq] at hoe; cases hoe; simp at hce
      refine wpAny_setField_rec (s := ⟨q, gs, d, tk1, os⟩) hzq (by simp) fun q' _ hq' => ?_
      replace hq' : Heap.SameBut z q q' := hq'
      exact hE q' tk1 e (fun c o cz cT c1 c2 x => hq'.extBut _ _ cz (hq _ _ c2 (hs1.extBut _ _ cT (hp1.extBut _ _ c1 (hs0.extBut _ _ cz x))))) ⟨oe, hq'.extBut _ _ hez hoe, hce⟩
    · have hi1 : i = n1 := by omega
      refine wpAny_bind (D1.done ⟨k0, gs, d, tk0, os⟩ _ _ (by rw [← hi1]; exact (D1.over st1 hs0 D.zf1)) fun q e hq he => ?_)
      replace hq : Heap.ExtBut i1 k0 q := hq
      obtain ⟨oe, hoe, hce⟩ := he
      replace hoe : q.get? e = some oe := hoe
      have hzq : IsZipX q z TI TO .ellipsis f := hq _ _ D.zi1 hz0
      have hez : e ≠ z := fun x => by subst x; rw [hzq] at hoe; cases hoe; simp at hce
      refine wpAny_setField_rec (s := ⟨q, gs, d, tk0, os⟩) hzq (by simp) fun q' _ hq' => ?_
      replace hq' : Heap.SameBut z q q' := hq'
      exact hE q' tk0 e (fun c o cz cT c1 c2 x => hq'.extBut _ _ cz (hq _ _ c1 (hs0.extBut _ _ cz x))) ⟨oe, hq'.extBut _ _ hez hoe, hce⟩
  · replace hs0 : Heap.SameBut z hp k0 := hs0
    simp only [Bool.false_eq_true, if_false]
    refine wpAny_bind ?_
    rw [← Array.forIn_toList]
    simp only [List.forIn_cons, List.forIn_nil]
    refine wpAny_bind (wpAny_bind (wpAny_holding ?_))
    show wpAny _ _ (Builtin.SmallTypes.nextOf (.ref i1) >>= _) _ _ ⟨k0, gs, d, tk0, os⟩
    by_cases hlt1 : i < n1
    · refine wpAny_bind (D1.item i _ _ _ hlt1 (D1.over st1 hs0 D.zf1) fun x1 p1 tk1 hx1 sn1 hp1 => wpAny_pure ?_)
      replace hp1 : Heap.SameBut i1 k0 p1 := hp1
      refine wpAny_pure ?_
      have hi2 : i = n2 := by omega
      refine wpAny_bind (wpAny_bind (wpAny_holding ?_))
      show wpAny _ _ (Builtin.SmallTypes.nextOf (.ref i2) >>= _) _ _ ⟨p1, gs, d, tk1, os⟩
      refine wpAny_bind (D2.done ⟨p1, gs, d, tk1, os⟩ _ _ (by rw [← hi2]; exact (D2.over (D2.over st2 hs0 D.zf2) hp1 D.sep1_2)) fun q e hq he => ?_)
      replace hq : Heap.ExtBut i2 p1 q := hq
      exact hE q tk1 e (fun c o cz cT c1 c2 x => hq _ _ c2 (hp1.extBut _ _ c1 (hs0.extBut _ _ cz x))) he
    · have hi1 : i = n1 := by omega
      refine wpAny_bind (D1.done ⟨k0, gs, d, tk0, os⟩ _ _ (by rw [← hi1]; exact (D1.over st1 hs0 D.zf1)) fun q e hq he => ?_)
      replace hq : Heap.ExtBut i1 k0 q := hq
      exact hE q tk0 e (fun c o cz cT c1 c2 x => hq _ _ c1 (hs0.extBut _ _ cz x)) he
theorem zx_pyNext_item {Q : Option Value → Shared → Prop} (D : ZipSep2 z TI TO i1 i2 fp1 fp2) (D1 : Draws prog w A.in1 i1 fp1 n1 P1 St1) (D2 : Draws prog w A.in1 i2 fp2 n2 P2 St2)
    (hz : IsZipX s.heap z TI TO f0 f) (ho : OutV f0) (hTI : IsTupOf2 s.heap TI (.ref i1) (.ref i2)) (hTO : IsTupOf2 s.heap TO a1 a2) (st1 : St1 i s.heap) (st2 : St2 i s.heap) (hlt1 : i < n1) (hlt2 : i < n2)
    (hQ : ∀ x1 x2 h' tk g0 g, P1 i x1 → P2 i x2 → IsZipX h' z TI TO g0 g → OutV g0 → (∃ b1 b2, IsTupOf2 h' TO b1 b2) → St1 (i + 1) h' → St2 (i + 1) h' → IsTupOf2 h' s.heap.objs.size x1 x2 →
      (∀ c o, c ≠ z → c ≠ TO → c ≠ i1 → c ≠ i2 → s.heap.get? c = some o → h'.get? c = some o) → Q (some (.ref s.heap.objs.size)) { s with heap := h', toks := tk }) :
    wpAny (model prog w) A (pyNext (.ref z)) Q E s := by
  have hT : s.TypeIs (.ref z) "zip" := ⟨_, hz, rfl⟩
  unfold pyNext
  exact wpAny_bind (wpAny_attempt (wpAny_callSpecial?_slot (name := Str.ofString "__next__") hT F.slot_zip_next
    (wpAny_call_entry F.slot_zip_next hT F.entry_zip_next
      (zx_next_item D D1 D2 hz ho hTI hTO st1 st2 hlt1 hlt2 fun x1 x2 h' tk g0 g y1 y2 b1 b2 b3 d1 d2 b5 b7 => wpAny_pure (hQ x1 x2 h' tk g0 g y1 y2 b1 b2 b3 d1 d2 b5 b7)) (F.args_zip_next_1 _))))
theorem zx_pyNext_end {Q : Option Value → Shared → Prop} (D : ZipSep2 z TI TO i1 i2 fp1 fp2) (D1 : Draws prog w A.in1 i1 fp1 n1 P1 St1) (D2 : Draws prog w A.in1 i2 fp2 n2 P2 St2)
    (hz : IsZipX s.heap z TI TO f0 f) (ho : OutV f0) (hTI : IsTupOf2 s.heap TI (.ref i1) (.ref i2)) (hTO : IsTupOf2 s.heap TO a1 a2) (st1 : St1 i s.heap) (st2 : St2 i s.heap) (hle1 : i ≤ n1) (hle2 : i ≤ n2) (hend : i = n1 ∨ i = n2)
    (hQ : ∀ h' tk, (∀ c o, c ≠ z → c ≠ TO → c ≠ i1 → c ≠ i2 → s.heap.get? c = some o → h'.get? c = some o) → Q none { s with heap := h', toks := tk }) : wpAny (model prog w) A (pyNext (.ref z)) Q E s := by
  have hT : s.TypeIs (.ref z) "zip" := ⟨_, hz, rfl⟩
  unfold pyNext
  refine wpAny_bind (wpAny_attempt (wpAny_callSpecial?_slot (name := Str.ofString "__next__") hT F.slot_zip_next
    (wpAny_call_entry F.slot_zip_next hT F.entry_zip_next (zx_next_end D D1 D2 hz ho hTI hTO st1 st2 hle1 hle2 hend fun h' tk e hk he => ?_) (F.args_zip_next_1 _))))
  obtain ⟨o, ho, hc⟩ := he
  refine wpAny_bind (wpAny_isInstance (T := "StopIteration") (b := true) ⟨o, ho, hc⟩ isSubtype_stop ?_)
  exact wpAny_pure (hQ _ _ hk)
theorem zx_pyIter {Q : Value → Shared → Prop} (hz : IsZipX s.heap z TI TO f0 f) (h : Q (.ref z) s) : wpAny (model prog w) A (pyIter (.ref z)) Q E s := by
  have hT : s.TypeIs (.ref z) "zip" := ⟨_, hz, rfl⟩
  refine wpAny_pyIter_slot hT F.slot_zip_iter (wpAny_call_entry F.slot_zip_iter hT F.entry_zip_iter ?_ (F.args_zip_iter_1 _))
  show wpAny _ _ (ret (.ref z)) _ _ s
  exact wpAny_pure ⟨_, rfl, "zip", _, hT, F.slot_zip_next.lookup, h⟩
end
end PySem
namespace TL
open PySem PySem.Spec PyProof.Rows L2
theorem go_name {M : Model} {A : Around} {E : Value → Shared → Prop} {s : Shared} {x : Str} {p : Pos} {it v : Value} {Q : Unit → Shared → Prop} (h : Q () s) : wpAny M A (letOwnedTupleGo (.Name x p) it v) Q E s := wpAny_pure h
theorem turn_zipN {P : Program} {w : World} {K : PySem.W.Frag} {nm : Str} {npos : Pos} (b c : Bool) {a a' z TI TO i1 i2 : Addr} (D : ZipSep2 z TI TO i1 i2 [i1, a] [i2, a']) (h1a : a ≠ i1) (h2a : a' ≠ i2) :
    Turn P w K (.Name nm npos) (ItzB K b c a a') [z, TI, TO, i1, i2] z (fun i h => (∃ f0 f, IsZipX h z TI TO f0 f ∧ OutV f0) ∧ IsTupOf2 h TI (.ref i1) (.ref i2) ∧ (∃ x y, IsTupOf2 h TO x y) ∧ itAt b h i1 a i ∧ itAt c h i2 a' i) where
  mem := by simp
  obj := fun i h st q hq => by
    obtain ⟨⟨f0, f, hz, _⟩, hTI, ⟨x, y, hTO⟩, h1, h2⟩ := st
    have e' : q = z ∨ q = TI ∨ q = TO ∨ q = i1 ∨ q = i2 := by simpa using hq
    rcases e' with q | q | q | q | q
    · rw [q]; exact ⟨_, hz, fun v q => nomatch q⟩
    · rw [q]; exact ⟨_, hTI, fun v q => nomatch q⟩
    · rw [q]; exact ⟨_, hTO, fun v q => nomatch q⟩
    · rw [q]; exact h1.has
    · rw [q]; exact h2.has
  keep := fun i h h' st k => by
    obtain ⟨⟨f0, f, hz, ho⟩, hTI, ⟨x, y, hTO⟩, h1, h2⟩ := st
    exact ⟨⟨f0, f, k z (by simp) _ hz, ho⟩, k TI (by simp) _ hTI, ⟨x, y, k TO (by simp) _ hTO⟩, h1.at fun o q => k i1 (by simp) o q, h2.at fun o q => k i2 (by simp) o q⟩
  item := by
    intro X hP hw hK hc i pins s σ H E I hf st hg
    subst hP hw hK
    obtain ⟨⟨f0, f, hz, ho⟩, hTI, ⟨x0, y0, hTO⟩, h1, h2⟩ := st
    obtain ⟨xs, ys, x, y, hqx, hqy, hx, hy⟩ := hg
    obtain ⟨its, rv, p, _⟩ := inv_sq I hqx
    obtain ⟨its2, rv2, p2, _⟩ := inv_sq I hqy
    obtain ⟨u, hu, ru⟩ := rv.get hx
    obtain ⟨u2, hu2, ru2⟩ := rv2.get hy
    have hzl : z < s.heap.objs.size := Heap.lt_size hz
    have hh : X.A.in1.handled = none := I.ok.hd hc
    have l1 : i < its.toArray.size := by
      have := (List.getElem?_eq_some_iff.mp hu).1
      simpa using this
    have l2 : i < its2.toArray.size := by
      have := (List.getElem?_eq_some_iff.mp hu2).1
      simpa using this
    refine zx_pyNext_item D (draws_b b hh i1 a h1a its.toArray) (draws_b c hh i2 a' h2a its2.toArray) hz ho hTI hTO ⟨h1, p⟩ ⟨h2, p2⟩ l1 l2 fun v1 v2 h' tk g0 g q1 q2 z' go' TO' h1' h2' hT hk => ?_
    have q1 : v1 = u := by have q1 : its.toArray[i]? = some v1 := q1; rw [List.getElem?_toArray, hu] at q1; cases q1; rfl
    have q2 : v2 = u2 := by have q2 : its2.toArray[i]? = some v2 := q2; rw [List.getElem?_toArray, hu2] at q2; cases q2; rfl
    subst q1 q2
    refine ⟨_, rfl, go_name ?_⟩
    have new : ObjOk X.prog X.w (L2.upd H s.heap.objs.size (.tup [x, y])) h' s.heap.objs.size (.tup [x, y]) :=
      ⟨by show 2 ≤ sizeLine; decide, [v1, v2], .cons ru (.cons ru2 .nil), ⟨_, hT, rfl, _, rfl⟩⟩
    have I1 : Inv X pins σ (L2.upd H s.heap.objs.size (.tup [x, y])) { s with heap := h', toks := tk } :=
      I.turnedNew (t' := tk) (ch := [z, TI, TO, i1, i2]) (fun c o hb q => hk c o (fun q' => hb (by simp [q'])) (fun q' => hb (by simp [q'])) (fun q' => hb (by simp [q'])) (fun q' => hb (by simp [q'])) q) hf (Nat.le_refl _) new
    refine ⟨.ref s.heap.objs.size, _, I1, rfl, ⟨_, x, y, rfl, I.hok.fresh (Nat.le_refl _), rfl, fun l hl => by rw [sq_inj I hl hqx]; exact hx, fun l hl => by rw [sq_inj I hl hqy]; exact hy⟩, ⟨⟨g0, g, z', go'⟩, hk _ _ D.TIz D.TITO D.TIi1 D.TIi2 hTI, TO', h1'.1, h2'.1⟩, fun q hq => ?_⟩
    have hlt : q < s.heap.objs.size := by
      have e' : q = z ∨ q = TI ∨ q = TO ∨ q = i1 ∨ q = i2 := by simpa using hq
      rcases e' with q | q | q | q | q
      · rw [q]; exact hzl
      · rw [q]; exact Heap.lt_size hTI
      · rw [q]; exact Heap.lt_size hTO
      · rw [q]; obtain ⟨_, e1, _⟩ := h1.has; exact Heap.lt_size e1
      · rw [q]; obtain ⟨_, e2, _⟩ := h2.has; exact Heap.lt_size e2
    rw [upd_ne (Nat.ne_of_lt hlt)]
    exact (hf q hq).1
  done := by
    intro X hP hw hK hc i pins s σ H E I hf st hg
    subst hP hw hK
    obtain ⟨⟨f0, f, hz, ho⟩, hTI, ⟨x0, y0, hTO⟩, h1, h2⟩ := st
    obtain ⟨xs, ys, hqx, hqy, g1, g2, g3⟩ := hg
    obtain ⟨its, rv, p, _⟩ := inv_sq I hqx
    obtain ⟨its2, rv2, p2, _⟩ := inv_sq I hqy
    have l1 := rv.length
    have l2 := rv2.length
    have hh : X.A.in1.handled = none := I.ok.hd hc
    refine zx_pyNext_end D (draws_b b hh i1 a h1a its.toArray) (draws_b c hh i2 a' h2a its2.toArray) hz ho hTI hTO ⟨h1, p⟩ ⟨h2, p2⟩ (by simp; omega) (by simp; omega) (by simp; omega) fun h' tk hk => ⟨rfl, I.turnedL (t' := tk) (ch := [z, TI, TO, i1, i2]) (fun c o hb q =>
      hk c o (fun q' => hb (by simp [q'])) (fun q' => hb (by simp [q'])) (fun q' => hb (by simp [q'])) (fun q' => hb (by simp [q'])) q) hf⟩
  self := fun A i s Q E st h => by
    obtain ⟨f0, f, hz, _⟩ := st.1
    exact zx_pyIter hz h
theorem pi_zipN {X : Cx} {e e2 : Expr} {ta : TA} {p pos npos : Pos} {nm : Str} (hg : Gl X "zip") (hm : X.mg "zip" = none) (ha : PA X [e, e2] ta)
    (hs : starEach [e, e2] X.env = (false, eval e X.env) :: starEach [e2] X.env := by rfl) (hpl : (backTo pos (starEach [e2] X.env)).any (·.1) = false := by rfl) :
    PI X (.Name nm npos) (.Call (.Name "zip" p) [e, e2] [] pos) (iZipB X.K ta) := by
  refine ⟨fun pins s σ H R I h => ?_⟩
  refine Call_ (ld_blt I hg hm PyProof.Rows.boot_zip (PyProof.Rows.callWith_type1 (thn (ha.run pos pins s σ H _ I h) fun us s1 ⟨vs, H1, I1, r1, q1⟩ => ?_) hs hpl))
  obtain ⟨b, c, a, a', ex, ⟨xs, hqx⟩, ⟨ys, hqy⟩, q⟩ := q1
  subst ex
  cases r1 with
  | cons r rr =>
    cases rr with
    | cons r' rr =>
      cases rr
      cases r
      cases r'
      have fresh5 : ∀ c, c ∈ [s1.heap.objs.size + 4, s1.heap.objs.size + 2, s1.heap.objs.size + 3, s1.heap.objs.size, s1.heap.objs.size + 1] → FpOk X pins H1 c := fun c hcm => by
        have e' : c = s1.heap.objs.size + 4 ∨ c = s1.heap.objs.size + 2 ∨ c = s1.heap.objs.size + 3 ∨ c = s1.heap.objs.size ∨ c = s1.heap.objs.size + 1 := by simpa using hcm
        have hle : s1.heap.objs.size ≤ c := by omega
        exact I1.fpOk hle (I1.hok.fresh hle)
      obtain ⟨its, rv, p1, la⟩ := inv_sq I1 hqx
      obtain ⟨its2, rv2, p2, lb⟩ := inv_sq I1 hqy
      refine zip_begins2 (begins_b b a its.toArray) (begins_b c a' its2.toArray) p1 p2 fun h' hz hTI hTO h1 h2 hsz hk => zx_pyIter hz ?_
      have I2 : Inv X pins σ H1 { s1 with heap := h' } := I1.kept (t' := s1.toks) hk
      have S := PySem.zip_sep2 (N := s1.heap.objs.size) (fp1 := [a]) (fp2 := [a']) (fun b hb => by cases List.mem_singleton.mp hb; exact la) (fun b hb => by cases List.mem_singleton.mp hb; exact lb)
      exact ⟨s1.heap.objs.size + 4, [s1.heap.objs.size + 4, s1.heap.objs.size + 2, s1.heap.objs.size + 3, s1.heap.objs.size, s1.heap.objs.size + 1], _, _, H1, rfl, I2, turn_zipN b c S (Nat.ne_of_lt la) (Nat.ne_of_lt (Nat.lt_succ_of_lt lb)), ⟨⟨_, _, hz, .inl rfl⟩, hTI, ⟨_, _, hTO⟩, itOf_at h1, itOf_at h2⟩, fresh5, q⟩
end TL
namespace TL
open PySem PySem.Spec PyProof.Rows L2
section
variable {K : PySem.W.Frag} {XR : XRel} {W : WX} {Z Z' : Addr → Prop} {H H' H0 : Hp} {ι ι' : Nat → Addr} {S : Sto}
theorem wipe_none {σ : L2.St} {i : Nat} : ∀ {vs : List Nat}, i ∈ vs → ∀ x, (L2.wipe σ vs)[i]? ≠ some (some x)
  | vs, hi, x, e => (L2.wipe_some e).2 hi
theorem wipe_in {σ : L2.St} {i : Nat} : ∀ {vs : List Nat}, i ∈ vs → i < σ.length → (L2.wipe σ vs)[i]? = some none := by
  intro vs hi hl
  have hl' : i < (L2.wipe σ vs).length := by rw [L2.wipe_length]; exact hl
  cases e : (L2.wipe σ vs)[i] with
  | none => rw [List.getElem?_eq_getElem hl', e]
  | some x => exact absurd (by rw [List.getElem?_eq_getElem hl', e]) (wipe_none (σ := σ) hi x)
theorem wipe_set {σ : L2.St} {vs : List Nat} {i : Nat} (hi : i ∈ vs) (x : Option V) : L2.wipe (σ.set i x) vs = L2.wipe σ vs := by
  apply List.ext_getElem?
  intro k
  by_cases hk : k ∈ vs
  · by_cases hl : k < σ.length
    · rw [wipe_in hk hl, wipe_in hk (by simpa using hl)]
    · rw [List.getElem?_eq_none (by rw [L2.wipe_length]; simpa using hl), List.getElem?_eq_none (by rw [L2.wipe_length]; omega)]
  · rw [L2.wipe_out hk, L2.wipe_out hk, List.getElem?_set_ne (fun e => hk (by rw [← e]; exact hi))]
theorem wipe_wipe {σ : L2.St} {vs : List Nat} : L2.wipe (L2.wipe σ vs) vs = L2.wipe σ vs := by
  apply List.ext_getElem?
  intro k
  by_cases hk : k ∈ vs
  · by_cases hl : k < σ.length
    · rw [wipe_in hk hl, wipe_in hk (by rw [L2.wipe_length]; exact hl)]
    · rw [List.getElem?_eq_none (by rw [L2.wipe_length, L2.wipe_length]; omega), List.getElem?_eq_none (by rw [L2.wipe_length]; omega)]
  · rw [L2.wipe_out hk]
def Tg.ins : Tg → List Nat
  | .name i => [i]
  | .tup is => is
def GOk (K : PySem.W.Frag) (tg : Tg) (g : TG) : Prop := ∀ {Z : Addr → Prop} {H : Hp} {ι : Nat → Addr} {S : Sto} {x : V} {t : T} {σ : L2.St} {l l1 : Lo} {Q : L2.St → Hp → Prop}, Rel K Z ι S H → Is K Z H ι S.length x t → Sl K Z H ι S.length σ l → asgTg tg t l = some l1 →
  (∀ σ2, Sl K Z H ι S.length σ2 l1 → (∀ vs, (∀ i ∈ tg.ins, i ∈ vs) → L2.wipe σ2 vs = L2.wipe σ vs) → Q σ2 H) → g x σ H Q
theorem gok_name (i : Nat) : GOk K (.name i) (gName i) := by
  intro Z H ι S x t σ l l1 Q R ix sl e h
  cases e
  exact h _ (sl.set i ix) fun vs hv => wipe_set (hv i (List.mem_singleton.mpr rfl)) _
def gNames : List Nat → TGs
  | [] => gNil
  | i :: is => gCons (gName i) (gNames is)
theorem gok_names {Z : Addr → Prop} {H : Hp} {ι : Nat → Addr} {n : Nat} : ∀ {is : List Nat} {vs : List V} {ts : List T} {σ : L2.St} {l l1 : Lo} {Q : L2.St → Hp → Prop}, IsAll K Z H ι n vs ts → Sl K Z H ι n σ l → asgTup is ts l = some l1 →
    (∀ σ2, Sl K Z H ι n σ2 l1 → (∀ vs, (∀ i ∈ is, i ∈ vs) → L2.wipe σ2 vs = L2.wipe σ vs) → Q σ2 H) → gNames is vs σ H Q ∧ vs.length = is.length
  | [], _, _, σ, l, l1, Q, ia, sl, e, h => by
    cases ia with
    | nil => cases e; exact ⟨⟨rfl, h _ sl fun _ _ => rfl⟩, rfl⟩
    | cons _ _ => cases e
  | i :: is, _, _, σ, l, l1, Q, ia, sl, e, h => by
    cases ia with
    | nil => cases e
    | cons ix ia =>
      have := gok_names ia (sl.set i ix) e (Q := Q) fun σ2 s2 w2 => h σ2 s2 fun vs hv => by
        rw [w2 vs fun j hj => hv j (List.mem_cons_of_mem _ hj), wipe_set (hv i List.mem_cons_self)]
      exact ⟨⟨_, _, rfl, this.1⟩, by simp [this.2]⟩
theorem gok_tup (is : List Nat) : GOk K (.tup is) (gTup K is.length (gNames is)) := by
  intro Z H ι S x t σ l l1 Q R ix sl e h
  cases t with
  | tup ts =>
    cases ix with
    | tup ha ia =>
      have := gok_names ia sl e h
      exact ⟨_, _, rfl, .of ha, this.2, this.1⟩
  | _ => cases e
theorem Step.updFree {n n' : Nat} {D : Addr} {o : HO} (s : Step ι n H ι' n' H') (hD : H D = none) : Step ι n H ι' n' (L2.upd H' D o) :=
  ⟨s.le, s.ext, s.new, fun a u e hn => by rw [upd_ne (ne_of_none e hD)]; exact s.keep a u e hn, fun a u e => by rw [upd_ne (ne_of_none e hD)]; exact s.there a u e⟩
mutual
theorem Is.adopt {n : Nat} {D : Addr} : ∀ {v : V} {t : T}, Is K (fun a => Z a ∨ a = D) H ι n v t → Is K Z H (fun i => if i = n then D else ι i) (n + 1) v t
  | _, _, .non => .non
  | _, _, .bl b => .bl b
  | _, _, .int i => .int i
  | _, _, .str x => .str x
  | _, _, .fn a => .fn a
  | _, _, .tup h hs => .tup h (IsAll.adopt hs)
  | _, _, .lst h hn hz hs => by
    refine .lst h (fun i hi => ?_) (fun q => hz (.inl q)) (IsAll.adopt hs)
    by_cases e : i = n
    · simp only [e, if_true]; exact fun q => hz (.inr q.symm)
    · simp only [e, if_false]; exact hn i (by omega)
  | _, _, .scrK h => .scrK h
  | _, _, .scr h hn hz => by
    refine .scr h (fun i hi => ?_) (fun q => hz (.inl q))
    by_cases e : i = n
    · simp only [e, if_true]; exact fun q => hz (.inr q.symm)
    · simp only [e, if_false]; exact hn i (by omega)
  | _, _, .dK h hn hz hl hs => by
    refine .dK h (fun i hi => ?_) (fun q => hz (.inl q)) hl (IsAll.adopt hs)
    by_cases e : i = n
    · simp only [e, if_true]; exact fun q => hz (.inr q.symm)
    · simp only [e, if_false]; exact hn i (by omega)
  | _, _, .dT h hn hz hl hs => by
    refine .dT h (fun i hi => ?_) (fun q => hz (.inl q)) hl (IsAll.adopt hs)
    by_cases e : i = n
    · simp only [e, if_true]; exact fun q => hz (.inr q.symm)
    · simp only [e, if_false]; exact hn i (by omega)
  | _, _, .ref (i := i) hi => by
    have e : ι i = (fun j => if j = n then D else ι j) i := by simp [Nat.ne_of_lt hi]
    rw [e]
    exact .ref (Nat.lt_succ_of_lt hi)
theorem IsAll.adopt {n : Nat} {D : Addr} : ∀ {vs : List V} {ts : List T}, IsAll K (fun a => Z a ∨ a = D) H ι n vs ts → IsAll K Z H (fun i => if i = n then D else ι i) (n + 1) vs ts
  | _, _, .nil => .nil
  | _, _, .cons h hs => .cons (Is.adopt h) (IsAll.adopt hs)
end
theorem Rel.adopt {D : Addr} {vs : List V} {ts : List T} (R : Rel K (fun a => Z a ∨ a = D) ι S H) (hD : H D = some (.lst vs)) (hz : ¬ Z D) (ia : IsAll K (fun a => Z a ∨ a = D) H ι S.length vs ts) :
    Rel K Z (fun i => if i = S.length then D else ι i) (S ++ [.lst ts]) H where
  inj := fun i j hi hj e => by
    simp only [List.length_append, List.length_singleton] at hi hj
    by_cases h1 : i = S.length <;> by_cases h2 : j = S.length
    · omega
    · simp only [h1, h2, if_true, if_false] at e
      exact absurd (.inr e.symm) (R.nz j (by omega))
    · simp only [h1, h2, if_true, if_false] at e
      exact absurd (.inr e) (R.nz i (by omega))
    · simp only [h1, h2, if_false] at e
      exact R.inj i j (by omega) (by omega) e
  obj := fun i o e => by
    have el : (S ++ [Ob.lst ts]).length = S.length + 1 := by simp
    rw [el]
    by_cases h1 : i = S.length
    · subst h1
      rw [List.getElem?_append_right (Nat.le_refl _)] at e
      simp at e
      subst e
      simp only [if_true]
      exact .lst hD (IsAll.adopt ia)
    · have hi : i < S.length := by
        have := (List.getElem?_eq_some_iff.mp e).1
        simp at this; omega
      rw [List.getElem?_append_left hi] at e
      simp only [h1, if_false]
      cases R.obj i o e with
      | lst e1 hs => exact .lst e1 (IsAll.adopt hs)
      | dK e1 hl hs => exact .dK e1 hl (IsAll.adopt hs)
      | dT e1 hl hs => exact .dT e1 hl (IsAll.adopt hs)
  zt := fun a z => R.zt a (.inl z)
  nz := fun i hi z => by
    by_cases h1 : i = S.length
    · simp only [h1, if_true] at z; exact hz z
    · simp only [h1, if_false] at z
      exact R.nz i (by simp at hi; omega) (.inl z)
theorem Step.adopt {n0 n' : Nat} {ι0 : Nat → Addr} {D : Addr} (s : Step ι0 n0 H0 ι' n' H') (hD : H0 D = none) : Step ι0 n0 H0 (fun i => if i = n' then D else ι' i) (n' + 1) H' :=
  ⟨Nat.le_succ_of_le s.le, fun i hi => by rw [if_neg (Nat.ne_of_lt (Nat.lt_of_lt_of_le hi s.le))]; exact s.ext i hi, fun i h1 h2 => by
    by_cases e : i = n'
    · simp only [e, if_true]; exact hD
    · simp only [e, if_false]; exact s.new i h1 (by omega), s.keep, s.there⟩
theorem none_back {n n' : Nat} {D : Addr} (s : Step ι n H ι' n' H') (h : H' D = none) : H D = none := by
  cases e : H D with
  | none => rfl
  | some o =>
    obtain ⟨o', q⟩ := s.there D o e
    rw [h] at q; cases q
def WF : WX := fun _ _ _ _ => False
def TOk (K : PySem.W.Frag) (XR : XRel) (fc : SE) (tt : TT) : Prop := ∀ {σ : L2.St} {H : Hp} {Q : Bool → Hp → Prop}, tB (liftE K XR WF fc) σ H Q → tt σ H Q
theorem comp_lift {nw : Bool} {own : List Nat} {tg : Tg} {fi fc fe : SE} {g : TG} {tt : TT} {σ : L2.St} {Q : VK} (hg : GOk K tg g) (ht : TOk K XR fc tt) (hin : ∀ i ∈ tg.ins, i ∈ own)
    (h : liftE K XR W (compE nw own tg fi fc fe) σ H Q) : tLc (liftI K XR W fi) g tt (liftE K XR WF fe) own σ H Q := by
  obtain ⟨Z, ι, S, l, ts, R, sl, ia, p⟩ := h
  cases ia
  refine ⟨Z, ι, S, l, R, sl, ?_⟩
  simp only [compE] at p
  cases e : fi l S with
  | none => rw [e] at p; exact p.elim
  | some r =>
    obtain ⟨r, S1⟩ := r
    rw [e] at p
    cases r with
    | err x => exact p
    | ok d =>
      dsimp only at p
      cases e2 : srcItems d S1 with
      | none => rw [e2] at p; exact p.elim
      | some items =>
        rw [e2] at p
        dsimp only at p
        by_cases hl : items.length ≤ LIM
        · rw [if_pos hl] at p
          cases e3 : compL tg fc fe d items (wipeL l own) items S1 with
          | none => rw [e3] at p; exact p.elim
          | some rr =>
            obtain ⟨vs, S2⟩ := rr
            rw [e3] at p
            refine ⟨items, e2, fun ι1 H1 J st1 R1 w => ?_⟩
            intro D hD
            have hz : ∀ a o, H1 a = some o → (Z a ∨ a = D) → Z a := fun a o h q => q.elim id fun q => by rw [q, hD] at h; cases h
            have slw : Sl K Z H1 ι1 S1.length (L2.wipe σ own) (wipeL l own) := (Sl.step R st1 sl).wipe own
            let Pv : Nat → Hp → Prop := fun i H' => ∃ (ι' : Nat → Addr) (S' : Sto) (acc : List V) (accT rest : List T), Step ι1 S1.length H1 ι' S'.length H' ∧ Rel K (fun a => Z a ∨ a = D) ι' S' H' ∧ H' D = some (.lst acc) ∧
              IsAll K (fun a => Z a ∨ a = D) H' ι' S'.length acc accT ∧ compL tg fc fe d items (wipeL l own) (items.drop i) S' = some (rest, S2) ∧ accT ++ rest = vs ∧ accT.length ≤ i
            have fin : ∀ H', Pv items.length H' → J.stop items.length H' ∧ Q (.ref D) H' := by
              rintro H' ⟨ι', S', acc, accT, rest, st, R', hD', ia, ce, ea, hle⟩
              rw [List.drop_length] at ce
              simp only [compL] at ce
              by_cases ok : okSrc d items S' = true
              · rw [if_pos ok] at ce
                cases ce
                rw [List.append_nil] at ea
                subst ea
                refine ⟨(w.run _ ι' S2 H' hz st R' ok).2.1, ?_⟩
                have nzD : ¬ Z D := Rel.notZ R1 hD
                cases nw with
                | false =>
                  have hn : ∀ i, i < S2.length → ι' i ≠ D := fun i hi q => R'.nz i hi (.inr q)
                  exact p ι' H' (.ref D) (st1.trans st) (Rel.less (fun a z => .inl z) R') (.lst hD' hn nzD (IsAll.less (fun a z => .inl z) ia))
                | true =>
                  have hD0 : H D = none := none_back st1 hD
                  have R2 := Rel.adopt R' hD' nzD ia
                  have s2 := Step.adopt (st1.trans st) hD0
                  have el : (S2 ++ [Ob.lst accT]).length = S2.length + 1 := by simp
                  have q := p (fun i => if i = S2.length then D else ι' i) H' (.ref D) (by rw [el]; exact s2) R2
                  have ed : V.ref D = V.ref ((fun i => if i = S2.length then D else ι' i) S2.length) := by simp
                  refine q ?_
                  rw [ed, el]
                  exact .ref (Nat.lt_succ_self _)
              · rw [if_neg ok] at ce; cases ce
            have turn : ∀ i H', i < items.length → Pv i H' → J.go i H' ∧ ∀ x H'', J.yld i H' x H'' → g x (L2.wipe σ own) H'' fun σ2 H2 => L2.wipe σ2 own = L2.wipe σ own ∧ tt σ2 H2 fun b H3 =>
                if b = true then liftE K XR WF fe σ2 H3 fun y H4 => ∃ acc, H4 D = some (.lst acc) ∧ acc.length < sizeLine ∧ Pv (i + 1) (L2.upd H4 D (.lst (acc ++ [y]))) else Pv (i + 1) H3 := by
              rintro i H' hi ⟨ι', S', acc, accT, rest, st, R', hD', ia, ce, ea, hle⟩
              have ed : items.drop i = items[i] :: items.drop (i + 1) := by rw [List.drop_eq_getElem_cons hi]
              rw [ed] at ce
              simp only [compL] at ce
              by_cases ok : okSrc d items S' = true
              · rw [if_pos ok] at ce
                obtain ⟨w1, w2, w3⟩ := w.run _ ι' S' H' hz st R' ok
                refine ⟨w1 i hi, fun x H'' y => ?_⟩
                obtain ⟨t, ht', s3, R3, ix⟩ := w3 i x H'' hi y
                rw [List.getElem?_eq_getElem hi] at ht'
                cases ht'
                cases q1 : asgTg tg items[i] (wipeL l own) with
                | none => rw [q1] at ce; cases ce
                | some l1 =>
                  rw [q1] at ce
                  dsimp only at ce
                  have st3 := st.trans s3
                  have ia3 := IsAll.step R' s3 ia
                  have hD3 : H'' D = some (.lst acc) := s3.keep D _ hD' fun j hj q => R'.nz j hj (.inr q)
                  refine hg R3 ix (Sl.stepZ R1 hz st3 slw) q1 fun σ2 sl2 w2' => ⟨by rw [w2' own hin, wipe_wipe], ?_⟩
                  refine ht ?_
                  refine ⟨_, ι', S', l1, [], R3, sl2, .nil, ?_⟩
                  show Post K XR WF _ ι' S'.length H'' σ2 _ (fc l1 S')
                  cases q2 : fc l1 S' with
                  | none => rw [q2] at ce; cases ce
                  | some r2 =>
                    obtain ⟨r2, S4⟩ := r2
                    rw [q2] at ce
                    cases r2 with
                    | err x => cases ce
                    | ok b =>
                      cases b with
                      | bl b =>
                        intro ι4 H4 v4 st4 R4 i4
                        have hD4 : H4 D = some (.lst acc) := st4.keep D _ hD3 fun j hj q => R3.nz j hj (.inr q)
                        refine ⟨b, is_bl i4, ?_⟩
                        cases b with
                        | false =>
                          simp only [Bool.false_eq_true, if_false]
                          exact ⟨ι4, S4, acc, accT, rest, st3.trans st4, R4, hD4, IsAll.step R3 st4 ia3, ce, ea, by omega⟩
                        | true =>
                          simp only [if_true]
                          dsimp only at ce
                          refine ⟨_, ι4, S4, l1, [], R4, Sl.step R3 st4 sl2, .nil, ?_⟩
                          show Post K XR WF _ ι4 S4.length H4 σ2 _ (fe l1 S4)
                          cases q5 : fe l1 S4 with
                          | none => rw [q5] at ce; cases ce
                          | some r5 =>
                            obtain ⟨r5, S5⟩ := r5
                            rw [q5] at ce
                            cases r5 with
                            | err x => cases ce
                            | ok vT =>
                              dsimp only at ce
                              cases q6 : compL tg fc fe d items (wipeL l own) (items.drop (i + 1)) S5 with
                              | none => rw [q6] at ce; cases ce
                              | some r6 =>
                                obtain ⟨vs6, S6⟩ := r6
                                rw [q6] at ce
                                cases ce
                                intro ι5 H5 y st5 R5 i5
                                have hD5 : H5 D = some (.lst acc) := st5.keep D _ hD4 fun j hj q => R4.nz j hj (.inr q)
                                have ia5 := IsAll.step R4 st5 (IsAll.step R3 st4 ia3)
                                have hn5 : ∀ j, j < S5.length → ι5 j ≠ D := fun j hj q => R5.nz j hj (.inr q)
                                have notup : ∀ us, HO.lst acc ≠ .tup us := fun us q => by cases q
                                have hzD : (fun a => Z a ∨ a = D) D := .inr rfl
                                refine ⟨acc, hD5, ?_, ι5, S5, acc ++ [y], accT ++ [vT], vs6, ?_, ?_, upd_same, ?_, q6, by simpa using ea, by simp; omega⟩
                                · rw [ia5.length]
                                  exact Nat.lt_of_le_of_lt (by omega) LIM_lt
                                · exact ((st3.trans st4).trans st5).updFree hD
                                · exact R5.updZ hD5 notup hzD hn5
                                · exact (IsAll.updZ hD5 notup hzD ia5).append (.one (Is.updZ hD5 notup hzD i5))
                      | _ => cases ce
              · rw [if_neg ok] at ce; cases ce
            refine ⟨fun i m H' => m = items.length - i ∧ i ≤ items.length ∧ Pv i H', ⟨items.length, by simp, Nat.zero_le _, ?_⟩, ?_⟩
            · exact ⟨ι1, S1, [], [], vs, Step.fresh hD, R1.more hD, upd_same, .nil, by simpa using e3, rfl, Nat.zero_le _⟩
            · rintro i m H' ⟨rfl, hi, pv⟩
              by_cases hlt : i < items.length
              · obtain ⟨go, t⟩ := turn i H' hlt pv
                exact .inr ⟨go, Pv (i + 1), fun H'' p' => ⟨items.length - (i + 1), by omega, rfl, hlt, p'⟩, t⟩
              · have e : i = items.length := by omega
                subst e
                exact .inl (fin H' pv)
        · rw [if_neg hl] at p; exact p.elim
end
section
variable {K : PySem.W.Frag} {XR : XRel} {W : WX} {Z : Addr → Prop} {H : Hp} {ι : Nat → Addr} {S : Sto} {σ : L2.St} {Q : VK}
theorem lift1 {x : V} {g : T → SE} (h : liftK K XR W [x] (fun ts => match ts with | [t] => g t | _ => fun _ _ => none) σ H Q) :
    ∃ (Z : Addr → Prop) (ι : Nat → Addr) (S : Sto) (l : Lo) (t : T), Rel K Z ι S H ∧ Sl K Z H ι S.length σ l ∧ Is K Z H ι S.length x t ∧ Post K XR W Z ι S.length H σ Q (g t l S) := by
  obtain ⟨Z, ι, S, l, ts, R, sl, ia, p⟩ := h
  cases ia with
  | cons i j => cases j; exact ⟨Z, ι, S, l, _, R, sl, i, p⟩
theorem ret_post {t : T} {l : Lo} {n : Nat} (hn : n = S.length) (R : Rel K Z ι S H) (p : Post K XR W Z ι n H σ Q (retE t l S)) {v : V} (i : Is K Z H ι S.length v t) : Q v H := by
  subst hn
  exact p ι H v .refl R i
theorem neg_lift {fa : SE} (h : liftE K XR W (bindE fa fun t => match t with
    | .int i => retE (.int (-i))
    | _ => noneE) σ H Q) : tUn (rU fun i => .int (-i)) (liftE K XR W fa) σ H Q := by
  refine lift_mono (fun x H1 h1 => ?_) (lift_bind0 h)
  obtain ⟨Z, ι, S, l, t, R, sl, i, p⟩ := lift1 h1
  cases t <;> first | exact p.elim | skip
  cases is_int i
  exact ⟨_, rfl, ret_post rfl R p (.int _)⟩
theorem not_lift {fa : SE} (h : liftE K XR W (bindE fa fun t => match t with
    | .bl b => retE (.bl (!b))
    | _ => noneE) σ H Q) : tNotV (liftE K XR W fa) σ H Q := by
  refine lift_mono (fun x H1 h1 => ?_) (lift_bind0 h)
  obtain ⟨Z, ι, S, l, t, R, sl, i, p⟩ := lift1 h1
  cases t <;> first | exact p.elim | skip
  exact ⟨_, is_bl i, ret_post rfl R p (.bl _)⟩
theorem and_lift {fa fb : SE} (h : liftE K XR W (bindE fa fun t => match t with
    | .bl true => fb
    | .bl false => retE (.bl false)
    | _ => noneE) σ H Q) : tAndV (liftE K XR W fa) (liftE K XR W fb) σ H Q := by
  refine lift_mono (fun x H1 h1 => ?_) (lift_bind0 h)
  obtain ⟨Z, ι, S, l, t, R, sl, i, p⟩ := lift1 h1
  cases t <;> first | exact p.elim | skip
  rename_i b
  refine ⟨b, is_bl i, ?_⟩
  cases b with
  | true =>
    simp only [if_true]
    exact ⟨Z, ι, S, l, [], R, sl, .nil, p⟩
  | false =>
    simp only [Bool.false_eq_true, if_false]
    exact ret_post rfl R p (.bl _)
theorem or_lift {fa fb : SE} (h : liftE K XR W (bindE fa fun t => match t with
    | .bl true => retE (.bl true)
    | .bl false => fb
    | _ => noneE) σ H Q) : tOrV (liftE K XR W fa) (liftE K XR W fb) σ H Q := by
  refine lift_mono (fun x H1 h1 => ?_) (lift_bind0 h)
  obtain ⟨Z, ι, S, l, t, R, sl, i, p⟩ := lift1 h1
  cases t <;> first | exact p.elim | skip
  rename_i b
  refine ⟨b, is_bl i, ?_⟩
  cases b with
  | false =>
    simp only [Bool.false_eq_true, if_false]
    exact ⟨Z, ι, S, l, [], R, sl, .nil, p⟩
  | true =>
    simp only [if_true]
    exact ret_post rfl R p (.bl _)
theorem ite_lift {fc fa fb : SE} (h : liftE K XR W (bindE fc fun t => match t with
    | .bl true => fa
    | .bl false => fb
    | _ => noneE) σ H Q) : tIf (tB (liftE K XR W fc)) (liftE K XR W fa) (liftE K XR W fb) σ H Q := by
  refine lift_mono (fun x H1 h1 => ?_) (lift_bind0 h)
  obtain ⟨Z, ι, S, l, t, R, sl, i, p⟩ := lift1 h1
  cases t <;> first | exact p.elim | skip
  rename_i b
  refine ⟨b, is_bl i, ?_⟩
  cases b with
  | false =>
    simp only [Bool.false_eq_true, if_false]
    exact ⟨Z, ι, S, l, [], R, sl, .nil, p⟩
  | true =>
    simp only [if_true]
    exact ⟨Z, ι, S, l, [], R, sl, .nil, p⟩
theorem notT_lift {fa : SE} {Q : Bool → Hp → Prop} (h : tB (liftE K XR W (bindE fa fun t => match t with
    | .bl b => retE (.bl (!b))
    | _ => noneE)) σ H Q) : tNot (tB (liftE K XR W fa)) σ H Q := by
  refine lift_mono (fun x H1 h1 => ?_) (not_lift h)
  obtain ⟨c, rfl, d, e, q⟩ := h1
  cases e
  exact ⟨c, rfl, q⟩
theorem andT_lift {fa fb : SE} {Q : Bool → Hp → Prop} (h : tB (liftE K XR W (bindE fa fun t => match t with
    | .bl true => fb
    | .bl false => retE (.bl false)
    | _ => noneE)) σ H Q) : tAnd (tB (liftE K XR W fa)) (tB (liftE K XR W fb)) σ H Q := by
  refine lift_mono (fun x H1 h1 => ?_) (and_lift h)
  obtain ⟨c, rfl, q⟩ := h1
  refine ⟨c, rfl, ?_⟩
  cases c with
  | true => simp only [if_true] at q ⊢; exact q
  | false =>
    simp only [Bool.false_eq_true, if_false] at q ⊢
    obtain ⟨d, e, q⟩ := q
    cases e; exact q
theorem orT_lift {fa fb : SE} {Q : Bool → Hp → Prop} (h : tB (liftE K XR W (bindE fa fun t => match t with
    | .bl true => retE (.bl true)
    | .bl false => fb
    | _ => noneE)) σ H Q) : tOr (tB (liftE K XR W fa)) (tB (liftE K XR W fb)) σ H Q := by
  refine lift_mono (fun x H1 h1 => ?_) (or_lift h)
  obtain ⟨c, rfl, q⟩ := h1
  refine ⟨c, rfl, ?_⟩
  cases c with
  | false => simp only [Bool.false_eq_true, if_false] at q ⊢; exact q
  | true =>
    simp only [if_true] at q ⊢
    obtain ⟨d, e, q⟩ := q
    cases e; exact q
theorem lift_bind2 {fa fb : SE} {g : T → T → SE} (h : liftE K XR W (bindE fa fun x => bindE fb fun y => g x y) σ H Q) :
    liftE K XR W fa σ H fun x H1 => liftE K XR W fb σ H1 fun y H2 => ∃ (Z : Addr → Prop) (ι : Nat → Addr) (S : Sto) (l : Lo) (a b : T), Rel K Z ι S H2 ∧ Sl K Z H2 ι S.length σ l ∧ Is K Z H2 ι S.length x a ∧ Is K Z H2 ι S.length y b ∧ Post K XR W Z ι S.length H2 σ Q (g a b l S) := by
  refine lift_mono (fun x H1 h1 => ?_) (lift_bind0 h)
  have h1' : liftK K XR W [x] (fun ts => bindE fb fun b => match ts with | [a] => g a b | _ => fun _ _ => none) σ H1 Q := by
    obtain ⟨Z, ι, S, l, ts, R, sl, ia, p⟩ := h1
    refine ⟨Z, ι, S, l, ts, R, sl, ia, ?_⟩
    cases ia with
    | cons i j => cases j; exact p
  refine lift_mono (fun y H2 h2 => ?_) (lift_bind h1')
  obtain ⟨Z, ι, S, l, ts, R, sl, ia, p⟩ := h2
  cases ia with
  | cons iy j =>
    cases j with
    | cons ix k =>
      cases k
      exact ⟨Z, ι, S, l, _, _, R, sl, ix, iy, p⟩
theorem chain_lift {p q : CmpOp} {fa fb fc : SE} (h : liftE K XR W (bindE fa fun x => bindE fb fun y => fun l S => match cmpB p x y S with
    | some true => bindE fc (fun z => fun l S => outR false (cmpF q y z S) l S) l S
    | some false => some (.ok (.bl false), S)
    | none => none) σ H Q) : tChain (rRaw K (cmpF p)) (rRaw K (cmpF q)) (liftE K XR W fa) (liftE K XR W fb) (liftE K XR W fc) σ H Q := by
  refine lift_mono (fun x H1 h1 => lift_mono (fun y H2 h2 => ?_) h1) (lift_bind2 h)
  obtain ⟨Z, ι, S, l, a, b, R, sl, ix, iy, p'⟩ := h2
  cases e : cmpB p a b S with
  | none => simp only [e] at p'; exact p'.elim
  | some k =>
    simp only [e] at p'
    refine ⟨Z, ι, S, a, b, .val (.bl k), R, ix, iy, by simp [cmpF, e], fun H3 z sm iz => ⟨k, is_bl iz, ?_⟩⟩
    have R3 := R.same sm
    have st : Step ι S.length H2 ι S.length H3 := .same sm
    have sl3 := Sl.step R st sl
    have iy3 := Is.step R st iy
    cases k with
    | false =>
      simp only [Bool.false_eq_true, if_false]
      dsimp only at p'
      exact p' ι H3 (.bl false) st R3 (.bl _)
    | true =>
      simp only [if_true]
      dsimp only at p'
      have h3 : liftK K XR W [y] (fun ts => bindE fc fun z => match ts with | [b] => (fun l S => outR false (cmpF q b z S) l S) | _ => fun _ _ => none) σ H3 Q := ⟨Z, ι, S, l, [b], R3, sl3, .one iy3, by
        have := p'.of_step st
        exact this⟩
      refine lift_mono (fun w H4 h4 => ?_) (lift_bind h3)
      obtain ⟨Z, ι, S, l, ts, R, sl, ia, p⟩ := h4
      cases ia with
      | cons iw j =>
        cases j with
        | cons iy k =>
          cases k
          obtain ⟨r, e, ok⟩ := out_ok R p
          exact ⟨Z, ι, S, _, _, r, R, iy, iw, e, ok⟩
def tPt (nop : Bool) (te : TE) : TO := if nop then tNoPart else tPart te
theorem lift_bind3 {fa fb fc : SE} {g : T → T → T → SE} (h : liftE K XR W (bindE fa fun x => bindE fb fun y => bindE fc fun z => g x y z) σ H Q) :
    liftE K XR W fa σ H fun x H1 => liftE K XR W fb σ H1 fun y H2 => liftE K XR W fc σ H2 fun z H3 => ∃ (Z : Addr → Prop) (ι : Nat → Addr) (S : Sto) (l : Lo) (a b c : T), Rel K Z ι S H3 ∧ Sl K Z H3 ι S.length σ l ∧ Is K Z H3 ι S.length x a ∧ Is K Z H3 ι S.length y b ∧ Is K Z H3 ι S.length z c ∧ Post K XR W Z ι S.length H3 σ Q (g a b c l S) := by
  refine lift_mono (fun x H1 h1 => lift_mono (fun y H2 h2 => ?_) h1) (lift_bind2 h)
  obtain ⟨Z, ι, S, l, a, b, R, sl, ix, iy, p⟩ := h2
  refine ⟨Z, ι, S, l, [], R, sl, .nil, ?_⟩
  simp only [bindE] at p
  show Post K XR W Z ι S.length H2 σ _ (fc l S)
  cases e : fc l S with
  | none => rw [e] at p; exact p
  | some r =>
    obtain ⟨r, S'⟩ := r
    rw [e] at p
    cases r with
    | err x => exact p
    | ok t => exact fun ι' H' v st R' i => ⟨Z, ι', S', l, a, b, t, R', Sl.step R st sl, Is.step R st ix, Is.step R st iy, i, p.of_step st⟩
theorem part_lift {nop : Bool} {f : SE} {P : V → Hp → Prop} (h : liftE K XR W (partE nop f) σ H P) {Q : Option Int → Hp → Prop} (hq : ∀ v H1, P v H1 → ∀ o, (v = .non ∧ o = none) ∨ (∃ i, v = .int i ∧ o = some i) → Q o H1) : tPt nop (liftE K XR W f) σ H Q := by
  unfold tPt
  cases nop with
  | true =>
    simp only [if_true]
    obtain ⟨Z, ι, S, l, ts, R, sl, ia, p⟩ := h
    exact hq .non H (p ι H .non .refl R .non) none (.inl ⟨rfl, rfl⟩)
  | false =>
    simp only [Bool.false_eq_true, if_false]
    have h : liftE K XR W (bindE f fun t => match t with | .int i => fun _ S => some (.ok (.int i), S) | _ => fun _ _ => none) σ H P := h
    refine lift_mono (fun x H1 h1 => ?_) (lift_bind0 h)
    obtain ⟨Z, ι, S, l, t, R, sl, i, p⟩ := lift1 h1
    cases t <;> first | exact p.elim | skip
    cases is_int i
    exact ⟨_, rfl, hq _ H1 (p ι H1 _ .refl R (.int _)) _ (.inr ⟨_, rfl, rfl⟩)⟩
theorem sl_lift {nw b1 b2 : Bool} {fa fb fc : SE} (h : liftE K XR W (bindE fa fun x => bindE (partE b1 fb) fun i => bindE (partE b2 fc) fun j => fun l S => match partF i, partF j with
    | some i, some j => outR nw (slF x i j S) l S
    | _, _ => none) σ H Q) : tSl (rSlT K) (liftE K XR W fa) (tPt b1 (liftE K XR W fb)) (tPt b2 (liftE K XR W fc)) σ H Q := by
  refine lift_mono (fun x H1 h1 => part_lift h1 fun y H2 h2 o ho => part_lift h2 fun z H3 h3 o2 ho2 => ?_) (lift_bind3 h)
  obtain ⟨Z, ι, S, l, a, b, c, R, sl, ix, iy, iz, p⟩ := h3
  have pf : ∀ {v : V} {t : T} {o : Option Int}, Is K Z H3 ι S.length v t → ((v = .non ∧ o = none) ∨ ∃ i, v = .int i ∧ o = some i) → partF t = some o := by
    intro v t o i h
    rcases h with ⟨rfl, rfl⟩ | ⟨i, rfl, rfl⟩
    · cases i; rfl
    · cases i; rfl
  simp only [pf iy ho, pf iz ho2] at p
  obtain ⟨r, e, ok⟩ := out_ok R p
  exact ⟨Z, ι, S, a, r, R, ix, e, ok⟩
theorem rev_lift {nw : Bool} {fa : SE} (h : liftE K XR W (bindE fa fun x => fun l S => outR nw (revF x S) l S) σ H Q) : tRevA K (liftE K XR W fa) σ H Q := by
  refine lift_mono (fun x H1 h1 => ?_) (lift_bind0 h)
  obtain ⟨Z, ι, S, l, t, R, sl, i, p⟩ := lift1 h1
  obtain ⟨r, e, ok⟩ := out_ok R p
  unfold revF at e
  split at e
  · cases e
    obtain ⟨q, vs, rfl, hp, iv⟩ := is_tup i
    exact ⟨q, vs, rfl, .inr ⟨.of hp, fun z hz => raw_tup R ok iv.rev z hz⟩⟩
  · split at e
    · rename_i nt _ xs q
      cases e
      have ql : S.lseq t = some xs := by
        cases t <;> first | exact q | exact absurd rfl (nt _)
      obtain ⟨q, vs, rfl, hp, iv⟩ := lseq_ok R i ql
      exact ⟨q, vs, rfl, .inl ⟨hp, fun z hz => ok _ z iv.rev hz⟩⟩
    · cases e
theorem dnew_lift {t nw : Bool} (h : liftE K XR W (fun _ S => if t then (if nw then some (.ok (.ref S.length), S ++ [.dT []]) else some (.ok (.dT []), S)) else (if nw then some (.ok (.ref S.length), S ++ [.dK []]) else some (.ok (.dK []), S))) σ H Q) :
    if t then tDNewT σ H Q else tDNewK σ H Q := by
  obtain ⟨Z, ι, S, l, ts, R, sl, ia, p⟩ := h
  dsimp only at p
  cases t with
  | true =>
    simp only [if_true] at p ⊢
    intro a ha
    cases nw with
    | true =>
      simp only [if_true] at p
      obtain ⟨R', st⟩ := R.record (ob := .dT []) (o := .dT []) ha (.dT (ks := []) (vs := []) (ts := []) (by rw [upd_same]; rfl) rfl .nil)
      have e : V.ref a = V.ref ((fun i => if i = S.length then a else ι i) S.length) := by simp
      refine p (fun i => if i = S.length then a else ι i) _ _ (by simpa using st) R' ?_
      rw [e]; exact .ref (by simp)
    | false =>
      simp only [Bool.false_eq_true, if_false] at p
      exact p ι _ _ (Step.fresh ha) (R.fresh ha) (Is.dT (ks := []) (vs := []) (ts := []) (by rw [upd_same]; rfl) (R.free ha) (R.notZ ha) rfl .nil)
  | false =>
    simp only [Bool.false_eq_true, if_false] at p ⊢
    intro a ha
    cases nw with
    | true =>
      simp only [if_true] at p
      obtain ⟨R', st⟩ := R.record (ob := .dK []) (o := .dK []) ha (.dK (ks := []) (vs := []) (ts := []) (by rw [upd_same]; rfl) rfl .nil)
      have e : V.ref a = V.ref ((fun i => if i = S.length then a else ι i) S.length) := by simp
      refine p (fun i => if i = S.length then a else ι i) _ _ (by simpa using st) R' ?_
      rw [e]; exact .ref (by simp)
    | false =>
      simp only [Bool.false_eq_true, if_false] at p
      exact p ι _ _ (Step.fresh ha) (R.fresh ha) (Is.dK (ks := []) (vs := []) (ts := []) (by rw [upd_same]; rfl) (R.free ha) (R.notZ ha) rfl .nil)
theorem var_lift {i : Nat} (h : liftE K XR W (fun l S => match l[i]? with
    | some (some t) => some (.ok t, S)
    | _ => none) σ H Q) : tVar i σ H Q := by
  obtain ⟨Z, ι, S, l, ts, R, sl, ia, p⟩ := h
  dsimp only at p
  split at p
  · rename_i t e
    obtain ⟨v, e1, iv⟩ := sl.2 i t e
    exact ⟨v, e1, p ι H v .refl R iv⟩
  · exact p.elim
theorem ret_lift {t : T} {v : V} (hi : ∀ {Z : Addr → Prop} {H : Hp} {ι : Nat → Addr} {n : Nat}, Is K Z H ι n v t) (h : liftE K XR W (retE t) σ H Q) : tC v σ H Q := by
  obtain ⟨Z, ι, S, l, ts, R, sl, ia, p⟩ := h
  exact p ι H v .refl R hi
end
def Mt.nm : Mt → Str
  | .append => "append" | .extend => "extend" | .pop0 => "pop" | .popT => "pop" | .index => "index" | .insert => "insert" | .popI => "pop"
def Mt.id : Mt → String
  | .append => "list.append" | .extend => "list.extend" | .pop0 => "list.pop" | .popT => "dict.pop" | .index => "list.index" | .insert => "list.insert" | .popI => "list.pop"
def Mt.ty : Mt → String
  | .popT => "dict" | _ => "list"
def Mt.zero : Mt → Bool
  | .pop0 => true
  | _ => false
theorem mt_pa (m : Mt) : PlainAttrs m.ty := by
  cases m
  · exact PySem.F.plainAttrs_list
  · exact PySem.F.plainAttrs_list
  · exact PySem.F.plainAttrs_list
  · exact PySem.F.plainAttrs_dict
  · exact PySem.F.plainAttrs_list
  · exact PySem.F.plainAttrs_list
  · exact PySem.F.plainAttrs_list
theorem mt_slot (m : Mt) : Slot m.ty m.nm m.id := by
  cases m
  · exact PySem.F.slot_list_append
  · exact PySem.F.slot_list_extend
  · exact PySem.F.slot_list_pop
  · exact PySem.F.slot_dict_pop
  · exact PySem.F.slot_list_index
  · exact PySem.F.slot_list_insert
  · exact PySem.F.slot_list_pop
theorem mt_type (m : Mt) : typeOf (.builtin m.id) = pure (.type "method_descriptor") := by
  cases m
  · exact PySem.F.type_list_append
  · exact PySem.F.type_list_extend
  · exact PySem.F.type_list_pop
  · exact PySem.F.type_dict_pop
  · exact PySem.F.type_list_index
  · exact PySem.F.type_list_insert
  · exact PySem.F.type_list_pop
theorem idxI_at {k : Int} : ∀ {ns : List Int} {j : Nat}, idxI k ns = some j → ns[j]? = some k ∧ ∀ m n, m < j → ns[m]? = some n → n ≠ k
  | [], j, h => by cases h
  | n :: r, j, h => by
    unfold idxI at h
    split at h
    · rename_i e
      cases h
      exact ⟨by rw [e]; rfl, fun m n hm => by omega⟩
    · rename_i e
      cases q : idxI k r with
      | none => rw [q] at h; cases h
      | some i =>
        rw [q] at h
        cases h
        obtain ⟨a, b⟩ := idxI_at q
        refine ⟨by simpa using a, fun m x hm hx => ?_⟩
        cases m with
        | zero => simp at hx; subst hx; exact e
        | succ m => exact b m x (by have : m + 1 < i + 1 := hm; omega) (by simpa using hx)
theorem IsAll.eraseIdx {K : PySem.W.Frag} {Z : Addr → Prop} {H : Hp} {ι : Nat → Addr} {n : Nat} : ∀ {vs : List V} {ts : List T} (k : Nat), IsAll K Z H ι n vs ts → IsAll K Z H ι n (vs.eraseIdx k) (ts.eraseIdx k)
  | _, _, 0, .nil => .nil
  | _, _, _ + 1, .nil => .nil
  | _, _, 0, .cons _ q => q
  | _, _, k + 1, .cons r q => .cons r (IsAll.eraseIdx k q)
def rMt (K : PySem.W.Frag) (m : Mt) : V → List V → Hp → VK → Prop := fun x vs H Q => ∃ (Z : Addr → Prop) (ι : Nat → Addr) (S : Sto) (t : T) (ts : List T) (t' : T) (S' : Sto), Rel K Z ι S H ∧ Is K Z H ι S.length x t ∧ IsAll K Z H ι S.length vs ts ∧ mtF m t ts S = some (t', S') ∧
  ∀ ι' H' v, Step ι S.length H ι' S'.length H' → Rel K Z ι' S' H' → Is K Z H' ι' S'.length v t' → Q v H'
section
variable {K : PySem.W.Frag} {Z : Addr → Prop} {H H' : Hp} {ι ι' : Nat → Addr} {S : Sto} {XR : XRel} {W : WX} {σ : L2.St} {Q : VK}
theorem ref_lst {i : Nat} {xs : List T} (R : Rel K Z ι S H) (e : S[i]? = some (.lst xs)) : i < S.length ∧ ∃ vs, H (ι i) = some (.lst vs) ∧ IsAll K Z H ι S.length vs xs := by
  refine ⟨(List.getElem?_eq_some_iff.mp e).1, ?_⟩
  have h := R.obj _ _ e
  cases h with
  | lst h hs => exact ⟨_, h, hs⟩
mutual
theorem Is.wr {i : Nat} {o : HO} {n : Nat} (hi : i < n) (hnt : ∀ vs, H (ι i) ≠ some (.tup vs)) (hex : ∃ u, H (ι i) = some u ∧ (∀ vs, u ≠ .tup vs)) : ∀ {v : V} {t : T}, Is K Z H ι n v t → Is K Z (L2.upd H (ι i) o) ι n v t
  | _, _, .non => .non
  | _, _, .bl b => .bl b
  | _, _, .int i => .int i
  | _, _, .str x => .str x
  | _, _, .fn a => .fn a
  | _, _, .tup h hs => .tup (by rw [upd_ne (fun q => by rw [q] at h; exact hnt _ h)]; exact h) (IsAll.wr hi hnt hex hs)
  | _, _, .lst h hn z hs => .lst (by rw [upd_ne (Ne.symm (hn i hi))]; exact h) hn z (IsAll.wr hi hnt hex hs)
  | _, _, .scrK h => .scrK h
  | _, _, .scr h hn z => .scr (by unfold Rd at h ⊢; rw [upd_ne (Ne.symm (hn i hi))]; exact h) hn z
  | _, _, .dK h hn z hl hs => .dK (by rw [upd_ne (Ne.symm (hn i hi))]; exact h) hn z hl (IsAll.wr hi hnt hex hs)
  | _, _, .dT h hn z hl hs => .dT (by rw [upd_ne (Ne.symm (hn i hi))]; exact h) hn z hl (IsAll.wr hi hnt hex hs)
  | _, _, .ref hi => .ref hi
theorem IsAll.wr {i : Nat} {o : HO} {n : Nat} (hi : i < n) (hnt : ∀ vs, H (ι i) ≠ some (.tup vs)) (hex : ∃ u, H (ι i) = some u ∧ (∀ vs, u ≠ .tup vs)) : ∀ {vs : List V} {ts : List T}, IsAll K Z H ι n vs ts → IsAll K Z (L2.upd H (ι i) o) ι n vs ts
  | _, _, .nil => .nil
  | _, _, .cons h hs => .cons (Is.wr hi hnt hex h) (IsAll.wr hi hnt hex hs)
end
theorem notup_at {i : Nat} (R : Rel K Z ι S H) (hi : i < S.length) : (∀ vs, H (ι i) ≠ some (.tup vs)) ∧ ∃ u, H (ι i) = some u ∧ (∀ vs, u ≠ .tup vs) := by
  have h := R.obj _ _ (List.getElem?_eq_getElem hi)
  obtain ⟨u, e⟩ := ObIs.some h
  have nt : ∀ vs, H (ι i) ≠ some (.tup vs) := fun vs e => h.notup vs (.of e)
  exact ⟨nt, u, e, fun vs q => nt vs (by rw [e, q])⟩
theorem write_lst {i : Nat} {xs ys : List T} {vs : List V} (R : Rel K Z ι S H) (e : S[i]? = some (.lst xs)) (ia : IsAll K Z H ι S.length vs ys) : Step ι S.length H ι (S.set i (.lst ys)).length (L2.upd H (ι i) (.lst vs)) ∧ Rel K Z ι (S.set i (.lst ys)) (L2.upd H (ι i) (.lst vs)) := by
  obtain ⟨hi, us, hH, _⟩ := ref_lst R e
  obtain ⟨n1, n2⟩ := notup_at R hi
  obtain ⟨a, b⟩ := R.write (ob := .lst ys) hi (fun _ q => by cases q) (.lst upd_same (IsAll.wr hi n1 n2 ia))
  exact ⟨by rw [List.length_set]; exact b, a⟩
theorem ref_is {i : Nat} {x : V} {n : Nat} (h : Is K Z H ι n x (.ref i)) : x = .ref (ι i) ∧ i < n := by cases h with | ref hi => exact ⟨rfl, hi⟩
theorem ref_dT {i : Nat} {kvs : List (List Key × T)} (R : Rel K Z ι S H) (e : S[i]? = some (.dT kvs)) : i < S.length ∧ ∃ (ks : List (List Key)) (vs : List V) (ts : List T), kvs = ks.zip ts ∧ H (ι i) = some (.dT (ks.zip vs)) ∧ ks.length = vs.length ∧ IsAll K Z H ι S.length vs ts := by
  refine ⟨(List.getElem?_eq_some_iff.mp e).1, ?_⟩
  have h := R.obj _ _ e
  cases h with
  | dT h hl hs => exact ⟨_, _, _, rfl, h, hl, hs⟩
theorem ref_dK {i : Nat} {kvs : List (Key × T)} (R : Rel K Z ι S H) (e : S[i]? = some (.dK kvs)) : i < S.length ∧ ∃ (ks : List Key) (vs : List V) (ts : List T), kvs = ks.zip ts ∧ H (ι i) = some (.dK (ks.zip vs)) ∧ ks.length = vs.length ∧ IsAll K Z H ι S.length vs ts := by
  refine ⟨(List.getElem?_eq_some_iff.mp e).1, ?_⟩
  have h := R.obj _ _ e
  cases h with
  | dK h hl hs => exact ⟨_, _, _, rfl, h, hl, hs⟩
theorem zip_put {κ : Type} [DecidableEq κ] {n : Nat} (k : κ) {v : V} {t : T} (i : Is K Z H ι n v t) : ∀ {ks : List κ} {vs : List V} {ts : List T}, ks.length = vs.length → IsAll K Z H ι n vs ts →
    ∃ (ks' : List κ) (vs' : List V) (ts' : List T), putK (ks.zip vs) k v = ks'.zip vs' ∧ putD (ks.zip ts) k t = ks'.zip ts' ∧ ks'.length = vs'.length ∧ IsAll K Z H ι n vs' ts' := by
  intro ks vs ts hl ia
  have hany : ∀ {α : Type} (xs : List α), ks.length = xs.length → ((ks.zip xs).any fun kv => decide (kv.1 = k)) = ks.any fun q => decide (q = k) := by
    intro α xs hx
    have : (ks.zip xs).map Prod.fst = ks := List.map_fst_zip (Nat.le_of_eq hx)
    conv => rhs; rw [← this]
    rw [List.any_map]
    rfl
  have hmap : ∀ {ks : List κ} {vs : List V} {ts : List T}, ks.length = vs.length → IsAll K Z H ι n vs ts → ∃ (vs' : List V) (ts' : List T), (ks.zip vs).map (fun kv => if kv.1 = k then (kv.1, v) else kv) = ks.zip vs' ∧ (ks.zip ts).map (fun kv => if kv.1 = k then (kv.1, t) else kv) = ks.zip ts' ∧ ks.length = vs'.length ∧ IsAll K Z H ι n vs' ts' := by
    intro ks
    induction ks with
    | nil => intro vs ts hl ia; cases vs with
      | nil => cases ia; exact ⟨[], [], rfl, rfl, rfl, .nil⟩
      | cons _ _ => simp at hl
    | cons q ks ih =>
      intro vs ts hl ia
      cases ia with
      | nil => simp at hl
      | cons h hs =>
        obtain ⟨vs', ts', e1, e2, e3, e4⟩ := ih (by simpa using hl) hs
        by_cases hq : q = k
        · exact ⟨v :: vs', t :: ts', by simp [hq, e1], by simp [hq, e2], by simp [e3], .cons i e4⟩
        · exact ⟨_ :: vs', _ :: ts', by simp [hq, e1], by simp [hq, e2], by simp [e3], .cons h e4⟩
  have hl2 : ks.length = ts.length := by rw [hl, ia.length]
  unfold putK putD
  rw [hany vs hl, hany ts hl2]
  by_cases hk : (ks.any fun q => decide (q = k)) = true
  · rw [if_pos hk, if_pos hk]
    obtain ⟨vs', ts', e1, e2, e3, e4⟩ := hmap hl ia
    exact ⟨ks, vs', ts', e1, e2, e3, e4⟩
  · rw [if_neg hk, if_neg hk]
    refine ⟨ks ++ [k], vs ++ [v], ts ++ [t], ?_, ?_, by simp [hl], ia.append (.one i)⟩
    · rw [List.zip_append hl]; rfl
    · rw [List.zip_append hl2]; rfl
theorem zip_drop {κ : Type} [DecidableEq κ] {n : Nat} (k : κ) : ∀ {ks : List κ} {vs : List V} {ts : List T}, ks.length = vs.length → IsAll K Z H ι n vs ts →
    ∃ (ks' : List κ) (vs' : List V) (ts' : List T), dropK (ks.zip vs) k = ks'.zip vs' ∧ dropD (ks.zip ts) k = ks'.zip ts' ∧ ks'.length = vs'.length ∧ IsAll K Z H ι n vs' ts' := by
  intro ks
  induction ks with
  | nil => intro vs ts hl ia; cases vs with
    | nil => cases ia; exact ⟨[], [], [], rfl, rfl, rfl, .nil⟩
    | cons _ _ => simp at hl
  | cons q ks ih =>
    intro vs ts hl ia
    cases ia with
    | nil => simp at hl
    | cons h hs =>
      obtain ⟨ks', vs', ts', e1, e2, e3, e4⟩ := ih (by simpa using hl) hs
      unfold dropK at e1 ⊢
      unfold dropD at e2 ⊢
      by_cases hq : q = k
      · exact ⟨ks', vs', ts', by simp [List.filter_cons, hq]; simpa using e1, by simp [List.filter_cons, hq]; simpa using e2, e3, e4⟩
      · exact ⟨q :: ks', _ :: vs', _ :: ts', by simp [List.filter_cons, hq]; simpa using e1, by simp [List.filter_cons, hq]; simpa using e2, by simp [e3], .cons h e4⟩
theorem zip_look {κ : Type} [DecidableEq κ] {n : Nat} (k : κ) : ∀ {ks : List κ} {vs : List V} {ts : List T}, ks.length = vs.length → IsAll K Z H ι n vs ts →
    (lookK (ks.zip ts) k = none ∧ valV (ks.zip vs) k = none) ∨ ∃ v t, lookK (ks.zip ts) k = some t ∧ valV (ks.zip vs) k = some v ∧ Is K Z H ι n v t := by
  intro ks
  induction ks with
  | nil => intro vs ts hl ia; exact .inl ⟨rfl, rfl⟩
  | cons q ks ih =>
    intro vs ts hl ia
    cases ia with
    | nil => simp at hl
    | cons h hs =>
      by_cases hq : q = k
      · refine .inr ⟨_, _, ?_, valV_pos (p := (q, _)) hq, h⟩
        simp [lookK, List.find?_cons, hq]
      · rename_i v0 vs0 t0 ts0
        have e1 : valV ((q, v0) :: ks.zip vs0) k = valV (ks.zip vs0) k := valV_neg (p := (q, v0)) hq
        rcases ih (by simpa using hl) hs with ⟨a, b⟩ | ⟨v, t, a, b, c⟩
        · refine .inl ⟨?_, by rw [List.zip_cons_cons, e1]; exact b⟩
          unfold lookK at a ⊢
          simp only [List.zip_cons_cons, List.find?_cons, hq, decide_false]
          exact a
        · refine .inr ⟨v, t, ?_, by rw [List.zip_cons_cons, e1]; exact b, c⟩
          unfold lookK at a ⊢
          simp only [List.zip_cons_cons, List.find?_cons, hq, decide_false]
          exact a
theorem write_dT {i : Nat} {kvs : List (List Key × T)} {ks : List (List Key)} {vs : List V} {ts : List T} (R : Rel K Z ι S H) (e : S[i]? = some (.dT kvs)) (hl : ks.length = vs.length) (ia : IsAll K Z H ι S.length vs ts) : Step ι S.length H ι (S.set i (.dT (ks.zip ts))).length (L2.upd H (ι i) (.dT (ks.zip vs))) ∧ Rel K Z ι (S.set i (.dT (ks.zip ts))) (L2.upd H (ι i) (.dT (ks.zip vs))) := by
  obtain ⟨hi, _, _, _, _, hH, _, _⟩ := ref_dT R e
  obtain ⟨n1, n2⟩ := notup_at R hi
  obtain ⟨a, b⟩ := R.write (ob := .dT (ks.zip ts)) hi (fun _ q => by cases q) (.dT upd_same hl (IsAll.wr hi n1 n2 ia))
  exact ⟨by rw [List.length_set]; exact b, a⟩
theorem write_dK {i : Nat} {kvs : List (Key × T)} {ks : List Key} {vs : List V} {ts : List T} (R : Rel K Z ι S H) (e : S[i]? = some (.dK kvs)) (hl : ks.length = vs.length) (ia : IsAll K Z H ι S.length vs ts) : Step ι S.length H ι (S.set i (.dK (ks.zip ts))).length (L2.upd H (ι i) (.dK (ks.zip vs))) ∧ Rel K Z ι (S.set i (.dK (ks.zip ts))) (L2.upd H (ι i) (.dK (ks.zip vs))) := by
  obtain ⟨hi, _, _, _, _, hH, _, _⟩ := ref_dK R e
  obtain ⟨n1, n2⟩ := notup_at R hi
  obtain ⟨a, b⟩ := R.write (ob := .dK (ks.zip ts)) hi (fun _ q => by cases q) (.dK upd_same hl (IsAll.wr hi n1 n2 ia))
  exact ⟨by rw [List.length_set]; exact b, a⟩
theorem ty_mt {m : Mt} {x : V} {t : T} (R : Rel K Z ι S H) (i : Is K Z H ι S.length x t) (e : mtTy m t S = true) : tyV K m.ty x H := by
  have lst : ∀ {t : T}, Is K Z H ι S.length x t → (match t with | .ref i => (match S[i]? with | some (.lst _) => true | _ => false) | _ => false) = true → tyV K "list" x H := by
    intro t i e
    cases t with
    | ref j =>
      obtain ⟨rfl, hj⟩ := ref_is i
      dsimp only at e
      split at e
      · rename_i xs q
        obtain ⟨_, vs, h, _⟩ := ref_lst R q
        exact .inl ⟨rfl, vs, .of h⟩
      · cases e
    | _ => cases e
  cases m with
  | append => exact lst i e
  | extend => exact lst i e
  | pop0 => exact lst i e
  | insert => exact lst i e
  | popI => exact lst i e
  | index =>
    simp only [mtTy] at e
    cases q : S.lseq t with
    | none => rw [q] at e; cases e
    | some ts =>
      obtain ⟨a, vs, rfl, hs, _⟩ := lseq_ok R i q
      exact .inl ⟨rfl, vs, hs⟩
  | popT =>
    cases t with
    | ref j =>
      obtain ⟨rfl, hj⟩ := ref_is i
      simp only [mtTy] at e
      split at e
      · rename_i xs q
        obtain ⟨_, ks, vs, ts, _, h, _⟩ := ref_dT R q
        exact .inr (.inr (.inl ⟨rfl, .inr ⟨_, h⟩⟩))
      · cases e
    | _ => cases e
end
section
variable {X : Cx}
theorem mt_ok (hu : X.A.units + 1 < cLine) (m : Mt) : MtR X m.id (rMt X.K m) := by
  intro pins s σ H x xs v us Q I rx rxs h
  obtain ⟨Z, ι, S, t, ts, t', S', R, ix, ia, e, q⟩ := h
  cases m with
  | append =>
    unfold mtF at e
    split at e
    case h_1 i u h0 =>
      split at e
      · rename_i ys h1
        split at e
        · rename_i h2
          cases e
          obtain ⟨rfl, hi⟩ := ref_is ix
          obtain ⟨y, rfl, iy⟩ := ia.inv1
          obtain ⟨_, vs, hH, iv⟩ := ref_lst R h1
          obtain ⟨st, R2⟩ := write_lst R h1 (iv.append (.one iy))
          exact mt_append pins s σ H _ _ v us Q I rx rxs ⟨_, vs, y, rfl, rfl, hH, by rw [iv.length]; exact Nat.lt_trans h2 LIM_lt, q ι _ .non st R2 .non⟩
        · cases e
      · cases e
    all_goals first | (rename_i hm _; cases hm; done) | (rename_i hm; cases hm; done) | cases e
  | extend =>
    unfold mtF at e
    split at e
    case h_2 i u h0 =>
      split at e
      · rename_i ys h1
        split at e
        · rename_i zs h3
          split at e
          · rename_i h2
            cases e
            obtain ⟨rfl, hi⟩ := ref_is ix
            obtain ⟨y, rfl, iy⟩ := ia.inv1
            obtain ⟨_, vs, hH, iv⟩ := ref_lst R h1
            obtain ⟨b, ws, rfl, hb, iw⟩ := items_ok R iy h3
            obtain ⟨st, R2⟩ := write_lst R h1 (iv.append iw)
            exact mt_extend pins s σ H _ _ v us Q I rx rxs ⟨_, b, vs, ws, rfl, rfl, hH, hb, by rw [iv.length, iw.length]; exact Nat.le_trans h2 LIM_le, q ι _ .non st R2 .non⟩
          · cases e
        · cases e
      · cases e
    all_goals first | (rename_i hm _; cases hm; done) | (rename_i hm; cases hm; done) | cases e
  | pop0 =>
    unfold mtF at e
    split at e
    case h_3 i h0 =>
      split at e
      · rename_i ys h1
        split at e
        · rename_i t h2
          cases e
          obtain ⟨rfl, hi⟩ := ref_is ix
          obtain rfl := ia.inv0
          obtain ⟨_, vs, hH, iv⟩ := ref_lst R h1
          obtain ⟨y, hy, iy⟩ := iv.get h2
          obtain ⟨st, R2⟩ := write_lst R h1 (iv.take (vs.length - 1))
          refine mt_pop pins s σ H _ _ v us Q I rx rxs ⟨_, vs, y, rfl, rfl, hH, by rw [iv.length]; exact hy, ?_⟩
          have e1 : vs.dropLast = vs.take (vs.length - 1) := List.dropLast_eq_take
          have e2 : ys.dropLast = ys.take (vs.length - 1) := by rw [iv.length]; exact List.dropLast_eq_take
          rw [e1]
          rw [e2] at q
          exact q ι _ y st R2 (Is.step R (by simpa using st) iy)
        · cases e
      · cases e
    all_goals first | (rename_i hm _; cases hm; done) | (rename_i hm; cases hm; done) | cases e
  | popT =>
    unfold mtF at e
    split at e
    case h_4 i k d h0 =>
      split at e
      · rename_i kvs h1
        split at e
        · rename_i ks h2
          obtain ⟨rfl, hi⟩ := ref_is ix
          obtain ⟨y, z, rfl, iy, iz⟩ := ia.inv2
          obtain ⟨b, rfl, hb⟩ := keyT_ok iy h2
          obtain ⟨_, kl, vs, tl, rfl, hH, hl, iv⟩ := ref_dT R h1
          refine L2.DX.mt_popT hu pins s σ H _ _ v us Q I rx rxs ⟨_, _, ks, b, z, rfl, rfl, hH, hb, fun w hw => ?_, fun hn => ?_⟩
          · rcases zip_look ks hl iv with ⟨a1, a2⟩ | ⟨w', t, a1, a2, a3⟩
            · rw [hw] at a2; cases a2
            · rw [hw] at a2
              cases a2
              rw [a1] at e
              cases e
              obtain ⟨kl', vs', tl', e1, e2, e3, e4⟩ := zip_drop ks hl iv
              obtain ⟨st, R2⟩ := write_dT R h1 e3 e4
              rw [e1]
              rw [e2] at q
              exact q ι _ _ st R2 (Is.step R (by simpa using st) a3)
          · rcases zip_look ks hl iv with ⟨a1, a2⟩ | ⟨w', t, a1, a2, a3⟩
            · rw [a1] at e
              cases e
              exact q ι H z .refl R iz
            · rw [hn] at a2; cases a2
        · cases e
      · cases e
    all_goals first | (rename_i hm _; cases hm; done) | (rename_i hm; cases hm; done) | cases e
  | index =>
    unfold mtF at e
    split at e
    case h_5 k h0 =>
      split at e
      · rename_i ts h1
        split at e
        · rename_i ns h2
          split at e
          · rename_i j h3
            cases e
            obtain ⟨a, vs, rfl, hs, iv⟩ := lseq_ok R ix h1
            rw [ints_ok iv h2] at hs
            obtain ⟨y, rfl, iy⟩ := ia.inv1
            cases is_int iy
            obtain ⟨z1, z2⟩ := idxI_at h3
            refine mt_index pins s σ H _ _ v us Q I rx rxs ⟨a, ns.map V.int, .int k, j, .int k, rfl, rfl, hs, rfl, ?_, ?_, ?_, ?_, q ι _ _ .refl R (.int _)⟩
            · rw [List.all_eq_true]; intro x hx; obtain ⟨m, _, rfl⟩ := List.mem_map.mp hx; rfl
            · rw [List.getElem?_map, z1]; rfl
            · simp [eqV]
            · intro m z' hm hz
              rw [List.getElem?_map] at hz
              cases hn : ns[m]? with
              | none => rw [hn] at hz; cases hz
              | some n =>
                rw [hn] at hz
                cases hz
                have := z2 m n hm hn
                simpa [eqV] using this
          · cases e
        · cases e
      · cases e
    all_goals first | (rename_i hm _; cases hm; done) | (rename_i hm; cases hm; done) | cases e
  | insert =>
    unfold mtF at e
    split at e
    case h_6 i k t h0 =>
      split at e
      · rename_i ys h1
        split at e
        · rename_i h2
          cases e
          obtain ⟨rfl, hi⟩ := ref_is ix
          obtain ⟨y, z, rfl, iy, iz⟩ := ia.inv2
          cases is_int iy
          obtain ⟨_, vs, hH, iv⟩ := ref_lst R h1
          obtain ⟨st, R2⟩ := write_lst R h1 (((iv.take k.toNat).append (.one iz)).append (iv.drop k.toNat))
          exact mt_insert pins s σ H _ _ v us Q I rx rxs ⟨_, vs, k, z, rfl, rfl, hH, by rw [iv.length]; exact Nat.lt_trans h2.1 LIM_lt, h2.2.1, h2.2.2, q ι _ .non st R2 .non⟩
        · cases e
      · cases e
    all_goals first | (rename_i hm _; cases hm; done) | (rename_i hm; cases hm; done) | cases e
  | popI =>
    unfold mtF at e
    split at e
    case h_7 i k h0 =>
      split at e
      · rename_i ys h1
        split at e
        · rename_i h2
          split at e
          · rename_i t h3
            cases e
            obtain ⟨rfl, hi⟩ := ref_is ix
            obtain ⟨y, rfl, iy⟩ := ia.inv1
            cases is_int iy
            obtain ⟨_, vs, hH, iv⟩ := ref_lst R h1
            obtain ⟨w, hw, iw⟩ := iv.get h3
            obtain ⟨st, R2⟩ := write_lst R h1 (iv.eraseIdx k.toNat)
            refine mt_popAt pins s σ H _ _ v us Q I rx rxs ⟨_, vs, k, k.toNat, w, rfl, rfl, hH, by have := h2.1; omega, h2.2.2, ?_, hw, q ι _ w st R2 (Is.step R (by simpa using st) iw)⟩
            refine (ixN_seq ?_).1
            unfold ixN
            rw [if_pos h2.1, if_pos (by rw [iv.length]; exact h2.2.1)]
          · cases e
        · cases e
      · cases e
    all_goals first | (rename_i hm _; cases hm; done) | (rename_i hm; cases hm; done) | cases e
def rPut (K : PySem.W.Frag) : TSet := fun o i v H Q => ∃ (Z : Addr → Prop) (ι : Nat → Addr) (S : Sto) (a b c : T) (S' : Sto), Rel K Z ι S H ∧ Is K Z H ι S.length o a ∧ Is K Z H ι S.length i b ∧ Is K Z H ι S.length v c ∧ putI c a b S = some S' ∧
  ∀ ι' H', Step ι S.length H ι' S'.length H' → Rel K Z ι' S' H' → Q H'
theorem set_put (hu : X.A.units + 1 < cLine) : PSet X (rPut X.K) := by
  intro pins s σ H o i v ov iv u Q I ro ri rv h
  obtain ⟨Z, ι, S, a, b, c, S', R, ia, ib, ic, e, q⟩ := h
  cases a with
  | ref j =>
    obtain ⟨rfl, hj⟩ := ref_is ia
    simp only [putI] at e
    cases h1 : S[j]? with
    | none => rw [h1] at e; cases e
    | some ob =>
      rw [h1] at e
      cases ob with
      | lst xs =>
        cases b with
        | int k =>
          dsimp only at e
          cases h2 : ixN xs.length k with
          | none => rw [h2] at e; cases e
          | some m =>
            rw [h2] at e
            cases e
            cases is_int ib
            obtain ⟨_, vs, hH, iv'⟩ := ref_lst R h1
            obtain ⟨st, R2⟩ := write_lst R h1 (iv'.set ic m)
            exact set_list pins s σ H _ _ v ov iv u Q I ro ri rv ⟨_, vs, k, m, rfl, rfl, hH, by rw [iv'.length]; exact h2, q ι _ st R2⟩
        | _ => cases e
      | dK kvs =>
        dsimp only at e
        cases h2 : T.key b with
        | none => rw [h2] at e; cases e
        | some k =>
          rw [h2] at e
          dsimp only at e
          split at e
          · rename_i h3
            cases e
            obtain rfl := key_ok ib h2
            obtain ⟨_, kl, vs, tl, rfl, hH, hl, iv'⟩ := ref_dK R h1
            obtain ⟨kl', vs', tl', e1, e2, e3, e4⟩ := zip_put k ic hl iv'
            obtain ⟨st, R2⟩ := write_dK R h1 e3 e4
            rw [e2] at q
            refine set_dict hu pins s σ H _ _ v ov iv u Q I ro ri rv ⟨_, _, rfl, DPut.k hH (Nat.lt_trans ?_ LIM_lt), by rw [e1]; exact q ι _ st R2⟩
            have l1 : (kl.zip vs).length = (kl.zip tl).length := by simp [iv'.length]
            rw [l1]; exact h3
          · cases e
      | dT kvs =>
        dsimp only at e
        cases h2 : T.keyT b with
        | none => rw [h2] at e; cases e
        | some k =>
          rw [h2] at e
          dsimp only at e
          split at e
          · rename_i h3
            cases e
            obtain ⟨b, rfl, hb⟩ := keyT_ok ib h2
            obtain ⟨_, kl, vs, tl, rfl, hH, hl, iv'⟩ := ref_dT R h1
            obtain ⟨kl', vs', tl', e1, e2, e3, e4⟩ := zip_put k ic hl iv'
            obtain ⟨st, R2⟩ := write_dT R h1 e3 e4
            rw [e2] at q
            refine set_dict hu pins s σ H _ _ v ov iv u Q I ro ri rv ⟨_, _, rfl, DPut.t hH hb (Nat.lt_trans ?_ LIM_lt), by rw [e1]; exact q ι _ st R2⟩
            have l1 : (kl.zip vs).length = (kl.zip tl).length := by simp [iv'.length]
            rw [l1]; exact h3
          · cases e
  | _ => cases e
end
section
variable {K : PySem.W.Frag} {XR : XRel} {W : WX} {σ : L2.St} {H : Hp} {Q : VK}
theorem meth_lift {m : Mt} {fo fa : SE} (h : liftE K XR W (bindE fo fun x => fun l S => if mtTy m x S then argsE fa (fun ts => fun _ S => match mtF m x ts S with
    | some (t, S') => some (.ok t, S')
    | none => none) l S else none) σ H Q) : tBM K m.ty (rMt K m) (liftE K XR W fo) (liftA K XR W fa) σ H Q := by
  refine lift_mono (fun x H1 h1 => ?_) (lift_bind0 h)
  obtain ⟨Z, ι, S, l, t, R, sl, i, p⟩ := lift1 h1
  split at p
  · rename_i ty
    refine ⟨ty_mt R i ty, ?_⟩
    have h2 : liftK K XR W [x] (fun ts => argsE fa fun us => match ts with
      | [t] => (fun _ S => match mtF m t us S with
        | some (t, S') => some (.ok t, S')
        | none => none)
      | _ => fun _ _ => none) σ H1 Q := ⟨Z, ι, S, l, [t], R, sl, .one i, p⟩
    refine liftA_mono (fun vs H2 h3 => ?_) (args_bind h2)
    obtain ⟨n, hn, Z, ι, S, l, ts, R, sl, ia, p⟩ := h3
    obtain ⟨us, rs, rfl, ia1, ia2⟩ : ∃ us rs, ts = us ++ rs ∧ IsAll K Z H2 ι S.length vs us ∧ IsAll K Z H2 ι S.length [x] rs := by
      refine ⟨ts.take vs.length, ts.drop vs.length, (List.take_append_drop _ _).symm, ?_, ?_⟩
      · have := ia.take vs.length
        rwa [List.take_left] at this
      · have := ia.drop vs.length
        rwa [List.drop_left] at this
    have hl : us.length = n := by rw [hn, ia1.length]
    have e1 : (us ++ rs).drop n = rs := by rw [← hl]; simp
    have e2 : (us ++ rs).take n = us := by rw [← hl]; simp
    dsimp only at p
    rw [e1, e2] at p
    obtain ⟨t, rfl⟩ : ∃ t, rs = [t] := by
      cases ia2 with
      | cons a b => cases b; exact ⟨_, rfl⟩
    have ix : Is K Z H2 ι S.length x t := by cases ia2 with | cons a b => exact a
    dsimp only at p
    cases e : mtF m t us S with
    | none => rw [e] at p; exact p.elim
    | some r =>
      obtain ⟨t', S'⟩ := r
      rw [e] at p
      exact ⟨Z, ι, S, t, us, t', S', R, ix, ia1, e, p⟩
  · exact p.elim
theorem meth0_lift {m : Mt} {fo : SE} (h : liftE K XR W (bindE fo fun x => fun l S => if mtTy m x S then argsE (retE (.lst [])) (fun ts => fun _ S => match mtF m x ts S with
    | some (t, S') => some (.ok t, S')
    | none => none) l S else none) σ H Q) : tBM0 K m.ty (rMt K m) (liftE K XR W fo) σ H Q := by
  refine lift_mono (fun x H1 h1 => ?_) (lift_bind0 h)
  obtain ⟨Z, ι, S, l, t, R, sl, i, p⟩ := lift1 h1
  split at p
  · rename_i ty
    refine ⟨ty_mt R i ty, ?_⟩
    simp only [argsE, bindE, retE] at p
    cases e : mtF m t [] S with
    | none => rw [e] at p; exact p.elim
    | some r =>
      obtain ⟨t', S'⟩ := r
      rw [e] at p
      exact ⟨Z, ι, S, t, [], t', S', R, i, .nil, e, p⟩
  · exact p.elim
end
section
variable {X : Cx} {K : PySem.W.Frag} {Z : Addr → Prop} {H : Hp} {ι : Nat → Addr} {S : Sto} {n : Nat}
abbrev PRow := List (Addr × List Key × Addr × V)
theorem rows_ok : ∀ {xs : List T} {vs : List V} {kvs : List (List Key × T)}, IsAll K Z H ι n vs xs → T.pairsT xs = some kvs →
    ∃ r : PRow, vs = r.map (fun q => V.ref q.1) ∧ r.map (fun q => q.2.1) = kvs.map (·.1) ∧ IsAll K Z H ι n (r.map fun q => q.2.2.2) (kvs.map (·.2)) ∧ ∀ q ∈ r, H q.1 = some (.tup [.ref q.2.2.1, q.2.2.2]) ∧ H q.2.2.1 = some (.tup (q.2.1.map kV))
  | [], _, kvs, .nil, e => by
    simp only [T.pairsT] at e
    cases e
    exact ⟨[], rfl, rfl, .nil, fun q hq => by cases hq⟩
  | t :: xs, v :: vs, kvs, .cons i ia, e => by
    simp only [T.pairsT] at e
    split at e
    · rename_i p ps e1 e2
      cases e
      obtain ⟨r, h1, h2, h3, h4⟩ := rows_ok ia e2
      unfold T.pairT at e1
      split at e1
      · rename_i k w
        cases hk : T.keyT k with
        | none => rw [hk] at e1; cases e1
        | some ks =>
          rw [hk] at e1
          cases e1
          cases i with
          | tup ht hs =>
            obtain ⟨vk, vw, rfl, ik, iw⟩ := hs.inv2
            obtain ⟨b, rfl, hb⟩ := keyT_ok ik hk
            refine ⟨(_, ks, b, vw) :: r, by rw [h1]; rfl, by simp [h2], .cons iw h3, fun q hq => ?_⟩
            rcases List.mem_cons.mp hq with e | hq
            · subst e; exact ⟨ht, hb⟩
            · exact h4 q hq
      · cases e1
    · cases e
theorem merge_ok : ∀ {r : List (List Key × V)} {kvs : List (List Key × T)} {ks : List (List Key)} {vs : List V} {ts : List T}, r.map (·.1) = kvs.map (·.1) → IsAll K Z H ι n (r.map (·.2)) (kvs.map (·.2)) → ks.length = vs.length → IsAll K Z H ι n vs ts →
    ∃ (ks' : List (List Key)) (vs' : List V) (ts' : List T), r.foldl (fun a p => putK a p.1 p.2) (ks.zip vs) = ks'.zip vs' ∧ mergeP (ks.zip ts) kvs = ks'.zip ts' ∧ ks'.length = vs'.length ∧ IsAll K Z H ι n vs' ts'
  | [], [], ks, vs, ts, _, _, hl, ia => ⟨ks, vs, ts, rfl, rfl, hl, ia⟩
  | p :: r, q :: kvs, ks, vs, ts, e, h, hl, ia => by
    simp only [List.map_cons, List.cons.injEq] at e
    cases h with
    | cons i is =>
      obtain ⟨ks1, vs1, ts1, a1, a2, a3, a4⟩ := zip_put (K := K) (Z := Z) (H := H) (ι := ι) (n := n) p.1 i hl ia
      obtain ⟨ks2, vs2, ts2, b1, b2, b3, b4⟩ := merge_ok e.2 is a3 a4
      refine ⟨ks2, vs2, ts2, ?_, ?_, b3, b4⟩
      · rw [List.foldl_cons, a1, b1]
      · unfold mergeP at b2 ⊢
        rw [List.foldl_cons]
        have : putP (ks.zip ts) q.1 q.2 = ks1.zip ts1 := by rw [← e.1]; exact a2
        rw [this, b2]
  | [], _ :: _, _, _, _, e, _, _, _ => by simp at e
  | _ :: _, [], _, _, _, e, _, _, _ => by simp at e
theorem kt_merge {H : Hp} : ∀ {r : List (List Key × Addr × V)} {us : List Value} {kvs : List (List Key × V)} {xs : List (List Key × Addr × Value)}, KT H kvs xs → Vals (r.map (·.2.2)) us → (∀ q ∈ r, H q.2.1 = some (.tup (q.1.map kV))) →
    KT H ((r.map fun q => (q.1, q.2.2)).foldl (fun a p => putK a p.1 p.2) kvs) (storedAllH xs ((r.zip us).map fun q => (q.1.1, q.1.2.1, q.2)))
  | [], _, kvs, xs, h, _, _ => h
  | q :: r, u :: us, kvs, xs, h, .cons rv rs, hh => by
    have h1 := KT.put h q.1 (hh q List.mem_cons_self) rv
    exact kt_merge (r := r) h1 rs fun z hz => hh z (List.mem_cons_of_mem _ hz)
theorem call_dictF (hcalm : X.calm = true) (hu : X.A.units + 65 < cLine) : CallR X (.type "dict") (rBi X.K dictF) := by
  intro pins s σ H xs us Q I rx h
  obtain ⟨Z, ι, S, ts, raw, R, ia, e, ok⟩ := h
  have e1 : ∃ t, ts = [t] := by
    unfold dictF at e
    split at e
    · exact ⟨_, rfl⟩
    · cases e
  obtain ⟨t, rfl⟩ := e1
  simp only [dictF] at e
  · obtain ⟨x, rfl, ix⟩ := ia.inv1
    split at e
    · rename_i items hseq
      split at e
      · rename_i hlen
        cases hp : T.pairsT items with
        | none => rw [hp] at e; cases e
        | some kvs =>
          rw [hp] at e
          cases e
          obtain ⟨a, vs, rfl, hq, iv⟩ := lseq_ok R ix hseq
          obtain ⟨r, h1, h2, h3, h4⟩ := rows_ok iv hp
          obtain ⟨u, eu, ru⟩ := vals1 rx
          subst eu
          cases ru
          obtain ⟨its, rv, ⟨o, no, ho, hc, hd, hdat⟩, hz⟩ := I.list hq
          subst h1
          have hlenr : r.length = items.length := by
            have := iv.length
            rw [List.length_map] at this
            exact this
          have ei : its = r.map fun q => Value.ref q.1 := by
            have e2 := refs_at (ps := r.map (·.1)) (us := its) (by rw [List.map_map]; exact rv)
            rw [e2, List.map_map]
            rfl
          -- the values as they lie
          have key : ∀ (r : PRow), (∀ q ∈ r, H q.1 = some (.tup [.ref q.2.2.1, q.2.2.2]) ∧ H q.2.2.1 = some (.tup (q.2.1.map kV))) → ∃ us : List Value, Vals (r.map fun q => q.2.2.2) us ∧ ∀ (j : Nat) (q : Addr × List Key × Addr × V) (u : Value), r[j]? = some q → us[j]? = some u → IsTup s.heap q.1 #[.ref q.2.2.1, u] := by
            intro r
            induction r with
            | nil => exact fun _ => ⟨[], .nil, fun j q u e => by simp at e⟩
            | cons q r ih =>
              intro h
              obtain ⟨us, a1, a2⟩ := ih fun z hz => h z (List.mem_cons_of_mem _ hz)
              obtain ⟨hq1, hq2⟩ := h q List.mem_cons_self
              obtain ⟨_, it, rvv, tp⟩ := (show ObjOk X.prog X.w H s.heap q.1 (.tup _) from I.hok q.1 _ hq1)
              obtain ⟨u1, u2, rfl, q1, q2⟩ := vals2 rvv
              cases (show u1 = Value.ref q.2.2.1 from q1)
              refine ⟨u2 :: us, .cons q2 a1, fun j z u e1 e2 => ?_⟩
              cases j with
              | zero =>
                simp only [List.getElem?_cons_zero, Option.some.injEq] at e1 e2
                subst e1 e2
                exact tp
              | succ j => exact a2 j z u (by simpa using e1) (by simpa using e2)
          obtain ⟨us, ru, at_⟩ := key r h4
          have hus : us.length = r.length := by
            have := ru.length
            rw [List.length_map] at this
            exact this.symm
          let psV : List (Value × Value) := (r.zip us).map fun q => (Value.ref q.1.2.2.1, q.2)
          let psH : List (List Key × Addr × Value) := (r.zip us).map fun q => (q.1.2.1, q.1.2.2.1, q.2)
          have lenV : psV.length = r.length := by simp [psV, hus]
          have lenH : psH.length = r.length := by simp [psH, hus]
          have atV : ∀ (j : Nat) (q : Addr × List Key × Addr × V) (u : Value), r[j]? = some q → us[j]? = some u → psV[j]? = some (Value.ref q.2.2.1, u) ∧ psH[j]? = some (q.2.1, q.2.2.1, u) := by
            intro j q u e1 e2
            have : (r.zip us)[j]? = some (q, u) := by rw [List.getElem?_zip_eq_some]; exact ⟨e1, e2⟩
            constructor
            · show ((r.zip us).map _)[j]? = _
              rw [List.getElem?_map, this]; rfl
            · show ((r.zip us).map _)[j]? = _
              rw [List.getElem?_map, this]; rfl
          have both : ∀ j, j < r.length → ∃ q u, r[j]? = some q ∧ us[j]? = some u := fun j hj => ⟨r[j], us[j]'(by omega), List.getElem?_eq_getElem hj, List.getElem?_eq_getElem (by omega)⟩
          have pit : PairItems s.heap its.toArray (fun j => (r.map (·.1)).getD j 0) psV := by
            refine ⟨by rw [ei]; simp [lenV], fun j k v e => ?_⟩
            have hj : j < r.length := by have := (List.getElem?_eq_some_iff.mp e).1; omega
            obtain ⟨q, u, e1, e2⟩ := both j hj
            rw [(atV j q u e1 e2).1] at e
            cases e
            have g : (r.map (·.1)).getD j 0 = q.1 := by rw [List.getD_eq_getElem?_getD, List.getElem?_map, e1]; rfl
            refine ⟨?_, ?_⟩
            · rw [ei]
              show (r.map fun q => Value.ref q.1).toArray[j]? = some (Value.ref ((r.map (·.1)).getD j 0))
              rw [g, List.getElem?_toArray, List.getElem?_map, e1]
              rfl
            · show PairAt s.heap ((r.map (·.1)).getD j 0) _ _
              rw [g]
              obtain ⟨o2, x1, x2, n2, x3⟩ := at_ j q _ e1 e2
              exact .inl ⟨o2, x1, x2, n2, x3⟩
          have isKey : ∀ x ∈ psH, (tupleKind (mixKind X.prog X.w)).is s.heap x.1 x.2.1 := by
            intro x hx
            obtain ⟨j, hj⟩ := List.mem_iff_getElem?.mp hx
            have hjr : j < r.length := by have := (List.getElem?_eq_some_iff.mp hj).1; omega
            obtain ⟨q, u, e1, e2⟩ := both j hjr
            rw [(atV j q u e1 e2).2] at hj
            cases hj
            exact key_of I.hok (h4 q (List.mem_of_getElem? e1)).2
          refine call_dict_pairsH (knd := tupleKind (mixKind X.prog X.w)) (ps := psH) (PairArg.list a its.toArray (fun j => (r.map (·.1)).getD j 0) psV) (I.ok.hd hcalm) (by show X.A.in1.in1.units < cLine; have : X.A.in1.in1.units ≤ X.A.units + 64 := (by show X.A.units + _ + _ ≤ _; omega); omega) ⟨⟨o, no, ho, hc, hd, hdat⟩, pit⟩ ⟨by rw [lenH, lenV], fun i kk v e => ?_⟩ (fun h' hk x hx => ?_) (by rw [lenV, hlenr]; exact Nat.le_trans hlen LIM_le) fun h' tk hd' hk => ?_
          · have hj : i < r.length := by have := (List.getElem?_eq_some_iff.mp (show psV[i]? = some (kk, v) from e)).1; omega
            obtain ⟨q, u, e1, e2⟩ := both i hj
            have e := (show psV[i]? = some (kk, v) from e)
            rw [(atV i q u e1 e2).1] at e
            cases e
            exact ⟨_, _, (atV i q _ e1 e2).2, rfl⟩
          · exact tupleKind_stays.stays (fun b o vs n e _ => hk b o (Nat.ne_of_lt (Heap.lt_size e)) (by simp) e) (isKey x hx)
          · have hm : (s.heap.objs.size == sysModules) = false := beq_eq_false_iff_ne.mpr (Nat.ne_of_gt I.big)
            have fr : H s.heap.objs.size = none := I.hok.fresh (Nat.le_refl _)
            let rk : List (List Key × V) := r.map fun q => (q.2.1, q.2.2.2)
            obtain ⟨ks', vs', ts', m1, m2, m3, m4⟩ := merge_ok (K := X.K) (Z := Z) (H := H) (ι := ι) (n := S.length) (r := rk) (kvs := kvs) (ks := []) (vs := []) (ts := []) (by rw [List.map_map]; exact h2) (by rw [List.map_map]; exact h3) rfl .nil
            have kt := kt_merge (H := H) (r := r.map (·.2)) (us := us) (kvs := []) (xs := []) .nil (by rw [List.map_map]; exact ru) (fun q hq => by
              obtain ⟨z, hz, rfl⟩ := List.mem_map.mp hq
              exact (h4 z hz).2)
            have ex : storedAllH [] (((r.map (·.2)).zip us).map fun q => (q.1.1, q.1.2.1, q.2)) = storedAllH [] psH := by
              congr 1
              show _ = (r.zip us).map _
              rw [List.zip_map_left, List.map_map]
              rfl
            have ek : ((r.map (·.2)).map fun q => (q.1, q.2.2)) = rk := by rw [List.map_map]; rfl
            rw [ex, ek, show ([] : List (List Key × V)) = ([] : List (List Key)).zip [] from rfl, m1] at kt
            have hsz : (ks'.zip vs').length ≤ sizeLine := by
              have b := storedAllH_length psH []
              have c := Paired.length kt
              rw [c]
              rw [List.length_nil, Nat.zero_add, lenH, hlenr] at b
              exact Nat.le_trans b (Nat.le_trans hlen LIM_le)
            obtain ⟨o2, es, ep, g1, g2, g3, g4, _, g5⟩ := hd'
            have keep : ∀ b o, s.heap.get? b = some o → h'.get? b = some o := fun b o e => hk b o (by simp) e
            refine ⟨.ref s.heap.objs.size, upd H s.heap.objs.size (.dT (ks'.zip vs')), I.laid (t' := tk) keep (Nat.le_refl _) (show ObjOk X.prog X.w _ _ _ (.dT (ks'.zip vs')) from ⟨hsz, hm, storedAllH [] psH, Paired.mapP kt fun p q z => ⟨z.1, ?_, z.2.2⟩, o2, es, ep, g1, g2, g3, g4, g5⟩), rfl, ?_⟩
            · exact same_fresh fr _ _ z.2.1
            · have m2' : mergeP [] kvs = ks'.zip ts' := m2
              have okv : ∀ H' v, Same H H' → Is X.K Z H' ι S.length v (.dT (mergeP [] kvs)) → Q v H' := ok
              refine okv _ _ (same_fresh fr) ?_
              rw [m2']
              exact .dT upd_same (R.free fr) (R.notZ fr) m3 (m4.fresh R fr)
      · cases e
    · cases e
end
theorem nd_sub {α : Type} [DecidableEq α] : ∀ {l m : List α}, l.Nodup → (∀ x ∈ l, x ∈ m) → l.length ≤ m.length
  | [], m, _, _ => Nat.zero_le _
  | a :: l, m, nd, h => by
    have ha := h a List.mem_cons_self
    have nd' := List.nodup_cons.mp nd
    have h2 := nd_sub (l := l) (m := m.erase a) nd'.2 fun x hx => by
      have hne : x ≠ a := fun e => by subst e; exact nd'.1 hx
      exact (List.mem_erase_of_ne hne).mpr (h x (List.mem_cons_of_mem _ hx))
    rw [List.length_erase_of_mem ha] at h2
    have := List.length_pos_of_mem ha
    simp only [List.length_cons]
    omega
theorem mem_ded {k : Int} : ∀ {l : List Int}, k ∈ ded l ↔ k ∈ l
  | [] => Iff.rfl
  | x :: r => by
    unfold ded
    split
    · rename_i h
      rw [mem_ded (l := r), List.mem_cons]
      constructor
      · exact .inr
      · rintro (rfl | h')
        · exact h
        · exact h'
    · rw [List.mem_cons, List.mem_cons, mem_ded (l := r)]
theorem nd_ded : ∀ l : List Int, (ded l).Nodup
  | [] => List.nodup_nil
  | x :: r => by
    unfold ded
    split
    · exact nd_ded r
    · rename_i h
      exact List.nodup_cons.mpr ⟨fun q => h (mem_ded.mp q), nd_ded r⟩
theorem dist_len {l ns : List Int} (nd : l.Nodup) (h : ∀ k, k ∈ ns ↔ k ∈ l) : l.length = (ded ns).length := by
  have h1 := nd_sub nd (m := ded ns) fun x hx => mem_ded.mpr ((h x).mpr hx)
  have h2 := nd_sub (nd_ded ns) (m := l) fun x hx => (h x).mp (mem_ded.mp hx)
  omega
theorem mem_dedG {α : Type} [DecidableEq α] {k : α} : ∀ {l : List α}, k ∈ dedG l ↔ k ∈ l
  | [] => Iff.rfl
  | x :: r => by
    unfold dedG
    split
    · rename_i h
      rw [mem_dedG (l := r), List.mem_cons]
      constructor
      · exact .inr
      · rintro (rfl | h')
        · exact h
        · exact h'
    · rw [List.mem_cons, List.mem_cons, mem_dedG (l := r)]
theorem nd_dedG {α : Type} [DecidableEq α] : ∀ l : List α, (dedG l).Nodup
  | [] => List.nodup_nil
  | x :: r => by
    unfold dedG
    split
    · exact nd_dedG r
    · rename_i h
      exact List.nodup_cons.mpr ⟨fun q => h (mem_dedG.mp q), nd_dedG r⟩
theorem dist_lenG {α : Type} [DecidableEq α] {l ns : List α} (nd : l.Nodup) (h : ∀ k, k ∈ ns ↔ k ∈ l) : l.length = (dedG ns).length := by
  have h1 := nd_sub nd (m := dedG ns) fun x hx => mem_dedG.mpr ((h x).mpr hx)
  have h2 := nd_sub (nd_dedG ns) (m := l) fun x hx => (h x).mp (mem_dedG.mp hx)
  omega
def tLenSetB (K : PySem.W.Frag) (ta : TE) : TE := fun σ H Q => ta σ H fun x H1 => (∃ (l : Addr) (ns : List Int), x = .ref l ∧ SqT K H1 l (ns.map V.int) ∧ ns.length ≤ 1000 ∧ Q (.int ((ded ns).length : Nat)) H1) ∨
  (∃ (l : Addr) (ks : List (Addr × List Int)), x = .ref l ∧ SqL K H1 l (ks.map fun p => V.ref p.1) ∧ (∀ p ∈ ks, SqT K H1 p.1 (p.2.map V.int)) ∧ ks.length < 64 ∧ ∀ (a : Addr) (o : HO), H1 a = none → Q (.int ((dedG (ks.map (·.2))).length : Nat)) (upd H1 a o))
theorem pe_lenSetB {X : Cx} {a : Expr} {ta : TE} {p p2 q pos : Pos} (hg : Gl X "len") (hm : X.mg "len" = none) (hg2 : Gl X "set") (hm2 : X.mg "set" = none) (ha : PE X a ta) (hc : X.calm = true) (hu : X.A.units + 64 < cLine)
    (na : starEach [a] X.env = (false, eval a X.env) :: starEach [] X.env) : PE X (.Call (.Name "len" p) [.Call (.Name "set" p2) [a] [] q] [] pos) (tLenSetB X.K ta) := by
  refine ⟨fun pins s σ H Q I h => ?_⟩
  refine Call_ (ld_blt I hg hm boot_len ?_)
  refine PyProof.Rows.callWith_builtin1 (PyProof.Rows.args_cons ?_ rfl) rfl rfl
  refine Call_ (ld_blt I hg2 hm2 boot_set ?_)
  refine PyProof.Rows.callWith_type1 (PyProof.Rows.args_cons (thn (ha.run pins s σ H _ I h) fun v s1 ⟨x, H1, I1, r1, q1⟩ => PyProof.Rows.args_nil ?_) na) na rfl
  rcases q1 with ⟨l, ns, rfl, hq, hl, q1⟩ | ⟨l, ks, rfl, hq, ht, hl, q1⟩
  · cases r1
    obtain ⟨its, rv, pt, hz⟩ := I1.tuple hq
    have hi : IntsAre its.toArray.toList ns := ints_of_vals rv
    refine call_set_tupI ns (I1.ok.hd hc) (show s1.heap.IsTuple l its.toArray from pt) hi (by unfold scanBound; omega) fun h' tk c R1 hcn k => ?_
    refine PyProof.Rows.args_nil ?_
    obtain ⟨o, es, ep, t, ho, hex, hd, g, nd, hm3, hb, hf, hn, _, _⟩ := R1
    have I2 : Inv X pins σ H1 { s1 with heap := h', toks := tk } := I1.kept fun b o e => k b o e
    have e : es.size = (ded ns).length := by
      rw [← dist_len nd (ns := ns) fun k => by rw [← hm3 k, decide_eq_true_eq]]
      simp
    exact call_len_set ho hex hd hf (by omega) ⟨.int ((ded ns).length : Nat), H1, I2.tok _, ⟨_, by rw [e]⟩, q1⟩
  · have hv : Vals [V.ref l] [v] := .cons r1 .nil
    refine thn (cr_setOfT hc hu pins s1 σ H1 [.ref l] [v] (fun v H' => ∃ (a : Addr) (L : List (Addr × List Int)), v = .ref a ∧ H1 a = none ∧ H' = upd H1 a (SetTO X.prog X.w a L) ∧ (∀ p ∈ L, p ∈ ks) ∧ (∀ p ∈ ks, p.2 ∈ L.map (·.2))) I1 hv ⟨l, ks, rfl, hq, ht, hl, fun a L hn h1 h2 => ⟨a, L, rfl, hn, rfl, h1, h2⟩⟩) fun u s2 ⟨v2, H2, I2, r2, a, L, ev, hn, eH, h1, h2⟩ => ?_
    subst ev
    subst eH
    cases r2
    refine PyProof.Rows.args_nil ?_
    have S : SetT0 X.prog X.w s2.heap a L := by
      have z := I2.hok a _ upd_same
      simp only [SetTO, ObjOk] at z
      exact z.1
    obtain ⟨es, ep, t, ⟨o, ho, hex, hd⟩, hes, htab, hnd, hpl, hled, hmask, h64⟩ := S.ex
    have esz : es.size = L.length := by
      rw [← Array.length_toList, hes]
      simp [rowsOf]
    have hsz := htab.sz
    rw [List.length_map] at hsz
    have hf : t.fits es.size = true := by
      have h3 : t.dummies.size = 0 := by rw [htab.dm]; rfl
      show (t.place.size == es.size && decide (t.place.size + t.dummies.size ≤ t.mask)) = true
      rw [h3, esz, hsz, beq_self_eq_true, Bool.true_and, decide_eq_true_eq]
      omega
    have e : L.length = (dedG (ks.map (·.2))).length := by
      rw [← dist_lenG hnd (ns := ks.map (·.2)) fun k => ?_]
      · rw [List.length_map]
      · constructor
        · intro h
          obtain ⟨p, hp, rfl⟩ := List.mem_map.mp h
          exact h2 p hp
        · intro h
          obtain ⟨p, hp, rfl⟩ := List.mem_map.mp h
          exact List.mem_map.mpr ⟨p, h1 p hp, rfl⟩
    exact call_len_set ho hex hd hf (by omega) ⟨.int ((dedG (ks.map (·.2))).length : Nat), upd H1 a (SetTO X.prog X.w a L), I2.tok _, ⟨_, by rw [esz, e]⟩, q1 a _ hn⟩
def visC (sc : Scope) (x : Str) : Bool := match sc.names.lookup x with
  | some .local => true
  | some .cell => true
  | some .free => true
  | _ => false
def locC (sc : Scope) (fn : Str → Bool) (x : Str) : Bool := match sc.names.lookup x with
  | some .local => true
  | some .cell => fn x
  | _ => false
def glC (sc : Scope) (x : Str) : Bool := match sc.names.lookup x with
  | some .globalImplicit => true
  | _ => false
def okName (x : Str) : Bool := !(x == ("__debug__" : Str)) && !(x == ("__classdict__" : Str)) && !(x == ("__name__" : Str))
def isStarred : Expr → Bool
  | .Starred .. => true
  | _ => false
def notSet : Expr → Bool
  | .Set .. => false
  | _ => true
theorem star1 {e : Expr} {es : List Expr} {env : Env} (h : isStarred e = false) : starEach (e :: es) env = (false, eval e env) :: starEach es env := by
  cases e <;> first | rfl | cases h
theorem nomarkS {op : CmpOp} {e : Expr} (h : notSet e = true) : behindInMarks op e = false := by
  cases e <;> first | rfl | cases h
theorem nofold {e : Expr} {env : Env} (h : notSet e = true) : ∀ x, foldedSetIterable e env x = pure x := by
  intro x
  cases e <;> first | rfl | cases h
def ixC : Expr → Bool
  | .Name .. => true
  | .Constant .. => true
  | .BinOp .. => true
  | .UnaryOp .. => true
  | .Subscript .. => true
  | .Call .. => true
  | .Tuple .. => true
  | _ => false
def tstC : Expr → Bool
  | .Name .. => true
  | .Constant .. => true
  | .Subscript .. => true
  | .Call .. => true
  | _ => false
def Bi.nm : Bi → Str
  | .len => "len" | .abs => "abs" | .max2 => "max" | .min2 => "min" | .max1 => "max" | .min1 => "min" | .sum => "sum" | .all => "all"
  | .tuple => "tuple" | .list => "list" | .sorted => "sorted" | .int => "int" | .str => "str" | .dict => "dict" | .sortD => "sorted" | .minD => "min" | .sortK => "sorted" | .intS => "int"
def Bi.val : Bi → Value
  | .len => .builtin "len" | .abs => .builtin "abs" | .max2 => .builtin "max" | .min2 => .builtin "min" | .max1 => .builtin "max" | .min1 => .builtin "min" | .sum => .builtin "sum" | .all => .builtin "all"
  | .tuple => .type "tuple" | .list => .type "list" | .sorted => .builtin "sorted" | .int => .type "int" | .str => .type "str" | .dict => .type "dict" | .sortD => .builtin "sorted" | .minD => .builtin "min" | .sortK => .builtin "sorted" | .intS => .type "int"
def vfC : Expr → Bool
  | .Name .. => true
  | .Subscript .. => true
  | _ => false
def ptC : Expr → Bool
  | .Name .. => true
  | .Constant .. => true
  | .Subscript .. => true
  | .Call .. => true
  | .Compare .. => true
  | .UnaryOp .Not _ _ => true
  | .BoolOp .. => true
  | _ => false
def isBoolE : Expr → Bool
  | .BoolOp .. => true
  | _ => false
def bltNames : List Str := ["len", "abs", "max", "min", "sum", "all", "tuple", "list", "sorted", "int", "str", "dict", "bool", "isinstance", "range", "enumerate", "zip", "ValueError", "set"]
inductive G3 where
  | ex (x : Expr) | args (xs : List Expr) | iter (x tg : Expr)
def E.cnt : E → Nat
  | .cons _ r => r.cnt + 1
  | .consV _ _ r => r.cnt + 1
  | .consR _ _ _ _ _ _ t => t.cnt + 4
  | _ => 0
def tgC (N : List Str) (sc : Scope) (fn : Str → Bool) : Tg → Expr → Bool
  | .name i, x => match x with
    | .Name y _ => N[i]? == some y && locC sc fn y
    | _ => false
  | .tup is, x => match x with
    | .Tuple xs _ _ => tgs is xs
    | _ => false
where tgs : List Nat → List Expr → Bool
  | [], [] => true
  | i :: is, .Name y _ :: xs => N[i]? == some y && locC sc fn y && tgs is xs
  | _, _ => false
def isTupE : Expr → Bool
  | .Tuple .. => true
  | _ => false
def isNmE : Expr → Bool
  | .Name .. => true
  | _ => false
def txC : Expr → Bool
  | .Name .. => true
  | .Constant .. => true
  | .Subscript .. => true
  | .Call _ (_ :: _) .. => true
  | _ => false
def fnOf (sc : Scope) : Str → Bool := fun x => sc.names.lookup x == some .cell
def chk (N : List Str) : E → Scope → (Str → Bool) → G3 → Bool
  | .var i, sc, fn, g => match g with
    | .ex (.Name x _) => N[i]? == some x && visC sc x && okName x
    | _ => false
  | .gc y _, sc, fn, g => match g with
    | .ex (.Name x _) => x == y && glC sc x && okName x
    | _ => false
  | .int i, sc, fn, g => match g with
    | .ex (.Constant (.int j) _ _) => i == j
    | _ => false
  | .str s, sc, fn, g => match g with
    | .ex (.Constant (.str j) _ _) => s == j
    | _ => false
  | .bl s, sc, fn, g => match g with
    | .ex (.Constant (.bool j) _ _) => s == j
    | _ => false
  | .non, sc, fn, g => match g with
    | .ex (.Constant .none _ _) => true
    | _ => false
  | .bin _ op a b, sc, fn, g => match g with
    | .ex (.BinOp x o y _) => op == o && chk N a sc fn (.ex x) && chk N b sc fn (.ex y)
    | _ => false
  | .neg a, sc, fn, g => match g with
    | .ex (.UnaryOp .USub x _) => chk N a sc fn (.ex x)
    | _ => false
  | .not a, sc, fn, g => match g with
    | .ex (.UnaryOp .Not x _) => ptC x && chk N a sc fn (.ex x)
    | _ => false
  | .cmp op a b, sc, fn, g => match g with
    | .ex (.Compare x [o] [y] _) => op == o && notSet y && chk N a sc fn (.ex x) && chk N b sc fn (.ex y)
    | _ => false
  | .chain p q a b c, sc, fn, g => match g with
    | .ex (.Compare x [o, u] [y, z] _) => p == o && q == u && notSet z && chk N a sc fn (.ex x) && chk N b sc fn (.ex y) && chk N c sc fn (.ex z)
    | _ => false
  | .inr ng a args, sc, fn, g => match g with
    | .ex (.Compare x [o] [.Call (.Name f _) (e :: es) [] _] _) => o == (if ng then .NotIn else .In) && f == "range" && glC sc f && chk N a sc fn (.ex x) && !isStarred e && es.all notStar && chk N args sc fn (.args (e :: es))
    | _ => false
  | .inrO ng a args, sc, fn, g => match g with
    | .ex (.Compare x [o] [.Call (.Name f _) (e :: es) [] _] _) => o == (if ng then .NotIn else .In) && f == "range" && glC sc f && chk N a sc fn (.ex x) && !isStarred e && es.all notStar && chk N args sc fn (.args (e :: es))
    | _ => false
  | .and a b, sc, fn, g => match g with
    | .ex (.BoolOp .And (x :: y :: r) pos) => ptC x && chk N a sc fn (.ex x) && chk N b sc fn (.ex (.BoolOp .And (y :: r) pos))
    | _ => false
  | .or a b, sc, fn, g => match g with
    | .ex (.BoolOp .Or (x :: y :: r) pos) => ptC x && chk N a sc fn (.ex x) && chk N b sc fn (.ex (.BoolOp .Or (y :: r) pos))
    | _ => false
  | .one a, sc, fn, g => match g with
    | .ex (.BoolOp _ [x] pos) => ptC x && chk N a sc fn (.ex x)
    | _ => false
  | .ite c a b, sc, fn, g => match g with
    | .ex (.IfExp x y z _) => ptC x && chk N c sc fn (.ex x) && chk N a sc fn (.ex y) && chk N b sc fn (.ex z)
    | _ => false
  | .nil, sc, fn, g => match g with
    | .args [] => true
    | _ => false
  | .cons a r, sc, fn, g => match g with
    | .args (x :: xs) => !isStarred x && chk N a sc fn (.ex x) && chk N r sc fn (.args xs)
    | _ => false
  | .consV a b r, sc, fn, g => match g with
    | .args (.BoolOp .Or [x, y] _ :: xs) => chk N a sc fn (.ex x) && chk N b sc fn (.ex y) && chk N r sc fn (.args xs)
    | _ => false
  | .consR s a b o y z t, sc, fn, g => match g with
    | .args (.Constant (.str s') _ _ :: x1 :: x2 :: .Call (.Attribute x nm ap) [.Constant (.str y') _ _, .Constant (.str z') _ _] [] cp :: xs) => s == s' && y == y' && z == z' && !(y == z) && nm == "replace" && txC x && (ap.endLine == cp.line) && !isStarred x1 && !isStarred x2 && chk N a sc fn (.ex x1) && chk N b sc fn (.ex x2) && chk N o sc fn (.ex x) && chk N t sc fn (.args xs)
    | _ => false
  | .tup args, sc, fn, g => match g with
    | .ex (.Tuple xs _ _) => chk N args sc fn (.args xs)
    | _ => false
  | .lst _ args, sc, fn, g => match g with
    | .ex (.List xs _) => chk N args sc fn (.args xs)
    | _ => false
  | .dnew _ _, sc, fn, g => match g with
    | .ex (.Dict [] [] _) => true
    | _ => false
  | .idx a b, sc, fn, g => match g with
    | .ex (.Subscript x y _) => ixC y && chk N a sc fn (.ex x) && chk N b sc fn (.ex y)
    | _ => false
  | .sl _ a lo hi, sc, fn, g => match g with
    | .ex (.Subscript x (.Slice l h none _) _) => chk N a sc fn (.ex x) && (match l with | none => lo.isNop | some y => !lo.isNop && chk N lo sc fn (.ex y)) && (match h with | none => hi.isNop | some y => !hi.isNop && chk N hi sc fn (.ex y))
    | _ => false
  | .rev _ a, sc, fn, g => match g with
    | .ex (.Subscript x (.Slice none none (some (.UnaryOp .USub (.Constant (.int 1) _ _) _)) _) _) => chk N a sc fn (.ex x)
    | _ => false
  | .nop, _, _, _ => false
  | .call _ y _ args, sc, fn, g => match g with
    | .ex (.Call (.Name x _) (e :: es) [] _) => x == y && glC sc x && okName x && !isStarred e && es.all notStar && chk N args sc fn (.args (e :: es))
    | _ => false
  | .callV _ tbl fe args, sc, fn, g => match g with
    | .ex (.Call x (e :: es) [] _) => vfC x && !isStarred e && es.all notStar && chk N fe sc fn (.ex x) && chk N args sc fn (.args (e :: es))
    | _ => false
  | .sset _ a, sc, fn, g => match g with
    | .ex (.Call (.Name f _) [.Call (.Name f2 _) [x] [] _] [] _) => f == "sorted" && f2 == "set" && glC sc f && glC sc f2 && !isStarred x && chk N a sc fn (.ex x)
    | _ => false
  | .trng a, sc, fn, g => match g with
    | .ex (.Call (.Name f _) [.Call (.Name f2 _) [x] [] _] [] _) => f == "tuple" && f2 == "range" && glC sc f && glC sc f2 && !isStarred x && chk N a sc fn (.ex x)
    | _ => false
  | .dlit k v, sc, fn, g => match g with
    | .ex (.Dict [some x] [y] _) => chk N k sc fn (.ex x) && chk N v sc fn (.ex y)
    | _ => false
  | .dget o k, sc, fn, g => match g with
    | .ex (.Call (.Attribute x nm ap) [e] [] cp) => nm == "get" && (ixC x && (match x with | .Call .. => false | _ => true)) && (ap.endLine == cp.line) && !isStarred e && chk N o sc fn (.ex x) && chk N k sc fn (.ex e)
    | _ => false
  | .bi _ b args, sc, fn, g => match g with
    | .ex (.Call (.Name x _) (e :: es) [] _) => x == b.nm && glC sc x && !isStarred e && es.all notStar && chk N args sc fn (.args (e :: es))
    | _ => false
  | .isi a ty, sc, fn, g => match g with
    | .ex (.Call (.Name x _) [e, .Name y _] [] _) => x == "isinstance" && glC sc x && y == (ty : Str) && glC sc y && isiTys.contains ty && !isStarred e && chk N a sc fn (.ex e)
    | _ => false
  | .comp _ own tg it cond elt, sc, fn, g => match g with
    | .ex (.ListComp x [⟨t, i, ifs, 0⟩] scope _) => blkC N sc scope own && tgC N (relS scope sc) (fnOf scope) tg t && (tg.ins.all fun k => (own.map (·.2)).contains k) && notSet i && chk N it sc fn (.iter i t) &&
        (match ifs with | [] => cond.isNop | [c] => !cond.isNop && ptC c && chk N cond (relS scope sc) (fnOf scope) (.ex c) | _ => false) && chk N elt (relS scope sc) (fnOf scope) (.ex x)
    | _ => false
  | .lenset a, sc, fn, g => match g with
    | .ex (.Call (.Name f _) [.Call (.Name f2 _) [x] [] _] [] _) => f == "len" && f2 == "set" && glC sc f && glC sc f2 && !isStarred x && chk N a sc fn (.ex x)
    | _ => false
  | .seq a, sc, fn, g => match g with
    | .iter x _ => chk N a sc fn (.ex x)
    | _ => false
  | .rng args, sc, fn, g => match g with
    | .iter (.Call (.Name f _) (e :: es) [] _) _ => f == "range" && glC sc f && es.length ≤ 2 && !isStarred e && es.all notStar && chk N args sc fn (.args (e :: es))
    | _ => false
  | .enum a, sc, fn, g => match g with
    | .iter (.Call (.Name f _) [e] [] _) t => f == "enumerate" && glC sc f && isTupE t && !isStarred e && chk N a sc fn (.ex e)
    | _ => false
  | .zip a b, sc, fn, g => match g with
    | .iter (.Call (.Name f _) [e, e2] [] _) t => f == "zip" && glC sc f && (isTupE t || isNmE t) && !isStarred e && !isStarred e2 && chk N a sc fn (.ex e) && chk N b sc fn (.ex e2)
    | _ => false
  | .meth m o args, sc, fn, g => match g with
    | .ex (.Call (.Attribute x nm ap) [] [] cp) => m.zero && nm == m.nm && (ixC x && (match x with | .Call .. => false | _ => true)) && (ap.endLine == cp.line) && chk N o sc fn (.ex x) && chk N args sc fn (.args [])
    | .ex (.Call (.Attribute x nm ap) (e :: es) [] cp) => !m.zero && nm == m.nm && (ixC x && (match x with | .Call .. => false | _ => true)) && (ap.endLine == cp.line) && decide (es.length < 20) && !isStarred e && es.all notStar && chk N o sc fn (.ex x) && chk N args sc fn (.args (e :: es))
    | _ => false
  | .sseq a, sc, fn, g => match g with
    | .iter x _ => chk N a sc fn (.ex x)
    | _ => false
  | .join o a, sc, fn, g => match g with
    | .ex (.Call (.Attribute x nm ap) [e] [] cp) => nm == "join" && txC x && (ap.endLine == cp.line) && !isStarred e && chk N o sc fn (.ex x) && chk N a sc fn (.ex e)
    | _ => false
  | .split o a, sc, fn, g => match g with
    | .ex (.Call (.Attribute x nm ap) [e] [] cp) => nm == "split" && txC x && (ap.endLine == cp.line) && !isStarred e && chk N o sc fn (.ex x) && chk N a sc fn (.ex e)
    | _ => false
  | .low o, sc, fn, g => match g with
    | .ex (.Call (.Attribute x nm ap) [] [] cp) => nm == "lower" && txC x && (ap.endLine == cp.line) && chk N o sc fn (.ex x)
    | _ => false
  | .upp o, sc, fn, g => match g with
    | .ex (.Call (.Attribute x nm ap) [] [] cp) => nm == "upper" && txC x && (ap.endLine == cp.line) && chk N o sc fn (.ex x)
    | _ => false
def needT (M : Md) (XR : XRel) (lv ar : Nat) : List (Addr × Str × FnS) → Prop
  | [] => True
  | p :: r => (M.mg p.2.1 = some (.ref p.1) ∧ FnNeed M XR lv p.2.1 ar p.2.2) ∧ needT M XR lv ar r
theorem needT_mem {M : Md} {XR : XRel} {lv ar : Nat} : ∀ {tbl : List (Addr × Str × FnS)}, needT M XR lv ar tbl → ∀ p ∈ tbl, M.mg p.2.1 = some (.ref p.1) ∧ FnNeed M XR lv p.2.1 ar p.2.2
  | [], _, _, h => by cases h
  | _ :: _, n, p, h => by
    rcases List.mem_cons.mp h with rfl | h
    · exact n.1
    · exact needT_mem n.2 p h
def need (M : Md) (XR : XRel) (lv : Nat) : E → Prop
  | .gc x t => match t with
    | .int i => ∃ k, M.mg x = some (.int i k)
    | .str s => ∃ k, M.mg x = some (.str s k)
    | .fn a => M.mg x = some (.ref a)
    | _ => False
  | .bin _ _ a b => need M XR lv a ∧ need M XR lv b
  | .neg a => need M XR lv a
  | .not a => need M XR lv a
  | .cmp _ a b => need M XR lv a ∧ need M XR lv b
  | .chain _ _ a b c => need M XR lv a ∧ need M XR lv b ∧ need M XR lv c
  | .inr _ a b => need M XR lv a ∧ need M XR lv b
  | .inrO _ a b => need M XR lv a ∧ need M XR lv b
  | .consR _ a b o _ _ t => need M XR lv a ∧ need M XR lv b ∧ need M XR lv o ∧ need M XR lv t
  | .and a b => need M XR lv a ∧ need M XR lv b
  | .or a b => need M XR lv a ∧ need M XR lv b
  | .one a => need M XR lv a
  | .ite a b c => need M XR lv a ∧ need M XR lv b ∧ need M XR lv c
  | .cons a b => need M XR lv a ∧ need M XR lv b
  | .consV a b r => need M XR lv a ∧ need M XR lv b ∧ need M XR lv r
  | .tup a => need M XR lv a
  | .lst _ a => need M XR lv a
  | .idx a b => need M XR lv a ∧ need M XR lv b
  | .sl _ a b c => need M XR lv a ∧ need M XR lv b ∧ need M XR lv c
  | .rev _ a => need M XR lv a
  | .call _ x F args => FnNeed M XR lv x args.cnt F ∧ need M XR lv args
  | .callV _ tbl fe args => needT M XR lv args.cnt tbl ∧ need M XR lv fe ∧ need M XR lv args
  | .sset _ a => need M XR lv a
  | .trng a => need M XR lv a
  | .dlit a b => need M XR lv a ∧ need M XR lv b
  | .dget a b => need M XR lv a ∧ need M XR lv b
  | .bi _ _ a => need M XR lv a
  | .isi a _ => need M XR lv a
  | .comp _ _ _ a b c => need M XR lv a ∧ need M XR lv b ∧ need M XR lv c
  | .lenset a => need M XR lv a
  | .seq a => need M XR lv a
  | .rng a => need M XR lv a
  | .enum a => need M XR lv a
  | .zip a b => need M XR lv a ∧ need M XR lv b
  | .meth _ a b => need M XR lv a ∧ need M XR lv b
  | .sseq a => need M XR lv a
  | .join a b => need M XR lv a ∧ need M XR lv b
  | .split a b => need M XR lv a ∧ need M XR lv b
  | .low a => need M XR lv a
  | .upp a => need M XR lv a
  | _ => True
structure Good (M : Md) (XR : XRel) (lv : Nat) (N : List Str) (sc : Scope) (fn : Str → Bool) (X : Cx) (W : WX) : Prop where
  md : mdOf X = M
  N : X.N = N
  sc : X.env.scope = sc
  fn : ∀ x, fn x = true → X.fn x = true
  calm : X.calm = true
  nodup : X.N.Nodup
  units : X.A.units + 65 < cLine
  room : Room lv X.A
  tk : L2N.Takes X W
  xo : XOk X.K XR
  blt : ∀ x ∈ bltNames, X.mg x = none
section
variable {M : Md} {XR : XRel} {lv : Nat} {N : List Str} {sc : Scope} {fn : Str → Bool} {X : Cx} {W : WX}
theorem vis_ok (G : Good M XR lv N sc fn X W) {x : Str} (h : visC sc x = true) : Vis X.env.scope x := by
  rw [G.sc]
  unfold visC at h
  split at h
  · exact .inl (by assumption)
  · exact .inr (.inl (by assumption))
  · exact .inr (.inr (by assumption))
  · cases h
theorem loc_ok (G : Good M XR lv N sc fn X W) {x : Str} (h : locC sc fn x = true) : Loc X.env.scope x ∧ (X.fn x = true ∨ X.env.scope.names.lookup x = some .local) := by
  rw [G.sc]
  unfold locC at h
  split at h
  · exact ⟨.inl (by assumption), .inr (by assumption)⟩
  · exact ⟨.inr (by assumption), .inl (G.fn x h)⟩
  · cases h
theorem gl_ok (G : Good M XR lv N sc fn X W) {x : Str} (h : glC sc x = true) : Gl X x := by
  show X.env.scope.names.lookup x = _
  rw [G.sc]
  unfold glC at h
  split at h
  · assumption
  · cases h
theorem okName_ok {x : Str} (h : okName x = true) : (x == ("__debug__" : Str)) = false ∧ (x == ("__classdict__" : Str)) = false ∧ x ≠ "__name__" := by
  unfold okName at h
  simp only [Bool.and_eq_true, Bool.not_eq_true', beq_eq_false_iff_ne] at h
  exact ⟨by simpa using h.1.1, by simpa using h.1.2, h.2⟩
theorem Good.blk (G : Good M XR lv N sc fn X W) (s : Shared) (H : Hp) (scope : Scope) (C : Addr) (cl : List (Str × Addr)) (fp : List Addr) : Good M XR lv N (relS scope sc) (fnOf scope) (X.blk s H scope (compEnvC scope cl C X.env) fp) WF where
  md := G.md
  N := G.N
  sc := by show relS scope X.env.scope = _; rw [G.sc]
  fn := fun x h => h
  calm := G.calm
  nodup := G.nodup
  units := G.units
  room := G.room
  tk := fun u s' ⟨_, _, _, _, _, _, _, _, _, _, _, _, _, _, _, _, w⟩ => w
  xo := G.xo
  blt := G.blt
theorem plainIx_of {b : Expr} (h : ixC b = true) : PlainIx b := by
  intro o i
  cases b <;> first | rfl | cases h
theorem base_of {b : Expr} {nm : Str} {env : Env} (h : ixC b = true ∧ (match b with | .Call .. => false | _ => true) = true) : attributeBase b nm env (eval b env) = eval b env := by
  obtain ⟨h1, h2⟩ := h
  cases b <;> first | rfl | (cases h1; done) | (cases h2; done)
theorem tx_of {b : Expr} {nm : Str} {env : Env} (h : txC b = true) : attributeBase b nm env (eval b env) = eval b env := by
  cases b with
  | Call f es ks p =>
    cases es with
    | nil => cases h
    | cons e es =>
      unfold attributeBase
      cases f <;> rfl
  | _ => first | rfl | cases h
theorem few_of {e : Expr} {es : List Expr} {env : Env} {cp : Pos} (h1 : es.length < 20) (h2 : isStarred e = false) (h3 : es.all notStar = true) : ((backTo cp (starEach (e :: es) env)).all (fun x => !x.1) && (backToKw cp (keywordEach [] env)).all (fun x => x.1.isSome)
      && decide ((e :: es).length + ([] : List Keyword).length + (if ([] : List Keyword).isEmpty then 0 else 1) < 30)) = true := by
  have a1 : (backTo cp (starEach (e :: es) env)).all (fun x => !x.1) = true := by
    have hn : (e :: es).all notStar = true := by
      rw [List.all_cons, h3, Bool.and_true]
      cases e <;> first | rfl | cases h2
    have := star_none (env := env) (pos := cp) hn
    rw [List.all_eq_true]
    rw [List.any_eq_false] at this
    intro x hx
    have := this x hx
    simpa using this
  rw [a1]
  simp only [Bool.true_and]
  rw [Bool.and_eq_true]
  exact ⟨rfl, by simp; omega⟩
theorem tst_of {e : Expr} {env : Env} (h : tstC e = true) : ∀ whole, isTrue e env whole = (do let v ← whole; standAt e.pos; holding [v] (truthy v)) := by
  intro whole
  cases e <;> first | rfl | cases h
theorem bi_boot (b : Bi) : bootBuiltins b.nm = some b.val := by cases b <;> decide +kernel
theorem bi_in (b : Bi) : b.nm ∈ bltNames := by cases b <;> decide
theorem bi_name (b : Bi) : b.nm ≠ "__name__" ∧ (b.nm == ("__debug__" : Str)) = false := by cases b <;> decide
theorem bi_call (hc : X.calm = true) (hu : X.A.units + 65 < cLine) (b : Bi) : CallR X b.val (rBi X.K (biF b)) := by
  cases b
  · exact call_lenF
  · exact call_absF
  · exact call_max2F hc
  · exact call_min2F hc
  · exact call_max1F hc
  · exact call_min1F hc
  · exact call_sumF hc
  · exact call_allF hc
  · exact call_tupleF
  · exact call_listF hc
  · exact call_sortedF
  · exact call_intF
  · exact call_strF
  · exact call_dictF hc hu
  · exact call_sortDF (by omega)
  · exact call_minDF hc (by omega)
  · exact call_sortKF hc (by omega)
  · exact call_intSF
theorem pe_blt {b : Bi} {x : Str} {e : Expr} {es : List Expr} {t : TA} {p pos : Pos} (hc : X.calm = true) (hu : X.A.units + 65 < cLine) (hx : x = b.nm) (hg : Gl X x) (hm : X.mg x = none) (ha : PA X (e :: es) t) (he : isStarred e = false) (hes : es.all notStar = true) :
    PE X (.Call (.Name x p) (e :: es) [] pos) (tCB (rBi X.K (biF b)) t) := by
  subst hx
  have hv := bi_boot b
  have hcr := bi_call (X := X) hc hu b
  cases hb : b.val with
  | builtin id =>
    rw [hb] at hv hcr
    exact pe_callB hcr hg hm hv ha (bi_name b).1 (bi_name b).2 (star1 he) (star_none hes)
  | type id =>
    rw [hb] at hv hcr
    exact pe_callTy hcr hg hm hv ha (bi_name b).1 (bi_name b).2 (star1 he) (star_none hes)
  | _ => cases b <;> cases hb
theorem cnt_step {f F : SE} {n : Nat} (hF : ∀ l S ts S', F l S = some (.ok (.lst ts), S') → ts.length = n) : ∀ l S ts S', (bindE f fun x => argsE F fun ts => retE (.lst (x :: ts))) l S = some (.ok (.lst ts), S') → ts.length = n + 1 := by
  intro l S ts S' e
  simp only [bindE, argsE] at e
  split at e
  · cases e
  · cases e
  · rename_i S1 _
    split at e
    · cases e
    · cases e
    · rename_i t S2 q
      cases t with
      | lst us =>
        cases e
        have := hF _ _ _ _ q
        simp [this]
      | _ => cases e
theorem ev_cnt : ∀ (e : E) {N : List Str} {sc : Scope} {fn : Str → Bool} {xs : List Expr}, chk N e sc fn (.args xs) = true → e.cnt = xs.length ∧ ∀ l S ts S', ev e l S = some (.ok (.lst ts), S') → ts.length = xs.length
  | .nil, N, sc, fn, xs, h => by
    cases xs with
    | nil => exact ⟨rfl, fun l S ts S' e => by cases e; rfl⟩
    | cons _ _ => cases h
  | .cons a r, N, sc, fn, xs, h => by
    cases xs with
    | nil => cases h
    | cons x xs =>
      simp only [chk, Bool.and_eq_true] at h
      obtain ⟨i1, i2⟩ := ev_cnt r h.2
      refine ⟨by simp [E.cnt, i1], fun l S ts S' e => ?_⟩
      simp only [ev, bindE, argsE] at e
      split at e
      · cases e
      · cases e
      · rename_i S1 _
        split at e
        · cases e
        · cases e
        · rename_i t S2 q
          cases t with
          | lst us =>
            cases e
            have := i2 _ _ _ _ q
            simp [this]
          | _ => cases e
  | .consV a b r, N, sc, fn, xs, h => by
    cases xs with
    | nil => cases h
    | cons x xs =>
      simp only [chk] at h
      split at h
      case h_2 => cases h
      rename_i x1 y1 p1 ys e0
      cases e0
      simp only [Bool.and_eq_true] at h
      obtain ⟨i1, i2⟩ := ev_cnt r h.2
      refine ⟨by simp [E.cnt, i1], fun l S ts S' e => ?_⟩
      simp only [ev, bindE, argsE] at e
      split at e
      · cases e
      · cases e
      · rename_i S1 _
        split at e
        · cases e
        · cases e
        · rename_i t S2 q
          cases t with
          | lst us =>
            cases e
            have := i2 _ _ _ _ q
            simp [this]
          | _ => cases e
  | .consR s a b o y z t, N, sc, fn, xs, h => by
    simp only [chk] at h
    split at h
    case h_2 => cases h
    rename_i e0
    cases e0
    simp only [Bool.and_eq_true] at h
    obtain ⟨i1, i2⟩ := ev_cnt t h.2
    refine ⟨by simp [E.cnt, i1], fun l S ts S' e => ?_⟩
    simp only [ev] at e
    have := cnt_step (cnt_step (cnt_step (cnt_step i2))) _ _ _ _ e
    simp [this]
  | .var _, _, _, _, _, h | .gc _ _, _, _, _, _, h | .int _, _, _, _, _, h | .str _, _, _, _, _, h | .bl _, _, _, _, _, h | .non, _, _, _, _, h | .bin _ _ _ _, _, _, _, _, h | .neg _, _, _, _, _, h | .not _, _, _, _, _, h
  | .cmp _ _ _, _, _, _, _, h | .chain _ _ _ _ _, _, _, _, _, h | .inr _ _ _, _, _, _, _, h | .inrO _ _ _, _, _, _, _, h | .and _ _, _, _, _, _, h | .or _ _, _, _, _, _, h | .one _, _, _, _, _, h | .ite _ _ _, _, _, _, _, h | .tup _, _, _, _, _, h | .lst _ _, _, _, _, _, h
  | .dnew _ _, _, _, _, _, h | .idx _ _, _, _, _, _, h | .sl _ _ _ _, _, _, _, _, h | .rev _ _, _, _, _, _, h | .nop, _, _, _, _, h | .call _ _ _ _, _, _, _, _, h | .callV _ _ _ _, _, _, _, _, h | .sset _ _, _, _, _, _, h | .trng _, _, _, _, _, h | .dlit _ _, _, _, _, _, h | .dget _ _, _, _, _, _, h | .bi _ _ _, _, _, _, _, h | .isi _ _, _, _, _, _, h | .comp _ _ _ _ _ _, _, _, _, _, h
  | .lenset _, _, _, _, _, h | .seq _, _, _, _, _, h | .rng _, _, _, _, _, h | .enum _, _, _, _, _, h | .zip _ _, _, _, _, _, h | .meth _ _ _, _, _, _, _, h | .sseq _, _, _, _, _, h | .join _ _, _, _, _, _, h | .split _ _, _, _, _, _, h | .low _, _, _, _, _, h | .upp _, _, _, _, _, h => by cases h
theorem tgs_ok (G : Good M XR lv N sc fn X W) : ∀ {is : List Nat} {xs : List Expr}, tgC.tgs N sc fn is xs = true → PGs X xs (gNames is) ∧ (assignEach xs X.env).length = is.length ∧ (assignEach xs X.env).findIdx? (·.1) = none
  | [], [], _ => ⟨pgs_nil, rfl, rfl⟩
  | [], _ :: _, h => by simp [tgC.tgs] at h
  | _ :: _, [], h => by simp [tgC.tgs] at h
  | i :: is, x :: xs, h => by
    cases x with
    | Name y p =>
      simp only [tgC.tgs, Bool.and_eq_true, beq_iff_eq] at h
      obtain ⟨l1, l2⟩ := loc_ok G h.1.2
      obtain ⟨a, b, c⟩ := tgs_ok G h.2
      refine ⟨pgs_cons (pg_name G.nodup (by rw [G.N]; exact h.1.1) l1 l2) a rfl, ?_, ?_⟩
      · show (_ :: assignEach xs X.env).length = _
        simp [b]
      · show ((_ :: assignEach xs X.env : List _)).findIdx? _ = none
        rw [List.findIdx?_cons]
        simp [c]
    | _ => simp [tgC.tgs] at h
def gOf (K : PySem.W.Frag) : Tg → TG
  | .name i => gName i
  | .tup is => gTup K is.length (gNames is)
theorem gok_of {K : PySem.W.Frag} (tg : Tg) : GOk K tg (gOf K tg) := by
  cases tg with
  | name i => exact gok_name i
  | tup is => exact gok_tup is
theorem tg_ok (G : Good M XR lv N sc fn X W) {tg : Tg} {x : Expr} (h : tgC N sc fn tg x = true) : PG X x (gOf X.K tg) := by
  cases tg with
  | name i =>
    cases x with
    | Name y p =>
      simp only [tgC, Bool.and_eq_true, beq_iff_eq] at h
      obtain ⟨l1, l2⟩ := loc_ok G h.2
      exact pg_name G.nodup (by rw [G.N]; exact h.1) l1 l2
    | _ => cases h
  | tup is =>
    cases x with
    | Tuple xs k p =>
      obtain ⟨a, b, c⟩ := tgs_ok G (show tgC.tgs N sc fn is xs = true from h)
      exact pg_tup G.calm a b c
    | _ => cases h
end
section
variable {P : Program} {w : World} {A : Around} {E : Value → Shared → Prop} {s : Shared}
abbrev setObj0 (w : World) : Obj := { cls := .type "set", dict := none, data := .set #[] 0 (.fresh 0 0 (!w.params.followText "set-order")) }
abbrev heapS (w : World) (h : Heap) : Heap := h.push (setObj0 w)
abbrev SetMade (w : World) (s : Shared) (ns : List Int) : Value → Shared → Prop := fun r s2 => r = .none ∧ ∃ hp tk c, s2 = { s with heap := hp, toks := tk } ∧ SetR w hp s.heap.objs.size (fun j => decide (j ∈ ns)) c ∧ c ≤ ns.length ∧ (∀ b o, s.heap.get? b = some o → hp.get? b = some o)
set_option maxHeartbeats 3200000 in
theorem init_set_list {B : Around} {l : Addr} {its : Array Value} {ns : List Int} (hB : B.handled = none) (hl : s.heap.IsList l its) (hit : IntsAre its.toList ns) (hb : ns.length + 1 < scanBound) :
    wpAny (model P w) B (Builtin.«set.__init__» ⟨[.ref s.heap.objs.size, .ref l], []⟩) (fun f s2 => ∃ r, f = .done (.ret r) ∧ SetMade w s ns r s2) E { s with heap := heapS w s.heap } := by
  have hsz : its.size = ns.length := by rw [← hit.length, Array.length_toList]
  obtain ⟨⟨c0, d0, x0, sl0⟩, hol, hc0, m, hd0⟩ := hl
  obtain rfl : c0 = _ := hc0
  obtain rfl : x0 = _ := hd0
  have getS : (heapS w s.heap).get? s.heap.objs.size = some (setObj0 w) := Heap.get?_push_size _ rfl
  have getL : (heapS w s.heap).get? l = some { cls := .type "list", dict := d0, data := .seq its m, slots := sl0 } := Heap.get?_push_of_some _ hol
  have lt : l < s.heap.objs.size := Heap.lt_size hol
  have listL : (heapS w s.heap).IsList l its := ⟨_, getL, rfl, m, rfl⟩
  have z : (heapS w s.heap).objs.size = s.heap.objs.size + 1 := Heap.size_push ..
  have f1 := F.sub_list_set
  have f2 := F.sub_list_frozenset
  have f3 : (Value.type "list" == Value.type "dict") = false := by decide
  have hne : l ≠ (heapS w s.heap).objs.size := by rw [z]; exact Nat.ne_of_lt (Nat.lt_succ_of_lt lt)
  have out1 : s.heap.objs.size ∉ [(heapS w s.heap).objs.size, l] := by
    rw [z]
    simp only [List.mem_cons, List.not_mem_nil, or_false, not_or]
    exact ⟨Nat.ne_of_lt (Nat.lt_succ_self _), Nat.ne_of_gt lt⟩
  have vals : ∀ (i : Nat) (v : Value), its[i]? = some v → ∃ k t, ns[i]? = some k ∧ v = .int k t := fun i v hv => by
    have li : i < ns.length := by rw [← hsz]; exact (Array.getElem?_eq_some_iff.mp hv).1
    obtain ⟨t, e⟩ := hit.int_at i v (by rw [Array.getElem?_toList]; exact hv)
    rw [List.getD_eq_getElem?_getD, List.getElem?_eq_getElem li] at e
    exact ⟨ns[i], t, List.getElem?_eq_getElem li, e⟩
  unfold Builtin.«set.__init__» noKeywords Builtin.Frozenset.updateFrom
  generalize hp : pyIter = PI
  wp_walk
  subst hp
  refine wpAny_pyIter_list listL (wpAny_bind (wpAny_runValue ?_))
  refine set_update_ints ((Walks.list (by simp [hB]) _ l hne its).toS) s.heap.objs.size out1 ns hsz hb vals its.size 0 _ rfl (Nat.zero_le _) ⟨⟨_, Heap.get?_push_size _ rfl, rfl, rfl⟩, listL.push _⟩ ⟨0, Nat.le_refl 0, setR_new_at (Heap.get?_push_of_some _ getS)⟩ fun s2 c mv hc hS => ?_
  obtain ⟨h2, g2, d2, t2, o2⟩ := s2
  obtain rfl : g2 = s.gens := mv.gens
  obtain rfl : d2 = s.drawn := mv.drawn
  obtain rfl : o2 = s.os := mv.os
  refine wpAny_pure ?_
  refine wpAny_pure ⟨_, rfl, rfl, h2, t2, c, rfl, hS, by omega, fun b o e => ?_⟩
  have lb := Heap.lt_size e
  refine mv.heap b o ?_ (Heap.get?_push_of_some _ (Heap.get?_push_of_some _ e))
  rw [z]
  simp only [List.mem_cons, List.not_mem_nil, or_false, not_or]
  exact ⟨Nat.ne_of_lt lb, Nat.ne_of_lt (Nat.lt_succ_of_lt lb)⟩
set_option maxHeartbeats 3200000 in
theorem call_set_lst {l : Addr} {its : Array Value} {ns : List Int} {Q : Value → Shared → Prop} (hA : A.handled = none) (hl : s.heap.IsList l its) (hit : IntsAre its.toList ns) (hb : ns.length + 1 < scanBound)
    (fin : ∀ s2, SetMade w s ns .none s2 → Q (.ref s.heap.objs.size) s2) : wpAny (model P w) A (call (.type "set") [.ref l]) Q E s := by
  have T := F.called_set
  obtain ⟨c, tl, g0⟩ := T.mro
  have g1 := T.made
  have g2 := T.sub
  have g3 := T.notType
  have g4 := T.canCreate
  have g5 := F.typeCall_set_1 (.ref l)
  have g6 := T.init.lookup
  have g7 := T.init.bind (.ref s.heap.objs.size)
  refine wpAny_call (codeAny_of_tree (wpAny_pure ⟨Code.quiet_builtin _ (by decide +kernel), codeAny_builtin F.entry_type_call ?_⟩))
  rw [Around.under_plain (weight_type_call_type "set" [.ref l] []) rfl]
  repeat (any_goals (first | assumption | wp_step))
  refine codeAny_mono (code_set_led1 (.ref l) (E := E) (Q₁ := fun o s1 => o = .ref s.heap.objs.size ∧ s1 = { s with heap := heapS w s.heap }) ⟨rfl, rfl⟩) fun r s1 hr => ?_
  cases r with
  | error e => exact hr
  | ok fl =>
    cases fl with
    | ret o =>
      obtain ⟨e1, e2⟩ := hr
      subst e1
      subst e2
      have tS : Shared.TypeIs { s with heap := heapS w s.heap } (.ref s.heap.objs.size) "set" := ⟨_, Heap.get?_push_size _ rfl, rfl⟩
      repeat (any_goals (first | assumption | wp_step))
      refine codeAny_mono (codeAny_call_builtin (R := wants (SetMade w s ns) E) T.init.plain F.entry_set_init (check_set_init_1 tS ?_)) fun r2 s2 h2 => ?_
      · refine wpAny_mono (init_set_list (by simp [hA]) hl hit hb) (fun f s2 h => ?_) fun _ _ z => z
        obtain ⟨r, e, h⟩ := h
        subst e
        exact h
      · cases r2 with
        | error e => exact h2
        | ok f2 =>
          cases f2 with
          | ret r =>
            have er : r = .none := h2.1
            subst er
            have q := fin s2 h2
            repeat (any_goals (first | assumption | wp_step))
          | _ => exact h2.elim
    | _ => exact hr.elim
end
section
variable {X : Cx}
def tSset (K : PySem.W.Frag) (ta : TE) : TE := fun σ H Q => ta σ H fun x H1 => ∃ (l : Addr) (ns : List Int), x = .ref l ∧ SqL K H1 l (ns.map V.int) ∧ ns.length < 60 ∧ ∀ p, H1 p = none → Q (.ref p) (L2.upd H1 p (.lst ((sortI (ded ns)).map V.int)))
theorem sorted_lt_unique : ∀ {l m : List Int}, l.Pairwise (· < ·) → m.Pairwise (· < ·) → (∀ k, k ∈ l ↔ k ∈ m) → l = m
  | [], [], _, _, _ => rfl
  | [], y :: m, _, _, h => by have := (h y).mpr List.mem_cons_self; cases this
  | x :: l, [], _, _, h => by have := (h x).mp List.mem_cons_self; cases this
  | x :: l, y :: m, h1, h2, h => by
    obtain ⟨a1, a2⟩ := List.pairwise_cons.mp h1
    obtain ⟨b1, b2⟩ := List.pairwise_cons.mp h2
    have e : x = y := by
      rcases List.mem_cons.mp ((h x).mp List.mem_cons_self) with e | e
      · exact e
      · rcases List.mem_cons.mp ((h y).mpr List.mem_cons_self) with e2 | e2
        · exact e2.symm
        · have := a1 y e2
          have := b1 x e
          omega
    subst e
    rw [sorted_lt_unique a2 b2 fun k => ?_]
    constructor
    · intro hk
      rcases List.mem_cons.mp ((h k).mp (List.mem_cons_of_mem _ hk)) with e | e
      · have := a1 k hk; omega
      · exact e
    · intro hk
      rcases List.mem_cons.mp ((h k).mpr (List.mem_cons_of_mem _ hk)) with e | e
      · have := b1 k hk; omega
      · exact e
theorem sorted_strict : ∀ {l : List Int}, l.Pairwise (· ≤ ·) → l.Nodup → l.Pairwise (· < ·)
  | [], _, _ => .nil
  | x :: l, h, nd => by
    obtain ⟨a1, a2⟩ := List.pairwise_cons.mp h
    obtain ⟨b1, b2⟩ := List.nodup_cons.mp nd
    refine .cons (fun y hy => ?_) (sorted_strict a2 b2)
    have := a1 y hy
    have : x ≠ y := fun e => b1 (by rw [e]; exact hy)
    omega
theorem pe_sset {a : Expr} {ta : TE} {p p2 q pos : Pos} (hc : X.calm = true) (hg : Gl X "sorted") (hm : X.mg "sorted" = none) (hg2 : Gl X "set") (hm2 : X.mg "set" = none) (ha : PE X a ta)
    (na : starEach [a] X.env = (false, eval a X.env) :: starEach [] X.env) : PE X (.Call (.Name "sorted" p) [.Call (.Name "set" p2) [a] [] q] [] pos) (tSset X.K ta) := by
  refine ⟨fun pins s σ H Q I h => ?_⟩
  refine Call_ (ld_blt I hg hm boot_sorted ?_)
  refine PyProof.Rows.callWith_builtin1 (PyProof.Rows.args_cons ?_ rfl) rfl rfl
  refine Call_ (ld_blt I hg2 hm2 boot_set ?_)
  refine PyProof.Rows.callWith_type1 (PyProof.Rows.args_cons (thn (ha.run pins s σ H _ I h) fun v s1 ⟨x, H1, I1, r1, q1⟩ => PyProof.Rows.args_nil ?_) na) na rfl
  obtain ⟨l, ns, rfl, hq, hl, q1⟩ := q1
  cases r1
  obtain ⟨its, rv, pl, hz⟩ := I1.list hq
  refine call_set_lst (I1.ok.hd hc) pl.isList (ints_of_vals rv) (by unfold scanBound; omega) fun s2 z2 => ?_
  obtain ⟨_, hp, tk, c, rfl, R1, hcn, k⟩ := z2
  refine PyProof.Rows.args_nil ?_
  have I2 : Inv X pins σ H1 { s1 with heap := hp, toks := tk } := I1.kept k
  refine sorted_set R1 (I2.ok.hd hc) (by omega) fun s3 d out n ms kk eg eo hle hd hi hs hk hn => ?_
  have free : H1 d = none := I2.hok.fresh hle
  have len : (ms.map V.int).length ≤ sizeLine := by rw [List.length_map, hn, sizeLine_eq]; omega
  have J : Inv X pins σ (L2.upd H1 d (.lst (ms.map V.int))) s3 := I2.call' (s' := s3) (ch := []) eo (Un.laid kk hle free) (I2.hok.laid kk hle ⟨len, out.toList, n, vals_of_ints hi, hd⟩) (by rw [eg]; exact I2.bare) (fun _ z => nomatch z)
  have em : ms = sortI (ded ns) := sorted_lt_unique hs (sorted_strict (sortI_sorted _) ((sortI_perm _).nodup_iff.mpr (nd_ded ns))) fun k => by rw [hk k, decide_eq_true_eq, (sortI_perm _).mem_iff, mem_ded]
  refine ⟨.ref d, _, J, rfl, ?_⟩
  rw [em]
  exact q1 d free
theorem sset_lift {K : PySem.W.Frag} {XR : XRel} {W : WX} {σ : L2.St} {H : Hp} {Q : VK} {nw : Bool} {fa : SE} (h : liftE K XR W (bindE fa fun x => fun l S => outR nw (ssetF x S) l S) σ H Q) : tSset K (liftE K XR W fa) σ H Q := by
  refine lift_mono (fun x H1 h1 => ?_) (lift_bind0 h)
  obtain ⟨Z, ι, S, l, t, R, sl, i, p⟩ := lift1 h1
  obtain ⟨r, e, ok⟩ := out_ok R p
  unfold ssetF at e
  split at e
  · rename_i ns q
    split at e
    · rename_i hl
      cases e
      obtain ⟨a, rfl, hs⟩ := lints_ok R i q
      exact ⟨a, ns, rfl, hs, hl, fun d hd => ok _ d (isAll_ints _) hd⟩
    · cases e
  · cases e
end
section
variable {M : Md} {XR : XRel} {lv : Nat} {N : List Str} {sc : Scope} {fn : Str → Bool} {X : Cx} {W : WX}
theorem ht_of {fe e : Expr} {es : List Expr} {pos : Pos} {env : Env} (h : vfC fe = true) : eval (.Call fe (e :: es) [] pos) env = (do callWith pos (← eval fe env) [] (backTo pos (starEach (e :: es) env)) (backToKw pos (keywordEach [] env))) := by
  cases fe <;> first | rfl | cases h
structure FnAt (M : Md) (XR : XRel) (lv : Nat) (ar : Nat) (a : Addr) (F : FnS) : Prop where
  ex : ∃ (fd : FuncData) (ps : List Str) (k : Nat), k ≤ lv ∧ FnOk M.prog M.w M.K M.mg M.base (L2N.CX M.prog M.w) k a fd ps (spT M.K XR ar F) ∧ PySem.W.keepIn M.K (.ref a) = true ∧ Binds M.K fd ps []
theorem fnAt_of {x : Str} {ar : Nat} {a : Addr} {F : FnS} (hm : M.mg x = some (.ref a)) (h : FnNeed M XR lv x ar F) : FnAt M XR lv ar a F := by
  obtain ⟨f, fd, ps, k, h1, h2, h3, h4, h5⟩ := h
  rw [hm] at h3
  cases h3
  exact ⟨fd, ps, k, h1, h2, h4, h5⟩
def tCallP (pick : Addr → Option Sp) (E : L2.St → XK) (tf : TE) (t : TA) : TE := fun σ H Q => tf σ H fun y H1 => ∃ a sp, y = V.ref a ∧ pick a = some sp ∧ t σ H1 fun vs H2 => sp vs H2 Q (E σ)
theorem pe_callP {pick : Addr → Option Sp} {fe e : Expr} {es : List Expr} {pos : Pos} {tf : TE} {t : TA} {k : Nat} (hr : ∀ j, j ≤ k → Room j X.A)
    (hp : ∀ a sp, pick a = some sp → ∃ (fd : FuncData) (ps : List Str) (j : Nat), j ≤ k ∧ FnOk X.prog X.w X.K X.mg X.base (L2N.CX X.prog X.w) j a fd ps sp ∧ PySem.W.keepIn X.K (.ref a) = true ∧ Binds X.K fd ps [])
    (hf : PE X fe tf) (ha : PA X (e :: es) t) (hx : ∀ σ, PassesAt (L2N.CX X.prog X.w) X σ (WE W σ)) (hv : vfC fe = true) (he : isStarred e = false) (hes : es.all notStar = true) : PE X (.Call fe (e :: es) [] pos) (tCallP pick (WE W) tf t) := by
  refine ⟨fun pins s σ H Q I h => ?_⟩
  refine Call_ (thn (hf.run pins s σ H _ I h) fun u s1 ⟨y, H1, I1, ry, a, sp, ey, hpick, q⟩ => ?_) (ht_of hv)
  subst ey
  obtain rfl : u = Value.ref a := ry
  obtain ⟨fd, ps, j, hj, F, hk, hb⟩ := hp a sp hpick
  refine PySem.W.callWith_K (h₀ := X.base) I1.ok.mod.kin hk (thn (ha.run pos pins s1 σ H1 _ I1 q) fun us s2 ⟨vs, H2, I2, r, q2⟩ => ⟨I2.kIn, ?_⟩) (star1 he) (star_none hes)
  exact run_fnS F (hr j hj) hb (hx σ) I2 r q2
theorem pickF_mem {a : Addr} {F : FnS} : ∀ {tbl : List (Addr × Str × FnS)}, pickF a tbl = some F → ∃ p ∈ tbl, p.1 = a ∧ F = p.2.2
  | [], h => by cases h
  | p :: r, h => by
    unfold pickF at h
    split at h
    · rename_i e
      cases h
      exact ⟨p, List.mem_cons_self, e, rfl⟩
    · obtain ⟨q, h1, h2⟩ := pickF_mem h
      exact ⟨q, List.mem_cons_of_mem _ h1, h2⟩
theorem callV_ok {keep : Bool} {tbl : List (Addr × Str × FnS)} {fe args : E} {pos : Pos} {x e : Expr} {es : List Expr} (G : Good M XR lv N sc fn X W) (hv : vfC x = true)
    (hs : isStarred e = false) (hes : es.all notStar = true) (hc : chk N args sc fn (.args (e :: es)) = true) (hf : PE X x (liftE X.K XR W (ev fe))) (ha : PA X (e :: es) (liftA X.K XR W (ev args)))
    (hn : ∀ p ∈ tbl, M.mg p.2.1 = some (.ref p.1) ∧ FnNeed M XR lv p.2.1 args.cnt p.2.2) :
    PE X (.Call x (e :: es) [] pos) (liftE X.K XR W (ev (.callV keep tbl fe args))) := by
  have hmd := G.md
  subst hmd
  obtain ⟨hcnt, hlen⟩ := ev_cnt args hc
  refine TL.PE.imp (pe_callP (pick := fun a => (pickF a tbl).map (spT X.K XR args.cnt)) (k := lv) (fun j hj => G.room.mono hj) (fun a sp h => ?_) hf ha (L2N.passAt G.tk) hv hs hes) fun σ H Q h => ?_
  · cases q : pickF a tbl with
    | none => simp only [q] at h; cases h
    | some F =>
      simp only [q] at h
      cases h
      obtain ⟨p, hp, rfl, rfl⟩ := pickF_mem q
      obtain ⟨h1, h2⟩ := hn p hp
      exact (fnAt_of h1 h2).ex
  · refine lift_mono (fun y H1 h1 => ?_) (lift_bind0 h)
    obtain ⟨Z, ι, S, l, t, R, sl, i, p⟩ := lift1 h1
    cases e1 : pickT tbl t with
    | none => rw [e1] at p; exact p.elim
    | some F =>
      rw [e1] at p
      cases t with
      | fn a =>
        have ey : y = V.ref a := by cases i; rfl
        have q : pickF a tbl = some F := e1
        refine ⟨a, spT X.K XR args.cnt F, ey, by simp only [q]; rfl, ?_⟩
        have p' : liftE X.K XR W (argsE (ev args) fun ts => callE keep F ts) σ H1 Q := ⟨Z, ι, S, l, [], R, sl, .nil, p⟩
        refine liftA_mono (fun vs H2 h2 => ?_) (args_bindN hlen p')
        obtain ⟨hl, Z, ι, S, l, ts, R, sl, ia, p⟩ := h2
        have := call_post G.xo R ia p
        rw [hl, ← hcnt] at this
        exact this
      | _ => cases e1
end
section
variable {K : PySem.W.Frag} {Z : Addr → Prop} {H : Hp} {ι : Nat → Addr} {S : Sto} {XR : XRel} {W : WX} {σ : L2.St} {Q : VK}
theorem Rel.adoptK {D : Addr} {ks : List Key} {vs : List V} {ts : List T} (R : Rel K (fun a => Z a ∨ a = D) ι S H) (hD : H D = some (.dK (ks.zip vs))) (hl : ks.length = vs.length) (hz : ¬ Z D) (ia : IsAll K (fun a => Z a ∨ a = D) H ι S.length vs ts) :
    Rel K Z (fun i => if i = S.length then D else ι i) (S ++ [.dK (ks.zip ts)]) H := by
  have ne : ∀ i, i < S.length → ι i ≠ D := fun i hi q => R.nz i hi (.inr q)
  refine ⟨fun i j hi hj e => ?_, fun i o e => ?_, fun a z => R.zt a (.inl z), fun i hi z => ?_⟩
  · simp only [List.length_append, List.length_singleton] at hi hj
    by_cases h1 : i = S.length
    · by_cases h2 : j = S.length
      · rw [h1, h2]
      · rw [if_pos h1, if_neg h2] at e
        exact absurd e.symm (ne j (by omega))
    · by_cases h2 : j = S.length
      · rw [if_neg h1, if_pos h2] at e
        exact absurd e (ne i (by omega))
      · rw [if_neg h1, if_neg h2] at e
        exact R.inj i j (by omega) (by omega) e
  · have el : (S ++ [Ob.dK (ks.zip ts)]).length = S.length + 1 := by simp
    rw [el]
    by_cases h1 : i = S.length
    · have eo : o = Ob.dK (ks.zip ts) := by
        rw [h1] at e
        simpa using e.symm
      rw [eo, if_pos h1]
      exact .dK hD hl (IsAll.adopt ia)
    · have hi : i < S.length := by
        have := (List.getElem?_eq_some_iff.mp e).1
        simp at this
        omega
      rw [List.getElem?_append_left hi] at e
      rw [if_neg h1]
      have ob := R.obj i o e
      cases ob with
      | lst e1 hs => exact .lst e1 (IsAll.adopt hs)
      | dK e1 hl hs => exact .dK e1 hl (IsAll.adopt hs)
      | dT e1 hl hs => exact .dT e1 hl (IsAll.adopt hs)
  · by_cases h1 : i = S.length
    · rw [if_pos h1] at z
      exact hz z
    · rw [if_neg h1] at z
      exact R.nz i (by simp at hi; omega) (.inl z)
theorem orF_lift {fa fb : SE} (h : liftE K XR W (orF fa fb) σ H Q) : tOrT K (liftE K XR W fa) (liftE K XR W fb) σ H Q := by
  obtain ⟨Z, ι, S, l, ts, R, sl, ia, post⟩ := h
  have post : Post K XR W Z ι S.length H σ Q (orF fa fb l S) := post
  unfold orF at post
  refine ⟨Z, ι, S, l, [], R, sl, .nil, ?_⟩
  show Post K XR W _ ι S.length _ σ _ (fa l S)
  cases e1 : fa l S with
  | none => rw [e1] at post; exact post
  | some r1 =>
    obtain ⟨r1, S1⟩ := r1
    rw [e1] at post
    cases r1 with
    | err x => exact post.elim
    | ok t =>
      have go : ∀ {ι1 : Nat → Addr} {H1 : Hp}, Step ι S.length H ι1 S1.length H1 → Rel K Z ι1 S1 H1 → Post K XR W Z ι S.length H σ Q (match fb l S1 with
          | some (.ok (.int j), S2) => some (.ok (.int j), S2)
          | _ => none) → liftE K XR W fb σ H1 Q := by
        intro ι1 H1 st1 R1 post
        refine ⟨Z, ι1, S1, l, [], R1, Sl.step R st1 sl, .nil, ?_⟩
        show Post K XR W _ ι1 S1.length _ σ _ (fb l S1)
        cases e2 : fb l S1 with
        | none => rw [e2] at post; exact post
        | some r2 =>
          obtain ⟨r2, S2⟩ := r2
          rw [e2] at post
          cases r2 with
          | err x => exact post.elim
          | ok u =>
            cases u <;> first | exact post.elim | skip
            exact Post.of_step st1 post
      cases t <;> first | exact post.elim | skip
      · intro ι1 H1 y st1 R1 iy
        cases iy
        exact ⟨false, rfl, go st1 R1 post⟩
      · rename_i i
        intro ι1 H1 y st1 R1 iy
        cases iy
        refine ⟨i != 0, rfl, ?_⟩
        dsimp only at post
        by_cases c : i = 0
        · subst c
          rw [if_pos rfl] at post
          exact go st1 R1 post
        · rw [if_neg c] at post
          rw [if_pos (by simpa using c)]
          exact post ι1 H1 (.int i) st1 R1 (.int i)
theorem dlit_lift {k v : E} (h : liftE K XR W (ev (.dlit k v)) σ H Q) : tDisp [(liftE K XR W (ev k), liftE K XR W (ev v))] σ H Q := by
  intro p hp
  obtain ⟨Z, ι, S, l, ts, R, sl, ia, post⟩ := h
  have post : Post K XR W Z ι S.length H σ Q (ev (.dlit k v) l S) := post
  simp only [ev] at post
  have nz : ¬ Z p := Rel.notZ R hp
  have R1 := R.more (o := .dK []) hp
  have hz : ∀ a o, H a = some o → (Z a ∨ a = p) → Z a := fun a o h q => q.elim id fun q => by rw [q, hp] at h; cases h
  have sl1 : Sl K (fun a => Z a ∨ a = p) (L2.upd H p (.dK [])) ι S.length σ l := Sl.stepZ R hz (Step.fresh hp) sl
  refine ⟨fun a => Z a ∨ a = p, ι, S, l, [], R1, sl1, .nil, ?_⟩
  show Post K XR W _ ι S.length _ σ _ (ev k l S)
  cases e1 : ev k l S with
  | none => rw [e1] at post; exact post
  | some r1 =>
    obtain ⟨r1, S1⟩ := r1
    rw [e1] at post
    cases r1 with
    | err x => exact post.elim
    | ok x =>
      intro ι1 H1 y st1 Rk ix
      refine ⟨fun a => Z a ∨ a = p, ι1, S1, l, [], Rk, Sl.step R1 st1 sl1, .nil, ?_⟩
      show Post K XR W _ ι1 S1.length _ σ _ (ev v l S1)
      dsimp only at post
      cases e2 : ev v l S1 with
      | none => rw [e2] at post; exact post
      | some r2 =>
        obtain ⟨r2, S2⟩ := r2
        rw [e2] at post
        cases r2 with
        | err x => exact post.elim
        | ok t =>
          intro ι2 H2 z st2 Rv iz
          dsimp only at post
          cases e3 : T.key x with
          | none => rw [e3] at post; exact post.elim
          | some q =>
            rw [e3] at post
            have hD1 : H1 p = some (.dK []) := st1.keep p _ upd_same (Rel.free R hp)
            have hD2 : H2 p = some (.dK []) := st2.keep p _ hD1 fun j hj e => Rk.nz j hj (.inr e)
            refine ⟨hD2, [(q, z)], by rw [key_ok ix e3]; rfl, by simp, ?_⟩
            have R2 := Rel.updZ (o := .dK [(q, z)]) hD2 (fun vs e => by cases e) (.inr rfl) (fun j hj e => Rv.nz j hj (.inr e)) Rv
            have i2 : Is K (fun a => Z a ∨ a = p) (L2.upd H2 p (.dK [(q, z)])) ι2 S2.length z t := Is.updZ hD2 (fun vs e => by cases e) (.inr rfl) iz
            have R3 := Rel.adoptK (ks := [q]) (vs := [z]) (ts := [t]) R2 upd_same rfl nz (.one i2)
            have s1 : Step ι S.length H ι1 S1.length H1 := (Step.fresh hp).trans st1
            have s2 := s1.trans st2
            have s3 : Step ι S.length H ι2 S2.length (L2.upd H2 p (.dK [(q, z)])) := ⟨s2.le, s2.ext, s2.new, fun a u e hn => by
              rw [upd_ne (ne_of_none e hp)]; exact s2.keep a u e hn, fun a u e => by
              rw [upd_ne (ne_of_none e hp)]; exact s2.there a u e⟩
            have s4 := Step.adopt s3 hp
            have el : (S2 ++ [Ob.dK [(q, t)]]).length = S2.length + 1 := by simp
            have fin := post (fun i => if i = S2.length then p else ι2 i) (L2.upd H2 p (.dK [(q, z)])) (.ref p) (by rw [el]; exact s4) R3
            refine fin ?_
            have ed : V.ref p = V.ref ((fun i => if i = S2.length then p else ι2 i) S2.length) := by simp
            rw [ed, el]
            exact .ref (Nat.lt_succ_self _)
theorem isD_of {a : Addr} {n : Nat} {d : DV} (h : DIs K Z H ι n a d) : IsD H a := by
  cases h with
  | k e _ _ => exact .inl ⟨_, .of e⟩
  | t e _ _ => exact .inr ⟨_, .of e⟩
theorem dget_lift {o k : E} (h : liftE K XR W (ev (.dget o k)) σ H Q) : tDGet1 (liftE K XR W (ev o)) (liftE K XR W (ev k)) σ H Q := by
  have h : liftE K XR W (bindE (ev o) fun x => fun l S => if (S.dict x).isSome then bindE (ev k) (fun y => fun _ S => match S.dict x with
    | some d => match d.look y with
      | some o => some (.ok (o.getD .non), S)
      | none => none
    | none => none) l S else none) σ H Q := h
  refine lift_mono (fun x H1 h1 => ?_) (lift_bind0 h)
  obtain ⟨Z, ι, S, l, t, R, sl, i, p⟩ := lift1 h1
  cases e1 : S.dict t with
  | none => rw [e1] at p; exact p.elim
  | some d =>
    obtain ⟨a, rfl, hd⟩ := dict_ok R i e1
    refine ⟨a, rfl, isD_of hd, ?_⟩
    rw [e1] at p
    simp only [Option.isSome_some, if_true, bindE] at p
    refine ⟨Z, ι, S, l, [], R, sl, .nil, ?_⟩
    show Post K XR W Z ι S.length H1 σ _ (ev k l S)
    cases e2 : ev k l S with
    | none => rw [e2] at p; exact p.elim
    | some r =>
      obtain ⟨r, S2⟩ := r
      rw [e2] at p
      cases r with
      | err x => exact p
      | ok u =>
        intro ι2 H2 y st R2 iy
        dsimp only at p
        cases e3 : S2.dict t with
        | none => rw [e3] at p; exact p.elim
        | some d2 =>
          rw [e3] at p
          dsimp only at p
          cases e4 : d2.look u with
          | none => rw [e4] at p; exact p.elim
          | some o =>
            rw [e4] at p
            obtain ⟨a2, ea, hd2⟩ := dict_ok R2 (Is.step R st i) e3
            cases ea
            obtain ⟨o', g, z⟩ := look_ok hd2 iy e4
            refine ⟨o', g, ?_⟩
            rcases z with ⟨rfl, rfl⟩ | ⟨v, t', rfl, rfl, iv⟩
            · exact p ι2 H2 .non st R2 .non
            · exact p ι2 H2 v st R2 iv
theorem trng_lift {fa : SE} (h : liftE K XR W (bindE fa fun x => match x with
    | .int n => if -1000000 ≤ n ∧ n ≤ 1000000 then retE (.tup (intRange 0 n)) else noneE
    | _ => noneE) σ H Q) : tTupRg (tRg1 (liftE K XR W fa)) σ H Q := by
  refine lift_mono (fun x H1 h1 => ?_) (lift_bind0 h)
  obtain ⟨Z, ι, S, l, t, R, sl, i, p⟩ := lift1 h1
  cases t with
  | int n =>
    dsimp only at p
    by_cases g : -1000000 ≤ n ∧ n ≤ 1000000
    · rw [if_pos g] at p
      refine ⟨n, is_int i, ⟨by decide, by decide, by omega, by omega, by omega⟩, fun d hd => ?_⟩
      have ia : IsAll K Z H1 ι S.length (rgV 0 n) (intRange 0 n) := by
        have e1 : rgV 0 n = ((List.range (n - 0).toNat).map fun i => (0 : Int) + (i : Nat)).map V.int := by unfold rgV; rw [List.map_map]; rfl
        have e2 : intRange 0 n = ((List.range (n - 0).toNat).map fun i => (0 : Int) + (i : Nat)).map T.int := by unfold intRange; rw [List.map_map]; rfl
        rw [e1, e2]
        exact isAll_ints _
      exact p ι _ _ (Step.fresh hd) (R.fresh hd) (.tup upd_same (ia.fresh R hd))
    · rw [if_neg g] at p
      exact p.elim
  | _ => exact p.elim
end
end TL
namespace L2
theorem PE.imp {X : Cx} {e : PySem.Expr} {t t' : TE} (h : PE X e t) (i : ∀ σ H Q, t' σ H Q → t σ H Q) : PE X e t' := TL.PE.imp h i
theorem PT.imp {X : Cx} {e : PySem.Expr} {t t' : TT} (h : PT X e t) (i : ∀ σ H Q, t' σ H Q → t σ H Q) : PT X e t' := TL.PT.imp h i
theorem PA.imp {X : Cx} {e : List PySem.Expr} {t t' : TA} (h : PA X e t) (i : ∀ σ H Q, t' σ H Q → t σ H Q) : PA X e t' := TL.PA.imp h i
theorem PS.imp {X : Cx} {e : PySem.Stmt} {t t' : TS} (h : PS X e t) (i : ∀ D σ H, t' D σ H → t D σ H) : PS X e t' := TL.PS.imp h i
theorem PSs.imp {X : Cx} {e : List PySem.Stmt} {t t' : TS} (h : PSs X e t) (i : ∀ D σ H, t' D σ H → t D σ H) : PSs X e t' := TL.PSs.imp h i
theorem PI.imp {X : Cx} {tg e : PySem.Expr} {t t' : TI} (h : PI X tg e t) (i : ∀ σ H Q, t' σ H Q → t σ H Q) : PI X tg e t' := ⟨fun pins s σ H Q I q => h.run pins s σ H Q I (i σ H Q q)⟩
theorem PW.imp {X : Cx} {e : PySem.Expr} {t t' : TT} (h : PW X e t) (i : ∀ σ H Q, t' σ H Q → t σ H Q) : PW X e t' := ⟨fun wh pins s σ H Q I q => h.run wh pins s σ H Q I (i σ H Q q)⟩
end L2
namespace TL
open PySem PySem.Spec PyProof.Rows L2
def OkE (X : Cx) (XR : XRel) (W : WX) (x : Expr) (f : SE) : Prop := PE X x (liftE X.K XR W f) ∧ (ptC x = true → PT X x (tB (liftE X.K XR W f))) ∧ (isBoolE x = true → PW X x (tB (liftE X.K XR W f)))
def OkG (X : Cx) (XR : XRel) (W : WX) (g : G3) (f : SE) : Prop := match g with
  | .ex x => OkE X XR W x f
  | .args es => PA X es (liftA X.K XR W f)
  | .iter x tg => PI X tg x (liftI X.K XR W f)
theorem ok_val {X : Cx} {XR : XRel} {W : WX} {x : Expr} {f : SE} (h : PE X x (liftE X.K XR W f)) (ht : tstC x = true) (hb : isBoolE x = false) : OkE X XR W x f := ⟨h, fun _ => pt_val h (tst_of ht), fun q => by rw [hb] at q; cases q⟩
theorem ok_pe {X : Cx} {XR : XRel} {W : WX} {x : Expr} {f : SE} (h : PE X x (liftE X.K XR W f)) (ht : ptC x = false) (hb : isBoolE x = false) : OkE X XR W x f := ⟨h, (fun q => by rw [ht] at q; cases q), (fun q => by rw [hb] at q; cases q)⟩
theorem isi_facts : ∀ ty ∈ isiTys, bootBuiltins (ty : Str) = some (.type ty) ∧ (ty : Str) ∈ bltNames ∧ (ty : Str) ≠ "__name__" ∧ ((ty : Str) == ("__debug__" : Str)) = false := by decide +kernel
theorem dnewT_lift {K : PySem.W.Frag} {XR : XRel} {W : WX} {nw : Bool} {σ : L2.St} {H : Hp} {Q : VK} (h : liftE K XR W (ev (.dnew true nw)) σ H Q) : tDNewT σ H Q := dnew_lift (t := true) h
theorem dnewK_lift {K : PySem.W.Frag} {XR : XRel} {W : WX} {nw : Bool} {σ : L2.St} {H : Hp} {Q : VK} (h : liftE K XR W (ev (.dnew false nw)) σ H Q) : tDNewK σ H Q := dnew_lift (t := false) h
def Sound (M : Md) (XR : XRel) (lv : Nat) (N : List Str) (e : E) : Prop := ∀ (sc : Scope) (fn : Str → Bool) (g : G3), chk N e sc fn g = true → need M XR lv e → ∀ (X : Cx) (W : WX), Good M XR lv N sc fn X W → OkG X XR W g (ev e)
theorem beq_str {a b : Str} (h : (a == b) = true) : a = b := by simpa using h
theorem tupIs_ks {K : PySem.W.Frag} {Z : Addr → Prop} {H : Hp} {ι : Nat → Addr} {n : Nat} : ∀ {vs : List V} {ts : List T} {l : List (List Int)}, IsAll K Z H ι n vs ts → T.tupIs ts = some l → ∃ ks : List (Addr × List Int), vs = ks.map (fun p => V.ref p.1) ∧ ks.map (·.2) = l ∧ ∀ p ∈ ks, H p.1 = some (.tup (p.2.map V.int))
  | _, _, _, .nil, e => by
    cases e
    exact ⟨[], rfl, rfl, fun p hp => by cases hp⟩
  | _, _, _, .cons (v := v) (vs := vs) (t := t) (ts := ts) i is, e => by
    simp only [T.tupIs] at e
    cases q1 : T.tupI t with
    | none => rw [q1] at e; cases e
    | some x =>
      cases q2 : T.tupIs ts with
      | none => rw [q1, q2] at e; cases e
      | some xs =>
        rw [q1, q2] at e
        cases e
        obtain ⟨ks, h1, h2, h3⟩ := tupIs_ks is q2
        obtain ⟨_, _, a, rfl, ha⟩ := tupI_ok i q1
        refine ⟨(a, x) :: ks, by rw [List.map_cons, ← h1], by rw [List.map_cons, h2], fun p hp => ?_⟩
        rcases List.mem_cons.mp hp with rfl | hp
        · exact ha
        · exact h3 p hp
theorem lenset_lift {K : PySem.W.Frag} {XR : XRel} {W : WX} {σ : L2.St} {H : Hp} {Q : VK} {fa : SE} (h : liftE K XR W (bindE fa fun x => match lenSetF x with
    | some i => retE (.int i)
    | none => noneE) σ H Q) : tLenSetB K (liftE K XR W fa) σ H Q := by
  refine lift_mono (fun x H1 h1 => ?_) (lift_bind0 h)
  obtain ⟨Z, ι, S, l, t, R, sl, i, p⟩ := lift1 h1
  cases e : lenSetF t with
  | none => rw [e] at p; exact p.elim
  | some k =>
    rw [e] at p
    cases t with
    | tup xs =>
      obtain ⟨a, vs, rfl, hp, iv⟩ := is_tup i
      simp only [lenSetF] at e
      split at e
      · rename_i ns q
        split at e
        · rename_i hl
          cases e
          rw [ints_ok iv q] at hp
          exact .inl ⟨a, ns, rfl, .of hp, hl, ret_post rfl R p (.int _)⟩
        · cases e
      · cases e
    | lst xs =>
      cases i with
      | lst hp hn hz iv =>
        rename_i a vs
        simp only [lenSetF] at e
        split at e
        · rename_i ls q
          split at e
          · rename_i hl
            cases e
            obtain ⟨ks, rfl, rfl, h3⟩ := tupIs_ks iv q
            refine .inr ⟨a, ks, rfl, .of hp, fun p hp => .of (h3 p hp), by simpa using hl, fun b o hb => ?_⟩
            exact p ι _ _ (Step.fresh hb) (R.fresh hb) (.int _)
          · cases e
        · cases e
    | _ => cases e
variable {M : Md} {XR : XRel} {lv : Nat} {N : List Str}
theorem call_ok {keep : Bool} {y : Str} {F : FnS} {args : E} {sc : Scope} {fn : Str → Bool} {X : Cx} {W : WX} {x : Str} {p pos : Pos} {e : Expr} {es : List Expr} (G : Good M XR lv N sc fn X W) (hx : x = y) (hg : glC sc x = true) (ho : okName x = true)
    (hs : isStarred e = false) (hes : es.all notStar = true) (hc : chk N args sc fn (.args (e :: es)) = true) (ha : PA X (e :: es) (liftA X.K XR W (ev args))) (hn : FnNeed M XR lv y args.cnt F) :
    PE X (.Call (.Name x p) (e :: es) [] pos) (liftE X.K XR W (ev (.call keep y F args))) := by
  subst hx
  have hmd := G.md
  subst hmd
  obtain ⟨f, fd, ps, k, hk, Fo, hm, hkeep, hb⟩ := hn
  obtain ⟨hcnt, hlen⟩ := ev_cnt args hc
  refine (pe_callS (E := WE W) Fo (G.room.mono hk) (gl_ok G hg) hm hkeep hb (L2N.passAt G.tk) ha (okName_ok ho).1 (star1 hs) (star_none hes)).imp fun σ H Q h => ?_
  refine liftA_mono (fun vs H1 h1 => ?_) (args_bindN hlen h)
  obtain ⟨hl, Z, ι, S, l, ts, R, sl, ia, p⟩ := h1
  have := call_post G.xo R ia p
  rw [hl, ← hcnt] at this
  exact this
theorem itw_str {K : PySem.W.Frag} {Z : Addr → Prop} {H : Hp} {ι : Nat → Addr} {S : Sto} {z : Str} : ItW K Z ι S H (Its z) (.tup [.non, .lst (chT z)]) (chT z) := by
  have hl : (chT z).length = z.cps.size := by simp [chT]
  refine ⟨fun Z' ι' S' H' hz st R' ok => ⟨fun i h => by rw [hl] at h; exact h, by show z.cps.size ≤ _; omega, fun i x H'' h y => ?_⟩⟩
  obtain ⟨rfl, c, hc, rfl⟩ := y
  refine ⟨.str ⟨#[c]⟩, ?_, .refl, R', .str _⟩
  unfold chT
  rw [List.getElem?_map, Array.getElem?_toList, hc]
  rfl
theorem str_lift {K : PySem.W.Frag} {XR : XRel} {W : WX} {f : SE} {g : Str → SE} {σ : L2.St} {H : Hp} {Q : VK} (h : liftE K XR W (strE f g) σ H Q) : liftE K XR W f σ H fun x H1 => ∃ z, x = .str z ∧ liftE K XR W (g z) σ H1 Q := by
  refine lift_mono (fun x H1 h1 => ?_) (lift_bind0 h)
  obtain ⟨Z, ι, S, l, t, R, sl, i, p⟩ := lift1 h1
  cases t with
  | str z => exact ⟨z, is_str i, Z, ι, S, l, [], R, sl, .nil, p⟩
  | _ => exact p.elim
theorem sseq_lift {K : PySem.W.Frag} {XR : XRel} {W : WX} {fa : SE} {σ : L2.St} {Q : It → Hp → Prop} {H : Hp} (h : liftI K XR W (strE fa fun z => if z.length ≤ LIM then retE (.tup [.non, .lst (chT z)]) else noneE) σ H Q) : iStr (liftE K XR W fa) σ H Q := by
  refine lift_mono (fun x H1 h1 => ?_) (liftI_bind h)
  obtain ⟨Z, ι, S, l, t, R, sl, i, p⟩ := h1
  cases t with
  | str z =>
    dsimp only at p
    by_cases g : z.length ≤ LIM
    · rw [if_pos g] at p
      obtain ⟨items, e, p⟩ := p
      have e : chT z = items := by cases e; rfl
      subst e
      exact ⟨z, is_str i, p ι H1 _ .refl R itw_str⟩
    · rw [if_neg g] at p
      exact p.elim
  | _ => exact p.elim
theorem strs_ok {K : PySem.W.Frag} {Z : Addr → Prop} {H : Hp} {ι : Nat → Addr} {n : Nat} : ∀ {vs : List V} {ts : List T} {ys : List Str}, IsAll K Z H ι n vs ts → T.strs ts = some ys → vs = ys.map V.str
  | _, _, _, .nil, e => by cases e; rfl
  | _, _, _, .cons (t := t) (ts := ts) i is, e => by
    cases i with
    | str k =>
      simp only [T.strs] at e
      cases q2 : T.strs ts with
      | none => rw [q2] at e; cases e
      | some ks =>
        rw [q2] at e
        cases e
        rw [strs_ok is q2]
        rfl
    | _ => cases e
theorem is_strs {K : PySem.W.Frag} {Z : Addr → Prop} {H : Hp} {ι : Nat → Addr} {n : Nat} : ∀ ys : List Str, IsAll K Z H ι n (ys.map V.str) (ys.map T.str)
  | [] => .nil
  | y :: ys => .cons (.str y) (is_strs ys)
theorem LIM_16 : LIM ≤ 16777216 := by unfold LIM; omega
theorem join_lift {K : PySem.W.Frag} {XR : XRel} {W : WX} {fo fa : SE} {σ : L2.St} {H : Hp} {Q : VK} (h : liftE K XR W (strE fo fun z => bindE fa fun y => fun l S => strO (joinF z y S) l S) σ H Q) :
    tM1 (fun x xs H Q => ∃ a p, ∃ ys : List Str, x = .str a ∧ xs = [.ref p] ∧ (SqL K H p (ys.map V.str) ∨ SqT K H p (ys.map V.str)) ∧ (ys.map (·.length)).sum + ys.length * a.length ≤ 16777216 ∧ Q (.str (Txt.join a ys)) H) (liftE K XR W fo) (liftE K XR W fa) σ H Q := by
  refine lift_mono (fun x H1 h1 => ?_) (str_lift h)
  obtain ⟨z, rfl, h1⟩ := h1
  refine ⟨⟨z, rfl⟩, lift_mono (fun y H2 h2 => ?_) (lift_bind0 h1)⟩
  obtain ⟨Z, ι, S, l, t, R, sl, i, p⟩ := lift1 h2
  cases e : joinF z t S with
  | none => rw [e] at p; exact p.elim
  | some w =>
    rw [e] at p
    unfold joinF at e
    cases q : S.seq t with
    | none => rw [q] at e; cases e
    | some ts =>
      rw [q] at e
      simp only [Option.bind_some] at e
      split at e
      · rename_i ys q2
        split at e
        · rename_i hl
          cases e
          obtain ⟨a, vs, rfl, hs, iv⟩ := seq_ok R i q
          rw [strs_ok iv q2] at hs
          exact ⟨z, a, ys, rfl, rfl, hs, Nat.le_trans hl LIM_16, p ι H2 _ .refl R (.str _)⟩
        · cases e
      · cases e
theorem split_lift {K : PySem.W.Frag} {XR : XRel} {W : WX} {fo fa : SE} {σ : L2.St} {H : Hp} {Q : VK} (h : liftE K XR W (strE fo fun z => strE fa fun b => if (b.length == 0) = false ∧ z.length ≤ LIM then retE (.lst ((Txt.split z b).map .str)) else noneE) σ H Q) :
    tM1 (fun x xs H Q => ∃ a b, x = .str a ∧ xs = [.str b] ∧ (b.length == 0) = false ∧ a.length + 2 ≤ sizeLine ∧ rNewStrs (Txt.split a b) H Q) (liftE K XR W fo) (liftE K XR W fa) σ H Q := by
  refine lift_mono (fun x H1 h1 => ?_) (str_lift h)
  obtain ⟨z, rfl, h1⟩ := h1
  refine ⟨⟨z, rfl⟩, lift_mono (fun y H2 h2 => ?_) (str_lift h1)⟩
  obtain ⟨b, rfl, Z, ι, S, l, ts, R, sl, ia, p⟩ := h2
  dsimp only at p
  by_cases g : (b.length == 0) = false ∧ z.length ≤ LIM
  · rw [if_pos g] at p
    refine ⟨z, b, rfl, rfl, g.1, ?_, fun a ha => ?_⟩
    · have := g.2
      rw [sizeLine_eq]
      unfold LIM at this
      omega
    · exact p ι _ _ (Step.fresh ha) (R.fresh ha) (.lst upd_same (R.free ha) (R.notZ ha) (IsAll.fresh R ha (is_strs _)))
  · rw [if_neg g] at p
    exact p.elim
theorem m0_lift {K : PySem.W.Frag} {XR : XRel} {W : WX} {fo : SE} {g : Str → Str} {σ : L2.St} {H : Hp} {Q : VK} (h : liftE K XR W (strE fo fun z => if z.length ≤ LIM then retE (.str (g z)) else noneE) σ H Q) :
    tM0 (fun x xs H Q => ∃ a, x = .str a ∧ xs = [] ∧ a.length ≤ 5592405 ∧ Q (.str (g a)) H) (liftE K XR W fo) σ H Q := by
  refine lift_mono (fun x H1 h1 => ?_) (str_lift h)
  obtain ⟨z, rfl, Z, ι, S, l, ts, R, sl, ia, p⟩ := h1
  dsimp only at p
  by_cases g : z.length ≤ LIM
  · rw [if_pos g] at p
    refine ⟨⟨z, rfl⟩, z, rfl, rfl, ?_, p ι H1 _ .refl R (.str _)⟩
    unfold LIM at g
    omega
  · rw [if_neg g] at p
    exact p.elim
theorem repl_lift {K : PySem.W.Frag} {XR : XRel} {W : WX} {fo : SE} {y z : Str} {σ : L2.St} {H : Hp} {Q : VK} (h : liftE K XR W (replE fo y z) σ H Q) : CwR.tReplC (liftE K XR W fo) y z σ H Q := by
  refine lift_mono (fun x H1 h1 => ?_) (str_lift h)
  obtain ⟨a, rfl, Z, ι, S, l, ts, R, sl, ia, p⟩ := h1
  dsimp only at p
  by_cases g : a.length + (a.length + 1) * z.length ≤ 16777216
  · rw [if_pos g] at p
    exact ⟨a, rfl, g, p ι H1 _ .refl R (.str _)⟩
  · rw [if_neg g] at p
    exact p.elim
theorem pat_imp {X : Cx} {es : List Expr} {t t' : TA} (h : PAT X es t) (i : ∀ σ H Q, t' σ H Q → t σ H Q) : PAT X es t' := fun pos pins s σ H Q h0 I q => h pos pins s σ H Q h0 I (i σ H Q q)
theorem pat_of {X : Cx} {es : List Expr} {t : TA} (h : PA X es t) : PAT X es t := fun pos pins s σ H Q _ I q => h.run pos pins s σ H Q I q
theorem pa_lit {X : Cx} {s : Str} {j : Nat} {c : Pos} {es : List Expr} {t : TA} (hr : PAT X es t) : PA X (.Constant (.str s) j c :: es) (tCons (tC (.str s)) t) := by
  refine ⟨fun pos pins st σ H Q I h => ?_⟩
  show wpAny _ _ (spliced ((false, eval (.Constant (.str s) j c) X.env) :: backTo pos (starEach es X.env))) _ _ st
  refine Calls.spliced_cons (Calls.Constant_str ?_)
  exact thn (hr pos pins _ σ H _ (by show 1 ≤ st.toks + 1; omega) (I.tok _) h) fun us s2 ⟨xs, H2, I2, r2, q2⟩ => ⟨.str s :: xs, H2, I2, .cons ⟨_, rfl⟩ r2, q2⟩
theorem sound : ∀ e : E, Sound M XR lv N e := by
  intro e
  induction e with
  | var i =>
    intro sc fn g h n X W G
    simp only [chk] at h
    split at h
    · simp only [Bool.and_eq_true, beq_iff_eq] at h
      obtain ⟨a, b, c⟩ := okName_ok h.2
      exact ok_val ((pe_var (by rw [G.N]; exact h.1.1) (vis_ok G h.1.2) a b).imp fun σ H Q q => var_lift q) rfl rfl
    · cases h
  | gc y t =>
    intro sc fn g h n X W G
    simp only [chk] at h
    split at h
    · simp only [Bool.and_eq_true] at h
      obtain rfl := beq_str h.1.1
      obtain ⟨a, b, c⟩ := okName_ok h.2
      have hmd := G.md
      subst hmd
      unfold need at n
      split at n
      · obtain ⟨k, n⟩ := n
        exact ok_val ((pe_glob (v := .int _) (gl_ok G h.1.2) n ⟨_, rfl⟩ a).imp fun σ H Q q => ret_lift (.int _) q) rfl rfl
      · obtain ⟨k, n⟩ := n
        exact ok_val ((pe_glob (v := .str _) (gl_ok G h.1.2) n ⟨_, rfl⟩ a).imp fun σ H Q q => ret_lift (.str _) q) rfl rfl
      · exact ok_val ((pe_glob (v := .ref _) (gl_ok G h.1.2) n rfl a).imp fun σ H Q q => ret_lift (.fn _) q) rfl rfl
      · exact n.elim
    · cases h
  | int i =>
    intro sc fn g h n X W G
    simp only [chk] at h
    split at h
    · obtain rfl := of_decide_eq_true h
      exact ok_val (pe_int.imp fun σ H Q q => ret_lift (.int _) q) rfl rfl
    · cases h
  | str i =>
    intro sc fn g h n X W G
    simp only [chk] at h
    split at h
    · obtain rfl := beq_str h
      exact ok_val (pe_str.imp fun σ H Q q => ret_lift (.str _) q) rfl rfl
    · cases h
  | bl i =>
    intro sc fn g h n X W G
    simp only [chk] at h
    split at h
    · obtain rfl := eq_of_beq h
      exact ok_val (pe_bl.imp fun σ H Q q => ret_lift (.bl _) q) rfl rfl
    · cases h
  | non =>
    intro sc fn g h n X W G
    simp only [chk] at h
    split at h
    · exact ok_val (pe_non.imp fun σ H Q q => ret_lift .non q) rfl rfl
    · cases h
  | bin nw op a b iha ihb =>
    intro sc fn g h n X W G
    simp only [chk] at h
    split at h
    · simp only [Bool.and_eq_true] at h
      obtain rfl := eq_of_beq h.1.1
      have ha := iha sc fn _ h.1.2 n.1 X W G
      have hb := ihb sc fn _ h.2 n.2 X W G
      exact ok_pe ((pe_op (op_binF op) ha.1 hb.1).imp fun σ H Q q => bin_lift q) rfl rfl
    · cases h
  | neg a iha =>
    intro sc fn g h n X W G
    simp only [chk] at h
    split at h
    · have ha := iha sc fn _ h n X W G
      exact ok_pe ((pe_un un_neg ha.1).imp fun σ H Q q => neg_lift q) rfl rfl
    · cases h
  | not a iha =>
    intro sc fn g h n X W G
    simp only [chk] at h
    split at h
    · simp only [Bool.and_eq_true] at h
      have ha := iha sc fn _ h.2 n X W G
      exact ⟨(pe_not ha.1).imp fun σ H Q q => not_lift q, fun _ => (pt_not (ha.2.1 h.1)).imp fun σ H Q q => notT_lift q, fun q => by cases q⟩
    · cases h
  | cmp op a b iha ihb =>
    intro sc fn g h n X W G
    simp only [chk] at h
    split at h
    · simp only [Bool.and_eq_true] at h
      obtain rfl := eq_of_beq h.1.1.1
      have ha := iha sc fn _ h.1.2 n.1 X W G
      have hb := ihb sc fn _ h.2 n.2 X W G
      exact ⟨(pe_cmpR (op_cmpF G.units op) ha.1 hb.1 (nomarkS h.1.1.2)).imp fun σ H Q q => bin_lift q, fun _ => (pt_cmpR (op_cmpF G.units op) ha.1 hb.1 (nomarkS h.1.1.2)).imp fun σ H Q q => bin_lift q, fun q => by cases q⟩
    · cases h
  | chain p q a b c iha ihb ihc =>
    intro sc fn g h n X W G
    simp only [chk] at h
    split at h
    · simp only [Bool.and_eq_true] at h
      obtain rfl := eq_of_beq h.1.1.1.1.1
      obtain rfl := eq_of_beq h.1.1.1.1.2
      have ha := iha sc fn _ h.1.1.2 n.1 X W G
      have hb := ihb sc fn _ h.1.2 n.2.1 X W G
      have hc := ihc sc fn _ h.2 n.2.2 X W G
      exact ⟨(pe_chain (op_cmpF G.units p) (op_cmpF G.units q) ha.1 hb.1 hc.1 (nomarkS h.1.1.1.2)).imp fun σ H Q q => chain_lift q,
        fun _ => (pt_chain (op_cmpF G.units p) (op_cmpF G.units q) ha.1 hb.1 hc.1 (nomarkS h.1.1.1.2)).imp fun σ H Q q => chain_lift q, fun q => by cases q⟩
    · cases h
  | inr ng a args iha ihb =>
    intro sc fn g h n X W G
    simp only [chk] at h
    split at h
    · simp only [Bool.and_eq_true, Bool.not_eq_true'] at h
      obtain ⟨⟨⟨⟨⟨⟨h1, h2⟩, h3⟩, h4⟩, h5⟩, h6⟩, h7⟩ := h
      obtain rfl := eq_of_beq h1
      obtain rfl := beq_str h2
      have ha := iha sc fn _ h4 n.1 X W G
      have hb := ihb sc fn _ h7 n.2 X W G
      have hr := fun p pos => pe_callTy (p := p) (pos := pos) (cr_range (X := X)) (gl_ok G h3) (G.blt _ (by decide)) boot_range hb (by decide) (by decide) (star1 h5) (star_none h6)
      exact ⟨(pe_cmpR (op_rg ng) ha.1 (hr _ _) (nomarkS rfl)).imp fun σ H Q q => inr_lift q, fun _ => (pt_cmpR (op_rg ng) ha.1 (hr _ _) (nomarkS rfl)).imp fun σ H Q q => inr_lift q, fun q => by cases q⟩
    · cases h
  | inrO ng a args iha ihb =>
    intro sc fn g h n X W G
    simp only [chk] at h
    split at h
    · simp only [Bool.and_eq_true, Bool.not_eq_true'] at h
      obtain ⟨⟨⟨⟨⟨⟨h1, h2⟩, h3⟩, h4⟩, h5⟩, h6⟩, h7⟩ := h
      obtain rfl := eq_of_beq h1
      obtain rfl := beq_str h2
      have ha := iha sc fn _ h4 n.1 X W G
      have hb := ihb sc fn _ h7 n.2 X W G
      have hr := fun p pos => pe_callTy (p := p) (pos := pos) (cr_range (X := X)) (gl_ok G h3) (G.blt _ (by decide)) boot_range hb (by decide) (by decide) (star1 h5) (star_none h6)
      exact ⟨(pe_cmpR (op_rgO ng) ha.1 (hr _ _) (nomarkS rfl)).imp fun σ H Q q => inrO_lift q, fun _ => (pt_cmpR (op_rgO ng) ha.1 (hr _ _) (nomarkS rfl)).imp fun σ H Q q => inrO_lift q, fun q => by cases q⟩
    · cases h
  | and a b iha ihb =>
    intro sc fn g h n X W G
    simp only [chk] at h
    split at h
    · simp only [Bool.and_eq_true] at h
      have ha := iha sc fn _ h.1.2 n.1 X W G
      have hb := ihb sc fn _ h.2 n.2 X W G
      have pw := (pw_and (ha.2.1 h.1.1) (hb.2.2 rfl)).imp fun σ H Q q => andT_lift q
      exact ⟨(pe_and ha.1 hb.1).imp fun σ H Q q => and_lift q, fun _ => pw.pt, fun _ => pw⟩
    · cases h
  | or a b iha ihb =>
    intro sc fn g h n X W G
    simp only [chk] at h
    split at h
    · simp only [Bool.and_eq_true] at h
      have ha := iha sc fn _ h.1.2 n.1 X W G
      have hb := ihb sc fn _ h.2 n.2 X W G
      have pw := (pw_or (ha.2.1 h.1.1) (hb.2.2 rfl)).imp fun σ H Q q => orT_lift q
      exact ⟨(pe_or ha.1 hb.1).imp fun σ H Q q => or_lift q, fun _ => pw.pt, fun _ => pw⟩
    · cases h
  | one a iha =>
    intro sc fn g h n X W G
    simp only [chk] at h
    split at h
    · rename_i op x pos
      simp only [Bool.and_eq_true] at h
      have ha := iha sc fn _ h.2 n X W G
      cases op with
      | And => exact ⟨pe_one ha.1, fun _ => (pw_and1 (ha.2.1 h.1)).pt, fun _ => pw_and1 (ha.2.1 h.1)⟩
      | Or => exact ⟨pe_one ha.1, fun _ => (pw_or1 (ha.2.1 h.1)).pt, fun _ => pw_or1 (ha.2.1 h.1)⟩
    · cases h
  | ite c a b ihc iha ihb =>
    intro sc fn g h n X W G
    simp only [chk] at h
    split at h
    · simp only [Bool.and_eq_true] at h
      have hc := ihc sc fn _ h.1.1.2 n.1 X W G
      have ha := iha sc fn _ h.1.2 n.2.1 X W G
      have hb := ihb sc fn _ h.2 n.2.2 X W G
      exact ok_pe ((pe_ifExp (hc.2.1 h.1.1.1) ha.1 hb.1).imp fun σ H Q q => ite_lift q) rfl rfl
    · cases h
  | nil =>
    intro sc fn g h n X W G
    simp only [chk] at h
    split at h
    · exact pa_nil.imp fun σ H Q q => liftA_nil q
    · cases h
  | cons a r iha ihr =>
    intro sc fn g h n X W G
    simp only [chk] at h
    split at h
    · simp only [Bool.and_eq_true, Bool.not_eq_true'] at h
      have ha := iha sc fn _ h.1.2 n.1 X W G
      have hr := ihr sc fn _ h.2 n.2 X W G
      exact (pa_cons ha.1 hr (star1 h.1.1)).imp fun σ H Q q => liftA_cons q
    · cases h
  | consV a b r iha ihb ihr =>
    intro sc fn g h n X W G
    simp only [chk] at h
    split at h
    · simp only [Bool.and_eq_true] at h
      have ha := iha sc fn _ h.1.1 n.1 X W G
      have hb := ihb sc fn _ h.1.2 n.2.1 X W G
      have hr := ihr sc fn _ h.2 n.2.2 X W G
      exact (pa_cons ((pe_orT ha.1 (pe_one hb.1)).imp fun σ H Q q => orF_lift q) hr (star1 rfl)).imp fun σ H Q q => liftA_cons q
    · cases h
  | consR s a b o y z t iha ihb iho iht =>
    intro sc fn g h n X W G
    simp only [chk] at h
    split at h
    · simp only [Bool.and_eq_true, Bool.not_eq_true'] at h
      obtain ⟨⟨⟨⟨⟨⟨⟨⟨⟨⟨⟨⟨h1, h2⟩, h3⟩, h4⟩, h5⟩, h6⟩, h7⟩, h8⟩, h9⟩, ha⟩, hb⟩, ho⟩, ht⟩ := h
      obtain rfl := beq_str h1
      obtain rfl := beq_str h2
      obtain rfl := beq_str h3
      obtain rfl := beq_str h5
      have ha := iha sc fn _ ha n.1 X W G
      have hb := ihb sc fn _ hb n.2.1 X W G
      have ho := iho sc fn _ ho n.2.2.1 X W G
      have ht := iht sc fn _ ht n.2.2.2 X W G
      refine PA.imp (t := tCons (tC (.str s)) (liftA X.K XR W (bindE (ev a) fun x1 => argsE (bindE (ev b) fun x2 => argsE (bindE (replE (ev o) y z) fun x3 => argsE (ev t) fun ts => retE (.lst (x3 :: ts))) fun ts => retE (.lst (x2 :: ts))) fun ts => retE (.lst (x1 :: ts))))) (pa_lit ?_) fun σ H Q q => ret_lift (.str _) (liftA_cons q)
      refine pat_imp (t := tCons (liftE X.K XR W (ev a)) (liftA X.K XR W (bindE (ev b) fun x2 => argsE (bindE (replE (ev o) y z) fun x3 => argsE (ev t) fun ts => retE (.lst (x3 :: ts))) fun ts => retE (.lst (x2 :: ts))))) (pat_cons (CwR.PET.of ha.1) ?_ (star1 h8)) fun σ H Q q => liftA_cons q
      refine pat_imp (t := tCons (liftE X.K XR W (ev b)) (liftA X.K XR W (bindE (replE (ev o) y z) fun x3 => argsE (ev t) fun ts => retE (.lst (x3 :: ts))))) (pat_cons (CwR.PET.of hb.1) ?_ (star1 h9)) fun σ H Q q => liftA_cons q
      exact pat_imp (t := tCons (CwR.tReplC (liftE X.K XR W (ev o)) y z) (liftA X.K XR W (ev t))) (pat_cons (CwR.pet_replC ho.1 h4 rfl (tx_of h6) h7) (pat_of ht) rfl) fun σ H Q q => repl_lift (liftA_cons q)
    · cases h
  | tup a iha =>
    intro sc fn g h n X W G
    simp only [chk] at h
    split at h
    · have ha := iha sc fn _ h n X W G
      exact ok_pe ((pe_tup ha).imp fun σ H Q q => tup_lift q) rfl rfl
    · cases h
  | lst nw a iha =>
    intro sc fn g h n X W G
    simp only [chk] at h
    split at h
    · have ha := iha sc fn _ h n X W G
      exact ok_pe ((pe_lst ha).imp fun σ H Q q => lst_lift q) rfl rfl
    · cases h
  | dnew t nw =>
    intro sc fn g h n X W G
    simp only [chk] at h
    split at h
    · cases t with
      | true => exact ok_pe (pe_dnewT.imp fun σ H Q q => dnewT_lift q) rfl rfl
      | false => exact ok_pe (pe_dnewK.imp fun σ H Q q => dnewK_lift q) rfl rfl
    · cases h
  | idx a b iha ihb =>
    intro sc fn g h n X W G
    simp only [chk] at h
    split at h
    · simp only [Bool.and_eq_true] at h
      have ha := iha sc fn _ h.1.2 n.1 X W G
      have hb := ihb sc fn _ h.2 n.2 X W G
      have hu : X.A.units + 1 < cLine := by have := G.units; omega
      exact ok_val ((pe_ix (ix_T hu) ha.1 hb.1 (plainIx_of h.1.1)).imp fun σ H Q q => idx_lift q) rfl rfl
    · cases h
  | sl nw a lo hi iha ihl ihh =>
    intro sc fn g h n X W G
    simp only [chk] at h
    split at h
    · simp only [Bool.and_eq_true] at h
      obtain ⟨⟨h1, h2⟩, h3⟩ := h
      have ha := iha sc fn _ h1 n.1 X W G
      have po : ∀ {e : E} {l : Option Expr}, (∀ x, chk N e sc fn (.ex x) = true → PE X x (liftE X.K XR W (ev e))) → (match l with | none => e.isNop | some y => !e.isNop && chk N e sc fn (.ex y)) = true → PO X l (tPt e.isNop (liftE X.K XR W (ev e))) := by
        intro e l hp hl
        cases l with
        | none =>
          have hl : e.isNop = true := hl
          rw [hl]
          exact po_none
        | some y =>
          simp only [Bool.and_eq_true, Bool.not_eq_true'] at hl
          rw [hl.1]
          exact po_some (hp y hl.2)
      exact ok_val ((pe_slice sl_T ha.1 (po (fun x hx => (ihl sc fn _ hx n.2.1 X W G).1) h2) (po (fun x hx => (ihh sc fn _ hx n.2.2 X W G).1) h3)).imp fun σ H Q q => sl_lift q) rfl rfl
    · cases h
  | rev nw a iha =>
    intro sc fn g h n X W G
    simp only [chk] at h
    split at h
    · have ha := iha sc fn _ h n X W G
      exact ok_val ((pe_revA ha.1).imp fun σ H Q q => rev_lift q) rfl rfl
    · cases h
  | nop =>
    intro sc fn g h n X W G
    simp only [chk] at h
    cases h
  | call keep y F args iha =>
    intro sc fn g h n X W G
    simp only [chk] at h
    split at h
    · simp only [Bool.and_eq_true, Bool.not_eq_true'] at h
      obtain ⟨⟨⟨⟨⟨h1, h2⟩, h3⟩, h5⟩, h6⟩, h7⟩ := h
      have ha := iha sc fn _ h7 n.2 X W G
      exact ok_val (call_ok G (beq_str h1) h2 h3 h5 h6 h7 ha n.1) rfl rfl
    · cases h
  | callV keep tbl fe args ihf iha =>
    intro sc fn g h n X W G
    simp only [chk] at h
    split at h
    · simp only [Bool.and_eq_true, Bool.not_eq_true'] at h
      obtain ⟨⟨⟨⟨h1, h5⟩, h6⟩, h7⟩, h8⟩ := h
      have hf := ihf sc fn _ h7 n.2.1 X W G
      have ha := iha sc fn _ h8 n.2.2 X W G
      exact ok_val (callV_ok G h1 h5 h6 h8 hf.1 ha (needT_mem n.1)) rfl rfl
    · cases h
  | sset nw a iha =>
    intro sc fn g h n X W G
    simp only [chk] at h
    split at h
    · simp only [Bool.and_eq_true, Bool.not_eq_true'] at h
      obtain ⟨⟨⟨⟨⟨h1, h2⟩, h3⟩, h4⟩, h5⟩, h6⟩ := h
      have ha := iha sc fn _ h6 n X W G
      obtain rfl := beq_str h1
      obtain rfl := beq_str h2
      exact ok_val ((pe_sset G.calm (gl_ok G h3) (G.blt _ (by decide)) (gl_ok G h4) (G.blt _ (by decide)) ha.1 (star1 h5)).imp fun σ H Q q => sset_lift q) rfl rfl
    · cases h
  | trng a iha =>
    intro sc fn g h n X W G
    simp only [chk] at h
    split at h
    · simp only [Bool.and_eq_true, Bool.not_eq_true'] at h
      obtain ⟨⟨⟨⟨⟨h1, h2⟩, h3⟩, h4⟩, h5⟩, h6⟩ := h
      have ha := iha sc fn _ h6 n X W G
      obtain rfl := beq_str h1
      obtain rfl := beq_str h2
      exact ok_val ((pe_tupRg G.calm (gl_ok G h3) (G.blt _ (by decide)) (prg_1 (gl_ok G h4) (G.blt _ (by decide)) ha.1 (star1 h5)) (star1 rfl)).imp fun σ H Q q => trng_lift q) rfl rfl
    · cases h
  | dlit k v ihk ihv =>
    intro sc fn g h n X W G
    simp only [chk] at h
    split at h
    · simp only [Bool.and_eq_true] at h
      have hk := ihk sc fn _ h.1 n.1 X W G
      have hv := ihv sc fn _ h.2 n.2 X W G
      exact ok_pe ((pe_disp (pps_cons hk.1 hv.1 pps_nil) rfl rfl (by simp) (by simp)).imp fun σ H Q q => dlit_lift q) rfl rfl
    · cases h
  | dget o k iho ihk =>
    intro sc fn g h n X W G
    simp only [chk] at h
    split at h
    · simp only [Bool.and_eq_true, Bool.not_eq_true'] at h
      obtain ⟨⟨⟨⟨⟨h1, h2⟩, h3⟩, h4⟩, h5⟩, h6⟩ := h
      have ho := iho sc fn _ h5 n.1 X W G
      have hk := ihk sc fn _ h6 n.2 X W G
      obtain rfl := beq_str h1
      have hu : X.A.units + 1 < cLine := by have := G.units; omega
      exact ok_val ((pe_dget1 hu ho.1 hk.1 ⟨base_of (by simpa using h2), few_of (by decide) h4 rfl, h3, by rw [star1 h4]; rfl⟩).imp fun σ H Q q => dget_lift q) rfl rfl
    · cases h
  | bi nw b args iha =>
    intro sc fn g h n X W G
    simp only [chk] at h
    split at h
    · simp only [Bool.and_eq_true, Bool.not_eq_true'] at h
      obtain ⟨⟨⟨⟨h1, h2⟩, h5⟩, h6⟩, h7⟩ := h
      have ha := iha sc fn _ h7 n X W G
      obtain rfl := beq_str h1
      exact ok_val ((pe_blt G.calm G.units rfl (gl_ok G h2) (G.blt _ (bi_in b)) ha h5 h6).imp fun σ H Q q => bi_lift q) rfl rfl
    · cases h
  | isi a ty iha =>
    intro sc fn g h n X W G
    simp only [chk] at h
    split at h
    · simp only [Bool.and_eq_true, Bool.not_eq_true'] at h
      obtain ⟨⟨⟨⟨⟨⟨h1, h2⟩, h3⟩, h4⟩, h5⟩, h6⟩, h7⟩ := h
      have ha := iha sc fn _ h7 n X W G
      obtain rfl := beq_str h1
      obtain rfl := beq_str h3
      have hm : ty ∈ isiTys := by simpa using h5
      obtain ⟨b1, b2, b3, b4⟩ := isi_facts ty hm
      have hp := fun ps => pa_cons ha.1 (pa_cons (pe_bltn (pos := ps) (v := .ty ty) (gl_ok G h4) (G.blt _ b2) b1 rfl b3 b4) pa_nil (star1 rfl)) (star1 h6)
      exact ok_val ((pe_callB (call_isi (X := X)) (gl_ok G h2) (G.blt _ (by decide)) boot_isinstance (hp _) (by decide) (by decide) (star1 h6) (star_none rfl)).imp fun σ H Q q => isi_lift hm q) rfl rfl
    · cases h
  | lenset a iha =>
    intro sc fn g h n X W G
    simp only [chk] at h
    split at h
    · simp only [Bool.and_eq_true, Bool.not_eq_true'] at h
      obtain ⟨⟨⟨⟨⟨h1, h2⟩, h3⟩, h4⟩, h5⟩, h6⟩ := h
      have ha := iha sc fn _ h6 n X W G
      obtain rfl := beq_str h1
      obtain rfl := beq_str h2
      exact ok_val ((pe_lenSetB (gl_ok G h3) (G.blt _ (by decide)) (gl_ok G h4) (G.blt _ (by decide)) ha.1 G.calm (by have := G.units; omega) (star1 h5)).imp fun σ H Q q => lenset_lift q) rfl rfl
    · cases h
  | comp nw own tg it cond elt ihi ihc ihe =>
    intro sc fn g h n X W G
    simp only [chk] at h
    split at h
    · rename_i x t i ifs scope pos
      simp only [Bool.and_eq_true, List.all_eq_true] at h
      obtain ⟨⟨⟨⟨⟨⟨h1, h2⟩, h3⟩, h4⟩, h5⟩, h6⟩, h7⟩ := h
      have hi := ihi sc fn _ h5 n.1 X W G
      have hin : ∀ k ∈ tg.ins, k ∈ own.map (·.2) := fun k hk => by simpa using h3 k hk
      have ok : BlkOk X.N X.env.scope scope own := by rw [G.N, G.sc]; exact blkOk_by h1
      have key : ∃ tt, (∀ (s : Shared) (H : Hp) (C : Addr) (cl : List (Str × Addr)) (fp : List Addr), PTs (X.blk s H scope (compEnvC scope cl C X.env) fp) ifs tt) ∧ TOk X.K XR (condE cond.isNop (ev cond)) tt := by
        cases ifs with
        | nil =>
          have h6 : cond.isNop = true := h6
          refine ⟨tYes, fun _ _ _ _ _ => pts_nil, ?_⟩
          intro σ H Q q
          rw [h6] at q
          obtain ⟨c, e, q⟩ := ret_lift (.bl true) (show liftE X.K XR WF (retE (.bl true)) σ H _ from q)
          cases e
          exact q
        | cons c r =>
          cases r with
          | nil =>
            simp only [Bool.and_eq_true, Bool.not_eq_true'] at h6
            refine ⟨tB (liftE X.K XR WF (ev cond)), fun s H C cl fp => pts_one ((ihc _ _ _ h6.2 n.2.1 _ WF (G.blk s H scope C cl fp)).2.1 h6.1.2), ?_⟩
            intro σ H Q q
            rw [h6.1.1] at q
            exact q
          | cons _ _ => cases h6
      obtain ⟨tt, ht, tok⟩ := key
      have hel : ∀ (s : Shared) (H : Hp) (C : Addr) (cl : List (Str × Addr)) (fp : List Addr), PE (X.blk s H scope (compEnvC scope cl C X.env) fp) x (liftE X.K XR WF (ev elt)) := fun s H C cl fp => (ihe _ _ _ h7 n.2.2 _ WF (G.blk s H scope C cl fp)).1
      have htg : ∀ (s : Shared) (H : Hp) (C : Addr) (cl : List (Str × Addr)) (fp : List Addr), PG (X.blk s H scope (compEnvC scope cl C X.env) fp) t (gOf X.K tg) := fun s H C cl fp => tg_ok (G.blk s H scope C cl fp) h2
      refine ok_pe ((pe_lc G.calm G.nodup hi ok htg ht hel (nofold h4)).imp fun σ H Q q => ?_) rfl rfl
      exact comp_lift (gok_of tg) tok hin q
    · cases h
  | seq a iha =>
    intro sc fn g h n X W G
    simp only [chk] at h
    split at h
    · have ha := iha sc fn _ h n X W G
      exact (pi_sq ha.1).imp fun σ H Q q => sq_lift q
    · cases h
  | rng args iha =>
    intro sc fn g h n X W G
    simp only [chk] at h
    split at h
    · rename_i f p e es pos tg
      simp only [Bool.and_eq_true, Bool.not_eq_true', decide_eq_true_eq] at h
      obtain ⟨⟨⟨⟨⟨h1, h2⟩, h3⟩, h5⟩, h6⟩, h7⟩ := h
      have ha := iha sc fn _ h7 n X W G
      obtain ⟨_, hlen⟩ := ev_cnt args h7
      obtain rfl := beq_str h1
      have fin : PI X tg (.Call (.Name "range" p) (e :: es) [] pos) (iRngA (e :: es).length (liftA X.K XR W (ev args))) := by
        cases es with
        | nil => exact pi_range1 (gl_ok G h2) (G.blt _ (by decide)) ha (by rw [star1 h5]; rfl)
        | cons e2 es =>
          have q2 : isStarred e2 = false := by
            simp only [List.all_cons, Bool.and_eq_true] at h6
            have := h6.1
            cases e2 <;> first | rfl | cases this
          cases es with
          | nil => exact pi_range2 (gl_ok G h2) (G.blt _ (by decide)) ha (by rw [star1 h5, star1 q2]; rfl) (by rw [star1 q2]; rfl)
          | cons e3 es =>
            cases es with
            | nil => exact pi_range3 (gl_ok G h2) (G.blt _ (by decide)) ha (by rw [star1 h5]) (star_none h6)
            | cons _ _ => simp at h3
      exact fin.imp fun σ H Q q => rngA_lift hlen q
    · cases h
  | enum a iha =>
    intro sc fn g h n X W G
    simp only [chk] at h
    split at h
    · rename_i f p e pos t
      simp only [Bool.and_eq_true, Bool.not_eq_true'] at h
      obtain ⟨⟨⟨⟨h1, h2⟩, h3⟩, h5⟩, h7⟩ := h
      have ha := iha sc fn _ h7 n X W G
      obtain rfl := beq_str h1
      cases t <;> first | cases h3 | skip
      exact (pi_enumB (gl_ok G h2) (G.blt _ (by decide)) (pa_cons ha.1 pa_nil (star1 h5)) (by rw [star1 h5]; rfl)).imp fun σ H Q q => enum_lift q
    · cases h
  | zip a b iha ihb =>
    intro sc fn g h n X W G
    simp only [chk] at h
    split at h
    · rename_i f p e e2 pos t
      simp only [Bool.and_eq_true, Bool.not_eq_true'] at h
      obtain ⟨⟨⟨⟨⟨⟨h1, h2⟩, h3⟩, h5⟩, h6⟩, h7⟩, h8⟩ := h
      have ha := iha sc fn _ h7 n.1 X W G
      have hb := ihb sc fn _ h8 n.2 X W G
      obtain rfl := beq_str h1
      have ns : [e2].all notStar = true := by
        simp only [List.all_cons, List.all_nil, Bool.and_true]
        cases e2 <;> first | rfl | cases h6
      have hpa := pa_cons ha.1 (pa_cons hb.1 pa_nil (star1 h6)) (star1 h5)
      cases t with
      | Tuple x1 x2 x3 => exact (pi_zipB (gl_ok G h2) (G.blt _ (by decide)) hpa (star1 h5) (star_none ns)).imp fun σ H Q q => zip_lift q
      | Name x1 x2 => exact (pi_zipN (gl_ok G h2) (G.blt _ (by decide)) hpa (star1 h5) (star_none ns)).imp fun σ H Q q => zip_lift q
      | _ => cases h3
    · cases h
  | meth m o args iho iha =>
    intro sc fn g h n X W G
    simp only [chk] at h
    have hu : X.A.units + 1 < cLine := by have := G.units; omega
    split at h
    · rename_i x nm ap cp
      simp only [Bool.and_eq_true] at h
      obtain ⟨⟨⟨⟨⟨h1, h2⟩, h3⟩, h4⟩, h5⟩, h6⟩ := h
      have ho := iho sc fn _ h5 n.1 X W G
      obtain rfl := beq_str h2
      refine ok_val (PE.imp (pe_bm0 (r := rMt X.K m) (mt_pa m) (mt_slot m) (mt_type m) (mt_ok hu m) ho.1 (base_of (by simpa using h3)) h4) fun σ H Q q => ?_) rfl rfl
      have hnil : args = .nil := by cases args <;> first | rfl | (simp [chk] at h6)
      subst hnil
      exact meth0_lift q
    · rename_i x nm ap e es cp
      simp only [Bool.and_eq_true, Bool.not_eq_true', decide_eq_true_eq] at h
      obtain ⟨⟨⟨⟨⟨⟨⟨⟨h1, h2⟩, h3⟩, h4⟩, h5⟩, h6⟩, h7⟩, h8⟩, h9⟩ := h
      have ho := iho sc fn _ h8 n.1 X W G
      have ha := iha sc fn _ h9 n.2 X W G
      obtain rfl := beq_str h2
      exact ok_val (PE.imp (pe_bm (r := rMt X.K m) (mt_pa m) (mt_slot m) (mt_type m) (mt_ok hu m) ho.1 ha (base_of (by simpa using h3)) (few_of h5 h6 h7) h4 (star1 h6) (star_none h7)) fun σ H Q q => meth_lift q) rfl rfl
    · cases h
  | sseq a iha =>
    intro sc fn g h n X W G
    simp only [chk] at h
    split at h
    · have ha := iha sc fn _ h n X W G
      exact (pi_str ha.1).imp fun σ H Q q => sseq_lift q
    · cases h
  | join o a iho iha =>
    intro sc fn g h n X W G
    simp only [chk] at h
    split at h
    · simp only [Bool.and_eq_true, Bool.not_eq_true'] at h
      obtain ⟨⟨⟨⟨⟨h1, h2⟩, h3⟩, h4⟩, h5⟩, h6⟩ := h
      have ho := iho sc fn _ h5 n.1 X W G
      have ha := iha sc fn _ h6 n.2 X W G
      obtain rfl := beq_str h1
      exact ok_val ((pe_join ho.1 ha.1 (by rw [star1 h4]; rfl) (tx_of h2) h3).imp fun σ H Q q => join_lift q) rfl rfl
    · cases h
  | split o a iho iha =>
    intro sc fn g h n X W G
    simp only [chk] at h
    split at h
    · simp only [Bool.and_eq_true, Bool.not_eq_true'] at h
      obtain ⟨⟨⟨⟨⟨h1, h2⟩, h3⟩, h4⟩, h5⟩, h6⟩ := h
      have ho := iho sc fn _ h5 n.1 X W G
      have ha := iha sc fn _ h6 n.2 X W G
      obtain rfl := beq_str h1
      exact ok_val ((pe_split ho.1 ha.1 (by rw [star1 h4]; rfl) (tx_of h2) h3).imp fun σ H Q q => split_lift q) rfl rfl
    · cases h
  | low o iho =>
    intro sc fn g h n X W G
    simp only [chk] at h
    split at h
    · simp only [Bool.and_eq_true] at h
      obtain ⟨⟨⟨h1, h2⟩, h3⟩, h5⟩ := h
      have ho := iho sc fn _ h5 n X W G
      obtain rfl := beq_str h1
      exact ok_val ((pe_lower ho.1 (tx_of h2) h3).imp fun σ H Q q => m0_lift q) rfl rfl
    · cases h
  | upp o iho =>
    intro sc fn g h n X W G
    simp only [chk] at h
    split at h
    · simp only [Bool.and_eq_true] at h
      obtain ⟨⟨⟨h1, h2⟩, h3⟩, h5⟩ := h
      have ho := iho sc fn _ h5 n X W G
      obtain rfl := beq_str h1
      exact ok_val ((pe_upper ho.1 (tx_of h2) h3).imp fun σ H Q q => m0_lift q) rfl rfl
    · cases h
end TL
namespace TL
open PySem PySem.Spec PyProof.Rows L2
inductive Out where
  | nx (l : Lo) | rt (t : T) | er (x : Exn) (l : Lo)
abbrev SS := Lo → Sto → Option (Out × Sto)
inductive HE where
  | kind | fld (nm : Str) | whole (a : HE) | toI (a : HE)
  | var (i : Nat) | int (i : Int) | str (s : Str) | bl (b : Bool) | non
  | nil | cons (a r : HE) | tup (a : HE) | cmp (op : CmpOp) (a b : HE) | and (a b : HE) | or (a b : HE) | one (a : HE) | not (a : HE) | neg (a : HE) | idx (a b : HE)
inductive HS where
  | nil | seq (a b : HS) | asg (i : Nat) (e : HE) | ret (e : HE) | ite (c : HE) (a b : HS)
def exN : List Str := ["NoPlace", "NoArrow", "NoRing", "NoNumber", "NoRow", "NoWeb", "NoText", "TooGreat"]
def exW : List Str := ["place", "arrow", "ring", "number", "row", "web", "text", "great"]
def kindW (c : Str) : Option Str := (exN.zip exW).lookup c
def evH (x : Exn) : HE → SE
  | .kind => match kindW x.cls with
    | some w => retE (.str w)
    | none => noneE
  | .fld nm => match x.fs.lookup nm with
    | some (.int i) => retE (.int i)
    | _ => noneE
  | .whole a => bindE (evH x a) fun t => match t with
    | .int _ => retE (.bl true)
    | _ => noneE
  | .toI a => bindE (evH x a) fun t => match t with
    | .bl b => retE (.int (if b then 1 else 0))
    | _ => noneE
  | .var i => fun l S => match l[i]? with
    | some (some t) => some (.ok t, S)
    | _ => none
  | .int i => retE (.int i)
  | .str s => retE (.str s)
  | .bl b => retE (.bl b)
  | .non => retE .non
  | .nil => retE (.lst [])
  | .cons a r => bindE (evH x a) fun y => argsE (evH x r) fun ts => retE (.lst (y :: ts))
  | .tup a => argsE (evH x a) fun ts => if ts.length ≤ LIM then retE (.tup ts) else noneE
  | .cmp op a b => binE false (cmpF op) (evH x a) (evH x b)
  | .and a b => bindE (evH x a) fun t => match t with
    | .bl true => evH x b
    | .bl false => retE (.bl false)
    | _ => noneE
  | .or a b => bindE (evH x a) fun t => match t with
    | .bl true => retE (.bl true)
    | .bl false => evH x b
    | _ => noneE
  | .one a => evH x a
  | .not a => bindE (evH x a) fun t => match t with
    | .bl b => retE (.bl (!b))
    | _ => noneE
  | .neg a => bindE (evH x a) fun t => match t with
    | .int i => retE (.int (-i))
    | _ => noneE
  | .idx a b => bindE (evH x a) fun y => bindE (evH x b) fun z => fun l S => match idxF y z S with
    | some t => some (.ok t, S)
    | none => none
def bindH (f : SE) (g : T → SS) : SS := fun l S => match f l S with
  | some (.ok t, S') => g t l S'
  | _ => none
def exH (x : Exn) : HS → SS
  | .nil => fun l S => some (.nx l, S)
  | .seq a b => fun l S => match exH x a l S with
    | some (.nx l', S') => exH x b l' S'
    | r => r
  | .asg i e => bindH (evH x e) fun t l S => some (.nx (l.set i (some t)), S)
  | .ret e => bindH (evH x e) fun t _ S => some (.rt t, S)
  | .ite c a b => bindH (evH x c) fun t => match t with
    | .bl true => exH x a
    | .bl false => exH x b
    | _ => fun _ _ => none
def tryK (i : Nat) (h : Exn → SS) : Option (Out × Sto) → Option (Out × Sto)
  | some (.er x l, S) => if (kindW x.cls).isSome && decide (i < l.length) then (match h x (l.set i none) S with
    | some (.nx l', S') => some (.nx (l'.set i none), S')
    | some (.rt t, S') => some (.rt t, S')
    | _ => none) else none
  | r => r
def allInt : List T → Bool
  | [] => true
  | .int _ :: r => allInt r
  | _ :: _ => false
def raiseK (c : Str) (nms : List Str) (t : T) : SS := fun l S => match t with
  | .lst ts => if allInt ts = true ∧ ts.length = nms.length then some (.er ⟨c, nms.zip ts⟩ l, S) else none
  | _ => none
inductive Sm where
  | raise (c : Str) (nms : List Str) (args : E) | tr (body : Sm) (i : Nat) (suite : HS)
  | nil | seq (a b : Sm) | skip
  | expr (e : E) | asg (tg : Tg) (e : E) | par (i j : Nat) (args : E) | setI (a b e : E) | aug (i : Nat) (e : E)
  | ret (e : E) | retN | ite (c : E) (a b : Sm)
  | loop (tg : Tg) (it : E) (body : Sm) | wh (fuel : Nat) (c : E) (body : Sm)
def bindS (f : SE) (g : T → SS) : SS := fun l S => match f l S with
  | none => none
  | some (.err x, S') => some (.er x l, S')
  | some (.ok t, S') => g t l S'
def thenS (f g : SS) : SS := fun l S => match f l S with
  | some (.nx l', S') => g l' S'
  | r => r
def loopL (tg : Tg) (body : SS) (d : T) (items : List T) : List T → SS
  | [] => fun l S => if okSrc d items S then some (.nx l, S) else none
  | t :: r => fun l S => if okSrc d items S then (match asgTg tg t l with
    | some l1 => thenS body (loopL tg body d items r) l1 S
    | none => none) else none
def whL (c : SE) (b : SS) : Nat → SS
  | 0 => fun _ _ => none
  | n + 1 => bindS c fun t => match t with
    | .bl true => thenS b (whL c b n)
    | .bl false => fun l S => some (.nx l, S)
    | _ => fun _ _ => none
def ex : Sm → SS
  | .nil => fun l S => some (.nx l, S)
  | .seq a b => thenS (ex a) (ex b)
  | .skip => fun l S => some (.nx l, S)
  | .expr e => bindS (ev e) fun _ l S => some (.nx l, S)
  | .asg tg e => bindS (ev e) fun t l S => match asgTg tg t l with
    | some l' => some (.nx l', S)
    | none => none
  | .par i j args => bindS (ev args) fun t l S => match t with
    | .lst [x, y] => some (.nx ((l.set i (some x)).set j (some y)), S)
    | _ => none
  | .setI a b e => bindS (ev e) fun v => bindS (ev a) fun x => bindS (ev b) fun y => fun l S => match putI v x y S with
    | some S' => some (.nx l, S')
    | none => none
  | .aug i e => fun l S => match l[i]? with
    | some (some (.int k)) => bindS (ev e) (fun t l S => match t with
      | .int j => some (.nx (l.set i (some (.int (k + j)))), S)
      | _ => none) l S
    | _ => none
  | .ret e => bindS (ev e) fun t _ S => some (.rt t, S)
  | .retN => fun _ S => some (.rt .non, S)
  | .ite c a b => bindS (ev c) fun t => match t with
    | .bl true => ex a
    | .bl false => ex b
    | _ => fun _ _ => none
  | .loop tg it body => bindS (ev it) fun d l S => match srcItems d S with
    | some items => loopL tg (ex body) d items items l S
    | none => none
  | .wh n c body => whL (ev c) (ex body) n
  | .raise c nms args => bindS (ev args) (raiseK c nms)
  | .tr body i suite => fun l S => tryK i (fun x => exH x suite) (ex body l S)
def fnS (n : Nat) (body : Sm) : FnS := fun ts S => match ex body (ts.map some ++ List.replicate (n - ts.length) none) S with
  | some (.nx _, S') => some (.ok .non, S')
  | some (.rt t, S') => some (.ok t, S')
  | some (.er x _, S') => some (.err x, S')
  | none => none
end TL
namespace XL
open PySem PySem.Spec PyProof.Rows L2 PySem.OEX
section
variable {X : Cx} {C : Addr} {bmB : List Value} {B newId initId : String}
theorem made0 {x : Str} {p pos : Pos} (F : ExcBaseFacts B newId initId bmB) (q : PySem.W.excIn X.K C bmB newId = true) (gC : X.mg x = some (.ref C)) (kC : PySem.W.keepIn X.K (.ref C) = true) (r : Raises X (.ref C)) (hg : Gl X x) (hdb : (x == ("__debug__" : Str)) = false) :
    L2N.PMk X (.Call (.Name x p) [] [] pos) (fun _ H Q => Q (.ref C) none H) := by
  intro pins s σ H Q I h
  refine wpAny_Call_Name_kw (ld_glob I hg gC ?_ hdb)
  refine PySem.W.callWith_K0 I.kIn kC ?_
  show wpAny _ _ (call (.ref C) []) _ _ _
  obtain ⟨bm, N, nm, qn, bs, hdct, sn, sub, ab, col, dd, k0, k1, k2, k3, k5, mN, hC, hN, hni, tl⟩ := exc_obj I.kIn q
  obtain ⟨hp, g1, d1, tk1, os1⟩ := s
  exact wpAny_call_exc_subT F tl hC hN hni (fun h' e mk => L2N.mk_of I mk r h (I.hok.gone mk.new)) (Nat.zero_le _)
end
section
variable {X : Cx} {e : Expr} {es : List Expr} {ta : TA}
theorem madeI {CX : CXT} {x : Str} {C fI : Addr} {k : Nat} {fd : FuncData} {ps : List Str} {sp : Sp} {p pos : Pos} (T : OexC X.K C) (iC : PySem.W.findIn X.K (.ref C) "__init__" = some (some (.ref fI))) (tI : PySem.W.typeIn X.K (.ref fI) = some (.type "function"))
    (Fi : FnOk X.prog X.w X.K X.mg X.base CX k fI fd ps sp) (room : Room (k + 1) X.A) (bnd : Binds X.K fd ps []) (nox : Passes CX X (fun _ _ _ => False)) (hg : Gl X x) (hm : X.mg x = some (.ref C)) (ha : PA X (e :: es) ta)
    (hdb : (x == ("__debug__" : Str)) = false) (he : starEach (e :: es) X.env = (false, eval e X.env) :: starEach es X.env) (hpl : (backTo pos (starEach es X.env)).any (·.1) = false) :
    L2N.PMk X (.Call (.Name x p) (e :: es) [] pos) (tMkO C sp [] ta) := by
  intro pins s σ H Q I h
  obtain ⟨nm, qn, N, bs, bm, sn, sub, ab, col, dd, k0, k1, k2, k3, k5, hC, hbm⟩ := T.cls
  refine wpAny_Call_Name_kw (ld_glob I hg hm ?_ hdb)
  refine PySem.W.callWith_K (h₀ := X.base) I.ok.mod.kin T.kC (thn (ha.run pos pins s σ H _ I h) fun us s1 z => ⟨(let ⟨_, _, I1, _⟩ := z; I1.kIn), ?_⟩) he hpl
  obtain ⟨vs, H1, I1, rel, few, q1⟩ := z
  show wpAny _ _ (call (.ref C) us) _ _ _
  obtain ⟨hp, gg, dr, tk, os⟩ := s1
  have step1 : hp.objs.size ≤ hp.objs.size + 1 := Nat.le_succ _
  have free : H1 (hp.objs.size + 1) = none := I1.hok.fresh step1
  have q2 := q1 (hp.objs.size + 1) free
  let hp2 : Heap := (hp.push (PySem.W.kdv_tup us)).push (PySem.HandSPX.excO C hp.objs.size)
  have kp2 : ∀ b o, hp.get? b = some o → hp2.get? b = some o := fun b o z => Heap.get?_push_of_some _ (Heap.get?_push_of_some _ z)
  have at2 : hp2.get? (hp.objs.size + 1) = some (PySem.HandSPX.excO C hp.objs.size) := by
    show ((hp.push _).push _).get? _ = _
    heap_get
  have I2 : Inv X pins σ (upd H1 (hp.objs.size + 1) (exo (hp.objs.size + 1) C none)) ⟨hp2, gg, dr, tk, os⟩ := I1.laid (t' := tk) (a := hp.objs.size + 1) (o := exo (hp.objs.size + 1) C none) (h' := hp2) kp2 step1 (exo_ok at2)
  have rel2 : Vals (V.ref (hp.objs.size + 1) :: (vs ++ [])) (Value.ref (hp.objs.size + 1) :: us) := .cons rfl (by rw [List.append_nil]; exact rel)
  have len2 : (Value.ref (hp.objs.size + 1) :: us ++ []).length = ps.length := by
    rw [List.append_nil]
    exact (rel2.length).symm.trans (Fi.len _ _ _ _ q2)
  have bnd2 := bnd ⟨hp2, gg, dr, tk, os⟩ (Value.ref (hp.objs.size + 1) :: us) I2.kIn len2
  rw [List.append_nil] at bnd2
  have fewU : us.length ≤ sizeLine := by
    have := Paired.length rel
    rw [sizeLine_eq]
    omega
  have body := codeAny_mono (Fi.run _ X.stack _ _ ⟨Value.ref (hp.objs.size + 1) :: us, []⟩ (Value.ref (hp.objs.size + 1) :: us) _ _ (fun _ _ _ => False) (room.make C us []) (I2.env0.make C us []) bnd2 rel2 q2)
    (R' := PySem.W.InitBack (hp.objs.size + 1) (fun r s' => match r with | .ok (.ret v) => L2N.MkP X pins σ Q v s' | .ok _ => False | .error u => X.xe u s')) (fun r s' fin => ?_)
  · refine wpAny_call (codeAny_mono (PySem.HandSPX.call_own F.excBase_ValueError (fun Y => PySem.HandSPX.refsVE_contains Y bm hbm) (I1.kIn _ _ hC) (PySem.W.looks_findIn I1.kIn iC) (fun self => PySem.W.bind_fn I1.kIn self tI) fewU body) fun r s' z => ?_)
    rcases r with u | (v | _ | _ | _) <;> exact z
  · cases r with
    | error u => exact nox pins σ _ _ u s' I2 fin
    | ok fl =>
      cases fl with
      | ret u =>
        obtain ⟨v, H2, sameOs, bare, un, hok, rv, ev, d, fs, ea, ed, hd1, q3⟩ := fin
        subst ev
        obtain ⟨h2, g2, d2, t2, os2⟩ := s'
        obtain ⟨t0, G, J, kG, gone, hoe, na⟩ := mk_end0 (d2 := d2) (t2 := t2) I1 step1 kp2 un hok sameOs bare ea ed hd1
        exact ⟨rv, hp.objs.size + 1, _, _, ⟨G, g2, d2, t2, os2⟩, _, .ref C, some d, rfl, J, kG, gone, hoe, ⟨rfl, rfl, fun ws z => by cases z; rfl⟩, rfl, rfl, na, rfl, bare, raises_own T.exC T.tyC, q3⟩
      | next => exact fin.elim
      | brk => exact fin.elim
      | cont => exact fin.elim
end
def spInit (C : Addr) (n : Nat) (names : List Str) : Sp := fun vs H Q _ => vs.length = n + 1 ∧ ∃ (a : Addr) (ws : List V), vs = .ref a :: ws ∧ H a = some (exo a C none) ∧
  ∀ (d : Addr) (H2 : Hp), H d = none → d ≠ a → H2 a = some (exo a C (some d)) → H2 d = some (exd d (names.zip ws).reverse) → (∀ b, b ≠ a → b ≠ d → H2 b = H b) → Q .non H2
section
variable {P : Program} {w : World} {K : PySem.W.Frag} {mg : Str → Option Value} {base : Heap}
theorem init1 {qual : Str} {st : Stmt} {f C : Addr} {fd : FuncData} {a0 a1 n1 : Str} {p1 p2 p3 p4 : Pos} (Fi : Fun K "__init__" qual st f fd) (S : FnScope [a0, a1] [a0, a1] (defScope st)) (T : OexC K C) (hno : PySem.W.findIn K (.ref C) n1 = some none)
    (hb : defBody st = [.Assign [.Attribute (.Name a0 p1) n1 p2] (.Name a1 p3) p4]) (v0 : (defScope st).names.lookup a0 = some .local) (v1 : (defScope st).names.lookup a1 = some .local)
    (o0 : (a0 == ("__debug__" : Str)) = false ∧ (a0 == ("__classdict__" : Str)) = false) (o1 : (a1 == ("__debug__" : Str)) = false ∧ (a1 == ("__classdict__" : Str)) = false) : FnOk P w K mg base (L2N.CX P w) 1 f fd [a0, a1] (spInit C 1 [n1]) := by
  obtain ⟨oc, od, kV, doc, pm, an, cdv, ct, osl, rfl, lk, hcd⟩ := Fi.ex
  refine fn_of lk hcd S (fun vs H Q E h => h.1) fun A outer s H vs Q E hr h => ?_
  rw [hb]
  refine ⟨_, pss_cons (ps_ost (pe_var (i := 0) rfl (.inl v0) o0.1 o0.2) (pe_var (i := 1) rfl (.inl v1) o1.1 o1.2)) pss_nil, ?_⟩
  obtain ⟨hl, a, ws, rfl, ea, fin⟩ := h
  match ws, hl with
  | [y], _ =>
    refine ⟨y, rfl, .ref a, rfl, a, C, rfl, T, hno, .inl ⟨ea, fun dx hd hne => ?_⟩⟩
    refine fin dx _ hd hne upd_same ?_ fun b h1 h2 => ?_
    · rw [upd_ne hne, upd_same]
      rfl
    · rw [upd_ne h1, upd_ne h2]
theorem init_fin {C : Addr} {n : Nat} {names : List Str} {vs : List V} {H1 : Hp} {Q : XK} (hl : vs.length = n) (hn : n ≤ 900) (h : ∀ d, H1 d = none → Q (.ref C) (some d) (upd H1 d (.xd (names.zip vs).reverse))) :
    vs.length ≤ 1000 ∧ ∀ a, H1 a = none → spInit C n names (.ref a :: (vs ++ [])) (upd H1 a (exo a C none))
      (fun v H2 => v = .non ∧ ∃ (d : Addr) (fs : List (Str × V)), H2 a = some (exo a C (some d)) ∧ H2 d = some (exd d fs) ∧ H1 d = none ∧ Q (.ref C) (some d) (upd (del H2 a) d (.xd fs))) (fun _ _ _ => False) := by
  refine ⟨by omega, fun a ha => ⟨by simp [hl], a, vs, by simp, upd_same, fun d H2 hd hne h1 h2 h3 => ⟨rfl, d, _, h1, h2, ?_, ?_⟩⟩⟩
  · rw [upd_ne hne] at hd
    exact hd
  · rw [upd_ne hne] at hd
    have e : upd (del H2 a) d (.xd (names.zip vs).reverse) = upd H1 d (.xd (names.zip vs).reverse) := by
      funext b
      by_cases b1 : b = d
      · subst b1; rw [upd_same, upd_same]
      · rw [upd_ne b1, upd_ne b1]
        by_cases b2 : b = a
        · subst b2; rw [del_same, ha]
        · rw [del_ne b2, h3 b b2 b1, upd_ne b2]
    rw [e]
    exact h d hd
end
end XL
namespace XL
open PySem PySem.Spec PyProof.Rows L2
section
variable {X : Cx} {k : Nat} {f : Addr} {fd : FuncData} {x qual y : Str} {st : Stmt} {N ps : List Str} {q pos : Pos} {e : Expr} {es : List Expr} {t : TA} {p : Addr × Obj} {G : List V → Hp → VK → Prop}
theorem pe_hot (F : Fun X.K x qual st f fd) (S : FnScope N ps (defScope st)) (hot : L2H.Hot1 X.A p) (hp : p ∈ X.pn) (room : L2H.RoomH (k + 1) X.A) (hg : Gl X y) (hm : X.mg y = some (.ref f)) (bnd : Binds X.K fd ps [])
    (ha : PA X (e :: es) t) (hdb : (y == ("__debug__" : Str)) = false) (he : starEach (e :: es) X.env = (false, eval e X.env) :: starEach es X.env) (hpl : (backTo pos (starEach es X.env)).any (·.1) = false)
    (len : ∀ vs H Q, G vs H Q → vs.length = ps.length)
    (body : ∀ (cdv : Value) (s : Shared) (H : Hp) (vs : List V) (Q : VK), L2H.RoomH k (X.A.deeper (envOfC qual (defScope st) s.heap.objs.size f cdv)) → G vs H Q →
      ∃ tb, PSs (L2H.cxH (L2N.CX X.prog X.w) X.prog X.w X.K X.mg X.base N qual (defScope st) f cdv X.A X.stack s H (fun _ _ _ => False) p) (defBody st) tb ∧ tb { nx := fun _ H' => Q .non H', rt := Q } (L2.start N vs) H) :
    PE X (.Call (.Name y q) (e :: es) [] pos) (fun σ H Q => t σ H fun vs H1 => G vs H1 Q) := by
  obtain ⟨oc, od, kV, doc, pm, an, cdv, ct, osl, rfl, lk, hcd⟩ := F.ex
  refine ⟨fun pins s0 σ H0 Q I0 h0 => ?_⟩
  refine wpAny_Call_Name_kw (ld_glob I0 hg hm ?_ hdb)
  refine PySem.W.callWith_K (h₀ := X.base) I0.ok.mod.kin F.kp (thn (ha.run pos pins s0 σ H0 _ I0 h0) fun us s z => ⟨(let ⟨_, _, J, _⟩ := z; J.kIn), ?_⟩) he hpl
  obtain ⟨vs, H, I, rel, g⟩ := z
  have lv := len _ _ _ g
  have lu : us.length = ps.length := (Paired.length rel).symm.trans lv
  have b2 := bnd s us I.kIn (by rw [List.append_nil]; exact lu)
  rw [List.append_nil] at b2
  have P1 := I.pin p (List.mem_append_left _ hp)
  have pinned : L2H.PinOk X.stack H s p := ⟨P1.1, P1.2.1, fun m => (List.mem_cons.mp (I.stkSub p.1 m)).elim P1.2.2.1 P1.2.2.2.1, P1.2.2.2.2⟩
  have e0 := I.env0
  have kin : X.K.In s.heap := I.kIn
  have lim : s.heap.NoLimit := I.nolimit
  have kinds : ∀ z ∈ ps.zip us, (defScope st).names.lookup z.1 = some .local ∨ ((defScope st).names.lookup z.1 = some .cell ∧ ((cellsFrom (s.heap.objs.size + 1) (defScope st).names []).lookup z.1).isSome = true) := by
    rintro ⟨n, v⟩ m
    rcases S.par n (List.of_mem_zip m).1 with c | c
    · exact Or.inl c
    · exact Or.inr ⟨c, PySem.W.cellsFrom_some _ _ _ (Or.inl c)⟩
  show wpAny _ _ (call (.ref f) ([] ++ us)) _ _ _
  have go : codeAny (model X.prog X.w) X.A (.call (.ref f) ⟨us, []⟩) (CR (L2N.CX X.prog X.w) X.stack X.prog X.w H s Q fun _ _ _ => False) s := by
    refine codeAny_call_function room.depth (kin _ _ lk) rfl S.co S.gen rfl (PySem.W.codeRec_of kin hcd) (b2 _ _ _ _ ?_)
    refine wpAny_newFunctionEnv_cells S.kind kinds fun env hE s1 new => ?_
    subst hE
    refine ⟨lim.keeps new.toInCall.keep, codeAny_func ?_⟩
    obtain ⟨tb, ht, hq⟩ := body cdv s H vs Q (room.deeper _) g
    have J := L2H.inv_startH (CX := L2N.CX X.prog X.w) (E := fun _ _ _ => False) S pinned e0 lv rel new
    refine wpAny_mono (ht.run [] s1 (L2.start N vs) H _ J hq) (fun fl s2 got => ?_) fun u s2 got => got
    have out : ∀ {σ2 : L2.St} {H2 : Hp} {v : V} {u : Value}, Inv (L2H.cxH (L2N.CX X.prog X.w) X.prog X.w X.K X.mg X.base N qual (defScope st) f cdv X.A X.stack s H (fun _ _ _ => False) p) [] σ2 H2 s2 → RelV v u → Q v H2 → CE X.stack X.prog X.w H s Q u s2 :=
      fun {σ2 H2 v u} J2 rv qv => ⟨v, H2, J2.os, J2.bare, J2.base, J2.hok, rv, qv⟩
    cases fl with
    | ret u => exact (let ⟨v, σ2, H2, J2, rv, qv⟩ := got; out J2 rv qv)
    | next => exact (let ⟨σ2, H2, J2, qv⟩ := got; out (v := V.non) (u := Value.none) J2 rfl qv)
    | brk => exact (let ⟨_, _, _, qv⟩ := got; False.elim qv)
    | cont => exact (let ⟨_, _, _, qv⟩ := got; False.elim qv)
  refine wpAny_call (codeAny_mono go fun r s2 got => ?_)
  cases r with
  | error u =>
    obtain ⟨_, _, _, _, _, _, _, _, _, _, _, _, z⟩ := got
    exact z.elim
  | ok fl =>
    cases fl with
    | ret u => exact I.after got
    | next => exact False.elim got
    | brk => exact False.elim got
    | cont => exact False.elim got
end
def XD (d : Option Addr) (H : Hp) : Prop := ∀ dd, d = some dd → ∃ fs, H dd = some (.xd fs)
structure XC (K : PySem.W.Frag) (C : Addr) : Prop where
  cl : (PySem.W.clsIn K C).isSome = true
  ga : PySem.W.findIn K (.ref C) "__getattribute__" = some (some (.builtin "BaseException.__getattribute__"))
  gg : PySem.W.findIn K (.ref C) "__getattr__" = some none
  ex : PySem.W.subIn K (.ref C) (.type "BaseException") = some true
  ca : PySem.W.findIn K (.ref C) "__class__" = some (some (.builtin "object.__class__"))
  sp : PySem.W.specialIn K (.builtin "object.__class__") "__get__" = some (some (.builtin "getset_descriptor.__get__"))
  tk : PySem.W.takesIn K (.builtin "object.__class__") = some true
  mo : PySem.W.mroIn K C (.type "object") = some true
  hd : PySem.W.hasDictIn K C = true
section
variable {X : Cx} {C : Addr} {d : Option Addr} {p : Addr × Obj}
theorem inst_of {pins : List (Addr × Obj)} {σ : L2.St} {H : Hp} {s : Shared} (hp : p ∈ X.pn) (hc : p.2.cls = .ref C) (hd : p.2.dict = d) (hf : ∃ vs, p.2.data = .fields vs) (I : Inv X pins σ H s) (xd : XD d H) : ∃ od, PySem.W.InstAt s.heap p.1 p.2 C od := by
  obtain ⟨ha, _⟩ := I.pin p (List.mem_append_left _ hp)
  obtain ⟨vs, hv⟩ := hf
  cases d with
  | none => exact ⟨none, ha, hc, by unfold PySem.W.notCls; rw [hv] <;> rfl, by rw [hd]; trivial⟩
  | some dd =>
    obtain ⟨fs, ea⟩ := xd dd rfl
    have hx : ObjOk X.prog X.w H s.heap dd (.xd fs) := I.hok dd _ ea
    obtain ⟨mA, hns, hr⟩ := hx
    obtain ⟨od, ho, hl⟩ := lookIn_ns hns
    exact ⟨some od, ha, hc, by unfold PySem.W.notCls; rw [hv] <;> rfl, by rw [hd]; exact ho⟩
def rIsx (K : PySem.W.Frag) (a C : Addr) (d : Option Addr) : List V → Hp → VK → Prop := fun xs H Q => ∃ (c : V) (u : Value) (b : Bool), xs = [.ref a, c] ∧ ClsV c u ∧ PySem.W.kitOne K (.ref C) u = some b ∧ XD d H ∧ Q (.bl b) H
theorem call_isx (T : XC X.K C) (hp : p ∈ X.pn) (hc : p.2.cls = .ref C) (hd : p.2.dict = d) (hf : ∃ vs, p.2.data = .fields vs) : CallR X (.builtin "isinstance") (rIsx X.K p.1 C d) := by
  intro pins s σ H xs us Q I r h
  obtain ⟨c, u, b, rfl, cv, e, xd, q⟩ := h
  obtain ⟨u1, u2, rfl, r1, r2⟩ := vals2 r
  have e2 := cv.eq r2
  subst e2
  obtain rfl : u1 = Value.ref p.1 := r1
  obtain ⟨od, J⟩ := inst_of hp hc hd hf I xd
  exact PySem.W.kia_one (PySem.W.kitx_exc (od := od) T.cl T.ga T.gg T.ex T.ca T.sp T.tk T.mo) I.kIn J e (fun z => by cases z) fun tk => ⟨.bl b, H, I.tok tk, rfl, q⟩
end
def rCntF (K : PySem.W.Frag) : V → List V → Hp → VK → Prop := fun x xs H Q => ∃ (a : Addr) (ys : List V) (y : V), x = .ref a ∧ xs = [y] ∧ SqL K H a ys ∧ flatV y = true ∧ ys.all flatV = true ∧ Q (.int ((ys.countP fun z => eqV z y : Nat) : Int)) H
theorem count_eqU {y : V} : ∀ {ys : List V} {us : List Value}, Vals ys us → ys.all flatV = true → us.countP (eqU y) = ys.countP fun z => eqV z y
  | _, _, .nil, _ => rfl
  | z :: ys, u :: us, .cons r t, f => by
    rw [List.all_cons, Bool.and_eq_true] at f
    rw [List.countP_cons, List.countP_cons, count_eqU t f.2, eqU_of r f.1]
theorem mt_countF {X : Cx} : MtR X "list.count" (rCntF X.K) := by
  intro pins s σ H x xs v us Q I rx rxs h
  obtain ⟨a, ys, y, rfl, rfl, hs, fy, fys, q⟩ := h
  cases rx
  cases rxs with
  | cons ry rt =>
    rename_i uy ut
    cases rt
    obtain ⟨its, rv, ⟨⟨cls, dd, data, sl⟩, n, ho, hc, hdn, hd⟩, hlen⟩ := I.list hs
    simp only at hc hd
    subst hc hd
    refine call_meets PySem.F.slot_list_count ⟨_, ho, rfl⟩ PySem.F.entry_list_count (PySem.F.args_list_count_2 _ _) (SeqAt.list_countAt a its.toArray n dd sl uy (eqU y)) ⟨ho, fun w hw => mem_eqAt ry fy rv fys w (by simpa using hw), ?_⟩
    refine ⟨.int ((ys.countP fun z => eqV z y : Nat) : Int), H, I.tok _, ⟨s.toks, ?_⟩, q⟩
    show Value.int ((its.toArray.toList.countP (eqU y) : Nat) : Int) s.toks = _
    rw [show its.toArray.toList.countP (eqU y) = ys.countP fun z => eqV z y from count_eqU rv fys]
end XL
namespace XL
open PySem PySem.Spec PyProof.Rows L2
open TL (exN exW kindW)
def isxC (sc : Scope) (e c : Str) : Expr → Bool
  | .Call (.Name f _) [.Name y _, .Name z _] [] _ => f == "isinstance" && y == e && z == c && TL.glC sc "isinstance" && TL.glC sc c
  | _ => false
def isxsC (sc : Scope) (e : Str) : List Str → List Expr → Bool
  | [], [] => true
  | c :: cs, x :: xs => isxC sc e c x && isxsC sc e cs xs
  | _, _ => false
def strsC : List Str → List Expr → Bool
  | [], [] => true
  | c :: cs, .Constant (.str s) _ _ :: xs => c == s && strsC cs xs
  | _, _ => false
def mTrue (y m : Str) : Expr → Bool
  | .Call (.Attribute (.Name z _) n ap) [.Constant (.bool true) _ _] [] cp => z == y && n == m && ap.endLine == cp.line
  | _ => false
def kindC (sc : Scope) (e y : Str) : List Stmt → Bool
  | [.Assign [.Name m1 _] (.List l1 _) _, .Assign [.Name m2 _] (.BinOp (.Name m3 _) .Add (.List l2 _) _) _,
      .If (.BoolOp .Or [.UnaryOp .Not v _, .Compare c [.NotEq] [.Constant (.int 1) _ _] _] _) [.Return (some (.Constant (.str _) _ _)) _] [] _, .Return (some (.Subscript (.List l3 _) i _)) _] =>
    m1 == y && m2 == y && m3 == y && isxsC sc e (exN.take 4) l1 && isxsC sc e (exN.drop 4) l2 && isxC sc e "ValueError" v && mTrue y "count" c && strsC exW l3 && mTrue y "index" i
  | _ => false
structure KF (K : PySem.W.Frag) (mg : Str → Option Value) (cs : List Addr) : Prop where
  len : cs.length = 8
  g : ∀ (i : Nat) (C : Addr), cs[i]? = some C → ∀ c, exN[i]? = some c → mg c = some (.ref C)
  k : ∀ (i j : Nat) (C D : Addr), cs[i]? = some C → cs[j]? = some D → PySem.W.kitOne K (.ref C) (.ref D) = some (decide (i = j))
  v : ∀ (i : Nat) (C : Addr), cs[i]? = some C → PySem.W.kitOne K (.ref C) (.type "ValueError") = some true
  x : ∀ (i : Nat) (C : Addr), cs[i]? = some C → XC K C
section
variable {X : Cx} {C : Addr} {d : Option Addr} {p : Addr × Obj} {e y : Str} {sc : Scope}
structure Kx (X : Cx) (sc : Scope) (e y : Str) (p : Addr × Obj) (C : Addr) (d : Option Addr) : Prop where
  N : X.N = [e, y]
  ne : e ≠ y
  hsc : X.env.scope = sc
  le : sc.names.lookup e = some .local
  ly : sc.names.lookup y = some .local
  oe : (e == ("__debug__" : Str)) = false ∧ (e == ("__classdict__" : Str)) = false
  oy : (y == ("__debug__" : Str)) = false ∧ (y == ("__classdict__" : Str)) = false
  bi : X.mg "isinstance" = none
  bv : X.mg "ValueError" = none
  T : XC X.K C
  hp : p ∈ X.pn
  hc : p.2.cls = .ref C
  hd : p.2.dict = d
  hf : ∃ vs, p.2.data = .fields vs
theorem Kx.gl (k : Kx X sc e y p C d) {c : Str} (h : TL.glC sc c = true) : Gl X c := by
  show X.env.scope.names.lookup c = _
  rw [k.hsc]
  unfold TL.glC at h
  split at h
  · assumption
  · cases h
def Sx (p : Addr × Obj) (d : Option Addr) (σ : L2.St) (H : Hp) : Prop := σ.length = 2 ∧ σ[0]? = some (some (.ref p.1)) ∧ XD d H
theorem XD.same {H H' : Hp} (s : Same H H') (h : XD d H) : XD d H' := fun dd e => let ⟨fs, q⟩ := h dd e; ⟨fs, s _ _ q⟩
theorem same_upd {H : Hp} {q : Addr} {o : HO} (h : H q = none) : Same H (upd H q o) := fun b u e => by
  rw [upd_ne (fun z => by rw [z, h] at e; cases e)]
  exact e
theorem isx_pe (k : Kx X sc e y p C d) {c : Str} {x : Expr} {D : V} {u : Value} {b : Bool} (h : isxC sc e c x = true) (hm : (X.mg c = some u ∨ (X.mg c = none ∧ bootBuiltins c = some u ∧ c ≠ "__name__"))) (hD : RelV D u) (cv : ClsV D u) (hb : PySem.W.kitOne X.K (.ref C) u = some b) (od : (c == ("__debug__" : Str)) = false) :
    PE X x (fun σ H Q => Sx p d σ H ∧ Q (.bl b) H) := by
  unfold isxC at h
  split at h
  · rename_i f p1 y' p2 z p3 pos
    simp only [Bool.and_eq_true] at h
    obtain ⟨⟨⟨⟨h1, h2⟩, h3⟩, h4⟩, h5⟩ := h
    obtain rfl := TL.beq_str h1
    obtain rfl := TL.beq_str h2
    obtain rfl := TL.beq_str h3
    have v0 : PE X (.Name y' p2) (tVar 0) := pe_var (by rw [k.N]; rfl) (.inl (by rw [k.hsc]; exact k.le)) k.oe.1 k.oe.2
    have v1 : PE X (.Name z p3) (tC D) := by
      rcases hm with hm | ⟨hm, hv, hn⟩
      · exact pe_glob (k.gl h5) hm hD od
      · exact pe_bltn (k.gl h5) hm hv hD hn od
    refine (pe_callB (call_isx k.T k.hp k.hc k.hd k.hf) (k.gl h4) k.bi boot_isinstance (pa_cons v0 (pa_cons v1 pa_nil)) (by decide) (by decide)).imp fun σ H Q q => ?_
    exact ⟨_, q.1.2.1, D, u, b, rfl, cv, hb, q.1.2.2, q.2⟩
  · cases h
theorem isx_pa (k : Kx X sc e y p C d) (cs : List Addr) (hk : ∀ D ∈ cs, ∃ b, PySem.W.kitOne X.K (.ref C) (.ref D) = some b) : ∀ (ns : List Str) (bs : List Bool) (xs : List Expr), isxsC sc e ns xs = true → ns.length = bs.length →
    (∀ (i : Nat) (n : Str) (b : Bool), ns[i]? = some n → bs[i]? = some b → ∃ D, X.mg n = some (.ref D) ∧ PySem.W.kitOne X.K (.ref C) (.ref D) = some b ∧ (n == ("__debug__" : Str)) = false) →
    PA X xs (fun σ H Q => Sx p d σ H ∧ Q (bs.map V.bl) H)
  | [], [], [], _, _, _ => pa_nil.imp fun σ H Q q => q.2
  | n :: ns, b :: bs, x :: xs, h, hl, hf => by
    simp only [isxsC, Bool.and_eq_true] at h
    obtain ⟨D, m1, m2, m3⟩ := hf 0 n b rfl rfl
    have h0 := isx_pe k h.1 (.inl m1) (D := .ref D) rfl (.own D) m2 m3
    have hr := isx_pa k cs hk ns bs xs h.2 (by simpa using hl) fun i n b a c => hf (i + 1) n b (by simpa using a) (by simpa using c)
    refine (pa_cons h0 hr ?_).imp fun σ H Q q => ⟨q.1, q.1, q.2⟩
    have := h.1
    cases x <;> first | rfl | cases this
  | [], [], _ :: _, h, _, _ => by cases h
  | _ :: _, _, [], h, _, _ => by cases h
  | [], _ :: _, _, _, hl, _ => by cases hl
  | _ :: _, [], _, _, hl, _ => by cases hl
theorem strs_pa : ∀ (ws : List Str) (xs : List Expr), strsC ws xs = true → PA X xs (fun _ H Q => Q (ws.map V.str) H)
  | [], [], _ => pa_nil.imp fun σ H Q q => q
  | w :: ws, x :: xs, h => by
    unfold strsC at h
    split at h
    · rename_i h1 h2; cases h1
    · rename_i c cs s j p xs' h1 h2
      cases h1; cases h2
      simp only [Bool.and_eq_true] at h
      obtain rfl := TL.beq_str h.1
      exact (pa_cons pe_str (strs_pa _ _ h.2)).imp fun σ H Q q => q
    · cases h
  | [], _ :: _, h => by cases h
  | _ :: _, [], h => by cases h
theorem mtrue_pe (k : Kx X sc e y p C d) {m : Str} {id : String} {x : Expr} {r : V → List V → Hp → VK → Prop} (h : mTrue y m x = true) (slot : Slot "list" m id) (hty : typeOf (.builtin id) = pure (.type "method_descriptor")) (hm : MtR X id r) :
    PE X x (fun σ H Q => ∃ a ys, σ[1]? = some (some (.ref a)) ∧ H a = some (.lst ys) ∧ r (.ref a) [.bl true] H Q) := by
  unfold mTrue at h
  split at h
  · rename_i z p1 n ap j p2 cp
    simp only [Bool.and_eq_true] at h
    obtain rfl := TL.beq_str h.1.1
    obtain rfl := TL.beq_str h.1.2
    have v1 : PE X (.Name z p1) (tVar 1) := pe_var (by rw [k.N]; rfl) (.inl (by rw [k.hsc]; exact k.ly)) k.oy.1 k.oy.2
    refine (pe_bm PySem.F.plainAttrs_list slot hty hm v1 (pa_cons pe_bl pa_nil) (TL.base_of ⟨rfl, rfl⟩) (TL.few_of (by decide) rfl rfl) h.2 rfl rfl).imp fun σ H Q q => ?_
    obtain ⟨a, ys, h1, h2, h3⟩ := q
    exact ⟨_, h1, .inl ⟨rfl, ys, SqL.of h2⟩, h3⟩
  · cases h
def rowB (j : Nat) : List Bool := (List.range 8).map fun i => decide (j = i)
theorem row_facts : ∀ j, j < 8 → (((rowB j).map V.bl).countP fun z => eqV z (.bl true)) = 1 ∧ ((rowB j).map V.bl)[j]? = some (.bl true) ∧ (∀ (m : Nat) (z : V), m < j → ((rowB j).map V.bl)[m]? = some z → eqV z (.bl true) = false) ∧
    ((rowB j).map V.bl).all flatV = true ∧ atI (exW.map V.str) (j : Nat) = some (V.str (exW.getD j "")) := by
  intro j hj
  have h : j = 0 ∨ j = 1 ∨ j = 2 ∨ j = 3 ∨ j = 4 ∨ j = 5 ∨ j = 6 ∨ j = 7 := by omega
  have key : ∀ (k : Nat) (l : List V), (l.take k).all (fun z => !eqV z (.bl true)) = true → ∀ (m : Nat) (z : V), m < k → l[m]? = some z → eqV z (.bl true) = false := by
    intro k l h m z hm hz
    rw [List.all_eq_true] at h
    have : z ∈ l.take k := List.mem_of_getElem? (i := m) (by rw [List.getElem?_take_of_lt hm]; exact hz)
    simpa using h z this
  rcases h with h | h | h | h | h | h | h | h <;> subst h <;> exact ⟨by decide +kernel, rfl, key _ _ (by decide +kernel), by decide +kernel, rfl⟩
theorem kind_body (k : Kx X sc e y p C d) {cs : List Addr} (F : KF X.K X.mg cs) {j : Nat} (hj : cs[j]? = some C) {body : List Stmt} (h : kindC sc e y body = true) :
    PSs X body (fun D σ H => Sx p d σ H ∧ ∀ H', Same H H' → D.rt (.str (exW.getD j "")) H') := by
  have j8 : j < 8 := by
    have := (List.getElem?_eq_some_iff.mp hj).1
    rw [F.len] at this
    exact this
  obtain ⟨f1, f2, f3, f4, f5⟩ := row_facts j j8
  unfold kindC at h
  split at h
  · rename_i m1 q1 l1 q2 q3 m2 q4 m3 q5 l2 q6 q7 q8 v q9 c i1 q10 q11 q12 o i2 q13 q14 q15 l3 q16 i q17 q18
    simp only [Bool.and_eq_true] at h
    obtain ⟨⟨⟨⟨⟨⟨⟨⟨h1, h2⟩, h3⟩, h4⟩, h5⟩, h6⟩, h7⟩, h8⟩, h9⟩ := h
    obtain rfl := TL.beq_str h1
    obtain rfl := TL.beq_str h2
    obtain rfl := TL.beq_str h3
    have hN : X.N.Nodup := by
      rw [k.N]
      simpa using k.ne
    have loc : Loc X.env.scope m3 := .inl (by rw [k.hsc]; exact k.ly)
    have loc2 : X.env.scope.names.lookup m3 = some .local := by rw [k.hsc]; exact k.ly
    have v1 := fun pos => (pe_var (X := X) (pos := pos) (i := 1) (x := m3) (by rw [k.N]; rfl) (.inl loc2) k.oy.1 k.oy.2)
    have hk : ∀ D ∈ cs, ∃ b, PySem.W.kitOne X.K (.ref C) (.ref D) = some b := fun D hD => by
      obtain ⟨i, hi⟩ := List.mem_iff_getElem?.mp hD
      exact ⟨_, F.k j i C D hj hi⟩
    have nm : ∀ (i : Nat) (n : Str), exN[i]? = some n → (n == ("__debug__" : Str)) = false := by
      intro i n hi
      have hm := List.mem_of_getElem? hi
      have : ∀ n ∈ exN, (n == ("__debug__" : Str)) = false := by decide +kernel
      exact this n hm
    have fact : ∀ (i : Nat) (n : Str) (b : Bool), exN[i]? = some n → (rowB j)[i]? = some b → ∃ D, X.mg n = some (.ref D) ∧ PySem.W.kitOne X.K (.ref C) (.ref D) = some b ∧ (n == ("__debug__" : Str)) = false := by
      intro i n b hi hb
      have i8 : i < 8 := (List.getElem?_eq_some_iff.mp hi).1
      have ic : i < cs.length := by rw [F.len]; exact i8
      refine ⟨cs[i], F.g i _ (List.getElem?_eq_getElem ic) n hi, ?_, nm i n hi⟩
      rw [F.k j i C _ hj (List.getElem?_eq_getElem ic)]
      unfold rowB at hb
      rw [List.getElem?_map, List.getElem?_range i8] at hb
      exact hb
    have a1 := isx_pa k cs hk (exN.take 4) ((rowB j).take 4) l1 h4 (by simp [rowB]; rfl) fun i n b hi hb => by
      have i4 : i < 4 := (List.getElem?_eq_some_iff.mp hi).1
      rw [List.getElem?_take_of_lt i4] at hi hb
      exact fact i n b hi hb
    have a2 := isx_pa k cs hk (exN.drop 4) ((rowB j).drop 4) l2 h5 (by simp [rowB]; rfl) fun i n b hi hb => by
      rw [List.getElem?_drop] at hi hb
      exact fact (4 + i) n b hi hb
    have w := isx_pe k h6 (.inr ⟨k.bv, PyProof.Rows.Boot.«ValueError», by decide⟩) (D := .ty "ValueError") rfl (.ty _) (F.v j C hj) (by decide)
    have wt := pt_not (pos := q9) (pt_val w (by intro _; cases v <;> first | rfl | cases h6))
    have cnt := mtrue_pe k h7 PySem.F.slot_list_count PySem.F.type_list_count mt_countF
    have ix := mtrue_pe k h9 PySem.F.slot_list_index PySem.F.type_list_index mt_index
    have pl : PlainIx i := by
      intro o u
      cases i <;> first | rfl | cases h9
    refine (pss_cons (ps_set (i := 1) hN (by rw [k.N]; rfl) loc (pe_lst a1) (by rfl) (.inr loc2))
      (pss_cons (ps_set (i := 1) hN (by rw [k.N]; rfl) loc (pe_op op_cat (v1 _) (pe_lst a2)) (by rfl) (.inr loc2))
      (pss_cons (ps_if (pw_or wt (pw_or1 (pt_cmpR op_ne cnt pe_int rfl))).pt (pss_cons (ps_ret pe_str) pss_nil) pss_nil)
      (pss_cons (ps_ret (pe_ix ix_list (pe_lst (strs_pa _ _ h8)) ix pl)) pss_nil)))).imp fun D σ H q => ?_
    obtain ⟨⟨sl, s0, sx⟩, fin⟩ := q
    refine ⟨⟨sl, s0, sx⟩, by simp [rowB, sizeLine_eq], fun p1 n1 => ?_⟩
    have e0 : (σ.set 1 (some (V.ref p1)))[0]? = some (some (V.ref p.1)) := by rw [List.getElem?_set_ne (by omega)]; exact s0
    have e1 : (σ.set 1 (some (V.ref p1)))[1]? = some (some (V.ref p1)) := by rw [List.getElem?_set_self (by omega)]
    have x1 := sx.same (same_upd (o := .lst (((rowB j).take 4).map V.bl)) n1)
    refine ⟨_, e1, ⟨by simpa using sl, e0, x1⟩, by simp [rowB, sizeLine_eq], fun p2 n2 => ?_⟩
    have d12 : p1 ≠ p2 := fun z => by rw [← z, upd_same] at n2; cases n2
    refine ⟨p1, p2, _, _, rfl, rfl, by rw [upd_ne d12, upd_same], upd_same, by simp [rowB, sizeLine_eq], fun p3 n3 => ?_⟩
    have e2 : ((σ.set 1 (some (V.ref p1))).set 1 (some (V.ref p3)))[0]? = some (some (V.ref p.1)) := by rw [List.getElem?_set_ne (by omega)]; exact e0
    have e3 : ((σ.set 1 (some (V.ref p1))).set 1 (some (V.ref p3)))[1]? = some (some (V.ref p3)) := by rw [List.getElem?_set_self (by simp; omega)]
    have x2 := x1.same (same_upd (o := .lst (((rowB j).drop 4).map V.bl)) n2)
    have x3 := x2.same (same_upd (o := .lst (((rowB j).take 4).map V.bl ++ ((rowB j).drop 4).map V.bl)) n3)
    have eb : ((rowB j).take 4).map V.bl ++ ((rowB j).drop 4).map V.bl = (rowB j).map V.bl := by rw [← List.map_append, List.take_append_drop]
    have el : upd (upd (upd H p1 (.lst (((rowB j).take 4).map V.bl))) p2 (.lst (((rowB j).drop 4).map V.bl))) p3 (.lst (((rowB j).take 4).map V.bl ++ ((rowB j).drop 4).map V.bl)) p3 = some (.lst ((rowB j).map V.bl)) := by rw [upd_same, eb]
    refine ⟨⟨by simpa using sl, e2, x3⟩, true, rfl, ?_⟩
    refine ⟨p3, _, e3, el, p3, _, _, rfl, rfl, SqL.of (el), rfl, f4, ?_⟩
    rw [f1]
    refine ⟨rfl, false, rfl, ?_⟩
    refine ⟨by simp [exW, sizeLine_eq], fun p4 n4 => ?_⟩
    have k3 : ∀ {o : HO}, upd (upd (upd (upd H p1 (.lst (((rowB j).take 4).map V.bl))) p2 (.lst (((rowB j).drop 4).map V.bl))) p3 (.lst (((rowB j).take 4).map V.bl ++ ((rowB j).drop 4).map V.bl))) p4 o p3 = some (.lst ((rowB j).map V.bl)) := fun {o} => same_upd n4 _ _ (el)
    refine ⟨p3, _, e3, k3, p3, _, .bl true, j, .bl true, rfl, rfl, SqL.of k3, rfl, f4, f2, rfl, f3, ?_⟩
    refine ⟨p4, exW.map V.str, (j : Nat), V.str (exW.getD j ""), rfl, rfl, SqL.of upd_same, f5, fin _ ?_⟩
    exact fun b o hb => same_upd n4 _ _ (same_upd n3 _ _ (same_upd n2 _ _ (same_upd n1 _ _ hb)))
  · cases h
end
end XL
namespace TL
open PySem PySem.Spec PyProof.Rows L2
section
variable (K : PySem.W.Frag) (XR : XRel) (W : WX)
def PostS (Z : Addr → Prop) (ι : Nat → Addr) (n : Nat) (H : Hp) (D : Ends) : Option (Out × Sto) → Prop
  | none => False
  | some (.nx l', S') => ∀ ι' H' σ', Step ι n H ι' S'.length H' → Rel K Z ι' S' H' → Sl K Z H' ι' S'.length σ' l' → D.nx σ' H'
  | some (.rt t, S') => ∀ ι' H' v, Step ι n H ι' S'.length H' → Rel K Z ι' S' H' → Is K Z H' ι' S'.length v t → D.rt v H'
  | some (.er x l', S') => ∀ ι' H' σ' cls d, Step ι n H ι' S'.length H' → Rel K Z ι' S' H' → Sl K Z H' ι' S'.length σ' l' → XR Z x cls d H' ι' S'.length → W cls d σ' H'
def liftS (f : SS) : TS := fun D σ H => ∃ (Z : Addr → Prop) (ι : Nat → Addr) (S : Sto) (l : Lo), Rel K Z ι S H ∧ Sl K Z H ι S.length σ l ∧ PostS K XR W Z ι S.length H D (f l S)
end
section
variable {K : PySem.W.Frag} {XR : XRel} {W : WX} {Z : Addr → Prop} {H : Hp} {ι : Nat → Addr} {S : Sto} {σ : L2.St} {D : Ends}
theorem PostS.of_step {ι ι1 : Nat → Addr} {n n1 : Nat} {H H1 : Hp} (s : Step ι n H ι1 n1 H1) : ∀ {o : Option (Out × Sto)}, PostS K XR W Z ι n H D o → PostS K XR W Z ι1 n1 H1 D o
  | none, h => h
  | some (.nx l', S'), h => fun ι' H' v st R i => h ι' H' v (s.trans st) R i
  | some (.rt l', S'), h => fun ι' H' v st R i => h ι' H' v (s.trans st) R i
  | some (.er x l', S'), h => fun ι' H' σ' cls d st R i => h ι' H' σ' cls d (s.trans st) R i
theorem bindS_post {f : SE} {g : T → SS} {l : Lo} (R : Rel K Z ι S H) (sl : Sl K Z H ι S.length σ l) (p : PostS K XR W Z ι S.length H D (bindS f g l S)) :
    Post K XR W Z ι S.length H σ (fun x H1 => ∃ (ι : Nat → Addr) (S : Sto) (t : T), Rel K Z ι S H1 ∧ Sl K Z H1 ι S.length σ l ∧ Is K Z H1 ι S.length x t ∧ PostS K XR W Z ι S.length H1 D (g t l S)) (f l S) := by
  simp only [bindS] at p
  cases e : f l S with
  | none => rw [e] at p; exact p
  | some r =>
    obtain ⟨r, S'⟩ := r
    rw [e] at p
    cases r with
    | err x => exact fun ι' H' cls d st R' xr => p ι' H' σ cls d st R' (Sl.step R st sl) xr
    | ok t => exact fun ι' H' v st R' i => ⟨ι', S', t, R', Sl.step R st sl, i, p.of_step st⟩
theorem bindS_lift {f : SE} {g : T → SS} (h : liftS K XR W (bindS f g) D σ H) :
    liftE K XR W f σ H fun x H1 => ∃ (Z : Addr → Prop) (ι : Nat → Addr) (S : Sto) (l : Lo) (t : T), Rel K Z ι S H1 ∧ Sl K Z H1 ι S.length σ l ∧ Is K Z H1 ι S.length x t ∧ PostS K XR W Z ι S.length H1 D (g t l S) := by
  obtain ⟨Z, ι, S, l, R, sl, p⟩ := h
  exact ⟨Z, ι, S, l, [], R, sl, .nil, (bindS_post R sl p).mono fun v H ⟨ι, S, t, a, b, c, d⟩ => ⟨Z, ι, S, l, t, a, b, c, d⟩⟩
theorem seq_lift {f g : SS} (h : liftS K XR W (thenS f g) D σ H) : tSeq (liftS K XR W f) (liftS K XR W g) D σ H := by
  obtain ⟨Z, ι, S, l, R, sl, p⟩ := h
  refine ⟨Z, ι, S, l, R, sl, ?_⟩
  simp only [thenS] at p
  cases e : f l S with
  | none => rw [e] at p; exact p
  | some r =>
    obtain ⟨r, S'⟩ := r
    rw [e] at p
    cases r with
    | nx l' => exact fun ι' H' σ' st R' sl' => ⟨Z, ι', S', l', R', sl', p.of_step st⟩
    | rt t => exact p
    | er x l' => exact p
theorem nil_lift (h : liftS K XR W (fun l S => some (.nx l, S)) D σ H) : tNext D σ H := by
  obtain ⟨Z, ι, S, l, R, sl, p⟩ := h
  exact p ι H σ .refl R sl
theorem drop_lift {f : SE} (h : liftS K XR W (bindS f fun _ l S => some (.nx l, S)) D σ H) : tDrop (liftE K XR W f) D σ H := by
  refine lift_mono (fun x H1 h1 => ?_) (bindS_lift h)
  obtain ⟨Z, ι, S, l, t, R, sl, i, p⟩ := h1
  exact p ι H1 σ .refl R sl
theorem asg_lift {f : SE} {tg : Tg} {g : TG} (hg : GOk K tg g) (h : liftS K XR W (bindS f fun t l S => match asgTg tg t l with
    | some l' => some (.nx l', S)
    | none => none) D σ H) : tAsg (liftE K XR W f) g D σ H := by
  refine lift_mono (fun x H1 h1 => ?_) (bindS_lift h)
  obtain ⟨Z, ι, S, l, t, R, sl, i, p⟩ := h1
  cases e : asgTg tg t l with
  | none => simp only [e] at p; exact p.elim
  | some l' =>
    simp only [e] at p
    exact hg R i sl e fun σ2 sl2 _ => p ι H1 σ2 .refl R sl2
theorem ret_liftS {f : SE} (h : liftS K XR W (bindS f fun t _ S => some (.rt t, S)) D σ H) : tRet (liftE K XR W f) D σ H := by
  refine lift_mono (fun x H1 h1 => ?_) (bindS_lift h)
  obtain ⟨Z, ι, S, l, t, R, sl, i, p⟩ := h1
  exact p ι H1 x .refl R i
theorem retN_lift (h : liftS K XR W (fun _ S => some (.rt .non, S)) D σ H) : tRetN D σ H := by
  obtain ⟨Z, ι, S, l, R, sl, p⟩ := h
  exact p ι H .non .refl R .non
theorem ite_liftS {f : SE} {a b : SS} (h : liftS K XR W (bindS f fun t => match t with
    | .bl true => a
    | .bl false => b
    | _ => fun _ _ => none) D σ H) : tIfS (tB (liftE K XR W f)) (liftS K XR W a) (liftS K XR W b) D σ H := by
  refine lift_mono (fun x H1 h1 => ?_) (bindS_lift h)
  obtain ⟨Z, ι, S, l, t, R, sl, i, p⟩ := h1
  cases t <;> first | exact p.elim | skip
  rename_i c
  refine ⟨c, is_bl i, ?_⟩
  cases c with
  | true => simp only [if_true]; exact ⟨Z, ι, S, l, R, sl, p⟩
  | false => simp only [Bool.false_eq_true, if_false]; exact ⟨Z, ι, S, l, R, sl, p⟩
theorem par_lift {f : SE} {i j : Nat} (h : liftS K XR W (bindS f fun t l S => match t with
    | .lst [x, y] => some (.nx ((l.set i (some x)).set j (some y)), S)
    | _ => none) D σ H) : tPar i j (liftA K XR W f) D σ H := by
  obtain ⟨Z, ι, S, l, R, sl, p⟩ := h
  refine ⟨Z, ι, S, l, R, sl, ?_⟩
  simp only [bindS] at p
  cases e : f l S with
  | none => rw [e] at p; exact p
  | some r =>
    obtain ⟨r, S'⟩ := r
    rw [e] at p
    cases r with
    | err x => exact fun ι' H' cls d st R' xr => p ι' H' σ cls d st R' (Sl.step R st sl) xr
    | ok t =>
      dsimp only at p
      split at p
      · rename_i x y
        intro ι' H' vs st R' ia
        obtain ⟨v, w, rfl, iv, iw⟩ := ia.inv2
        exact ⟨v, w, rfl, p ι' H' _ st R' (((Sl.step R st sl).set i iv).set j iw)⟩
      · exact p.elim
theorem aug_lift {f : SE} {i : Nat} (h : liftS K XR W (fun l S => match l[i]? with
    | some (some (.int k)) => bindS f (fun t l S => match t with
      | .int j => some (.nx (l.set i (some (.int (k + j)))), S)
      | _ => none) l S
    | _ => none) D σ H) : tAug i (liftE K XR W f) (ipI fun a b => a + b) D σ H := by
  obtain ⟨Z, ι, S, l, R, sl, p⟩ := h
  dsimp only at p
  split at p
  · rename_i k e
    obtain ⟨v, e1, iv⟩ := sl.2 i _ e
    cases is_int iv
    refine ⟨.int k, e1, Z, ι, S, l, [], R, sl, .nil, (bindS_post R sl p).mono ?_⟩
    rintro y H1 ⟨ι, S, t, R, sl, it, p⟩
    split at p
    · rename_i j
      cases is_int it
      exact ⟨k, j, rfl, rfl, p ι H1 _ .refl R (sl.set i (.int _))⟩
    · exact p.elim
  · exact p.elim
theorem bindS_lift3 {fa fb fc : SE} {g : T → T → T → SS} (h : liftS K XR W (bindS fa fun x => bindS fb fun y => bindS fc fun z => g x y z) D σ H) :
    liftE K XR W fa σ H fun x H1 => liftE K XR W fb σ H1 fun y H2 => liftE K XR W fc σ H2 fun z H3 => ∃ (Z : Addr → Prop) (ι : Nat → Addr) (S : Sto) (l : Lo) (a b c : T), Rel K Z ι S H3 ∧ Sl K Z H3 ι S.length σ l ∧ Is K Z H3 ι S.length x a ∧ Is K Z H3 ι S.length y b ∧ Is K Z H3 ι S.length z c ∧ PostS K XR W Z ι S.length H3 D (g a b c l S) := by
  obtain ⟨Z, ι, S, l, R, sl, p⟩ := h
  refine ⟨Z, ι, S, l, [], R, sl, .nil, ?_⟩
  simp only [bindS] at p
  show Post K XR W Z ι S.length H σ _ (fa l S)
  cases e : fa l S with
  | none => rw [e] at p; exact p
  | some r =>
    obtain ⟨r, S1⟩ := r
    rw [e] at p
    cases r with
    | err x => exact fun ι' H' cls d st R' xr => p ι' H' σ cls d st R' (Sl.step R st sl) xr
    | ok t1 =>
      intro ι1 H1 v1 st1 R1 i1
      have p := PostS.of_step st1 p
      have sl1 := Sl.step R st1 sl
      refine ⟨Z, ι1, S1, l, [], R1, sl1, .nil, ?_⟩
      dsimp only at p
      show Post K XR W Z ι1 S1.length H1 σ _ (fb l S1)
      cases e : fb l S1 with
      | none => rw [e] at p; exact p
      | some r =>
        obtain ⟨r, S2⟩ := r
        rw [e] at p
        cases r with
        | err x => exact fun ι' H' cls d st R' xr => p ι' H' σ cls d st R' (Sl.step R1 st sl1) xr
        | ok t2 =>
          intro ι2 H2 v2 st2 R2 i2
          have p := PostS.of_step st2 p
          have sl2 := Sl.step R1 st2 sl1
          refine ⟨Z, ι2, S2, l, [], R2, sl2, .nil, ?_⟩
          dsimp only at p
          show Post K XR W Z ι2 S2.length H2 σ _ (fc l S2)
          cases e : fc l S2 with
          | none => rw [e] at p; exact p
          | some r =>
            obtain ⟨r, S3⟩ := r
            rw [e] at p
            cases r with
            | err x => exact fun ι' H' cls d st R' xr => p ι' H' σ cls d st R' (Sl.step R2 st sl2) xr
            | ok t3 =>
              intro ι3 H3 v3 st3 R3 i3
              exact ⟨Z, ι3, S3, l, t1, t2, t3, R3, Sl.step R2 st3 sl2, Is.step R2 st3 (Is.step R1 st2 i1), Is.step R2 st3 i2, i3, PostS.of_step st3 p⟩
theorem put_lift {fa fb fc : SE} (h : liftS K XR W (bindS fc fun v => bindS fa fun x => bindS fb fun y => fun l S => match putI v x y S with
    | some S' => some (.nx l, S')
    | none => none) D σ H) : tAsg (liftE K XR W fc) (gSub (liftE K XR W fa) (liftE K XR W fb) (rPut K)) D σ H := by
  refine lift_mono (fun v H1 h1 => lift_mono (fun x H2 h2 => lift_mono (fun y H3 h3 => ?_) h2) h1) (bindS_lift3 h)
  obtain ⟨Z, ι, S, l, c, a, b, R, sl, ic, ia, ib, p⟩ := h3
  cases e : putI c a b S with
  | none => simp only [e] at p; exact p.elim
  | some S' =>
    simp only [e] at p
    exact ⟨Z, ι, S, a, b, c, S', R, ia, ib, ic, e, fun ι' H' st R' => p ι' H' σ st R' (Sl.step R st sl)⟩
theorem loop_lift {fi : SE} {tg : Tg} {g : TG} {b : SS} (hg : GOk K tg g) (h : liftS K XR W (bindS fi fun d l S => match srcItems d S with
    | some items => loopL tg b d items items l S
    | none => none) D σ H) : tFor (liftI K XR W fi) g (liftS K XR W b) D σ H := by
  obtain ⟨Z, ι, S, l, R, sl, p⟩ := h
  refine ⟨Z, ι, S, l, R, sl, ?_⟩
  simp only [bindS] at p
  cases e : fi l S with
  | none => rw [e] at p; exact p
  | some r =>
    obtain ⟨r, S1⟩ := r
    rw [e] at p
    cases r with
    | err x => exact fun ι' H' cls d st R' xr => p ι' H' σ cls d st R' (Sl.step R st sl) xr
    | ok d =>
      dsimp only at p
      cases e2 : srcItems d S1 with
      | none => rw [e2] at p; exact p.elim
      | some items =>
        rw [e2] at p
        refine ⟨items, e2, fun ι1 H1 J st1 R1 w => ?_⟩
        let Pv : Nat → L2.St → Hp → Prop := fun i σ' H' => ∃ (ι' : Nat → Addr) (S' : Sto) (l' : Lo), Step ι1 S1.length H1 ι' S'.length H' ∧ Rel K Z ι' S' H' ∧ Sl K Z H' ι' S'.length σ' l' ∧ PostS K XR W Z ι' S'.length H' D (loopL tg b d items (items.drop i) l' S')
        refine ⟨fun i m σ' H' => m = items.length - i ∧ i ≤ items.length ∧ Pv i σ' H', ⟨items.length, by simp, Nat.zero_le _, ι1, S1, l, .refl, R1, Sl.step R st1 sl, by simpa using PostS.of_step st1 p⟩, ?_⟩
        rintro i m σ' H' ⟨rfl, hi, ι', S', l', st, R', sl', pv⟩
        by_cases hlt : i < items.length
        · have ed : items.drop i = items[i] :: items.drop (i + 1) := by rw [List.drop_eq_getElem_cons hlt]
          rw [ed] at pv
          simp only [loopL] at pv
          by_cases ok : okSrc d items S' = true
          · rw [if_pos ok] at pv
            obtain ⟨w1, w2, w3⟩ := w.run Z ι' S' H' (fun _ _ _ z => z) st R' ok
            refine .inr ⟨w1 i hlt, Pv (i + 1), fun σ'' H'' p' => ⟨items.length - (i + 1), by omega, rfl, hlt, p'⟩, fun x H'' y => ?_⟩
            obtain ⟨t, ht', s3, R3, ix⟩ := w3 i x H'' hlt y
            rw [List.getElem?_eq_getElem hlt] at ht'
            cases ht'
            cases q1 : asgTg tg items[i] l' with
            | none => rw [q1] at pv; exact pv.elim
            | some l1 =>
              rw [q1] at pv
              dsimp only at pv
              refine hg R3 ix (Sl.step R' s3 sl') q1 fun σ2 sl2 _ => ⟨Z, ι', S', l1, R3, sl2, ?_⟩
              simp only [thenS] at pv
              have pv := PostS.of_step s3 pv
              cases q2 : b l1 S' with
              | none => rw [q2] at pv; exact pv
              | some r2 =>
                obtain ⟨r2, S4⟩ := r2
                rw [q2] at pv
                cases r2 with
                | nx l2 => exact fun ι4 H4 σ4 st4 R4 sl4 => ⟨ι4, S4, l2, (st.trans s3).trans st4, R4, sl4, PostS.of_step st4 pv⟩
                | rt t => exact pv
                | er x l2 => exact pv
          · rw [if_neg ok] at pv; exact pv.elim
        · have ei : i = items.length := by omega
          subst ei
          rw [List.drop_length] at pv
          simp only [loopL] at pv
          by_cases ok : okSrc d items S' = true
          · rw [if_pos ok] at pv
            exact .inl ⟨(w.run Z ι' S' H' (fun _ _ _ z => z) st R' ok).2.1, pv ι' H' σ' .refl R' sl'⟩
          · rw [if_neg ok] at pv; exact pv.elim
theorem wh_lift {fc : SE} {b : SS} {n : Nat} (h : liftS K XR W (whL fc b n) D σ H) : tWhile (tB (liftE K XR W fc)) (liftS K XR W b) D σ H := by
  refine ⟨fun m σ H => liftS K XR W (whL fc b m) D σ H, ⟨n, h⟩, fun m σ H h => ?_⟩
  cases m with
  | zero =>
    obtain ⟨Z, ι, S, l, R, sl, p⟩ := h
    exact p.elim
  | succ m =>
    refine lift_mono (fun x H1 h1 => ?_) (bindS_lift h)
    obtain ⟨Z, ι, S, l, t, R, sl, i, p⟩ := h1
    cases t <;> first | exact p.elim | skip
    rename_i c
    refine ⟨c, is_bl i, ?_⟩
    cases c with
    | false => simp only [Bool.false_eq_true, if_false]; exact p ι H1 σ .refl R sl
    | true =>
      simp only [if_true]
      refine ⟨fun σ' H' => liftS K XR W (whL fc b m) D σ' H', fun σ' H' h => ⟨m, Nat.lt_succ_self _, h⟩, Z, ι, S, l, R, sl, ?_⟩
      dsimp only at p
      simp only [thenS] at p
      cases q2 : b l S with
      | none => rw [q2] at p; exact p
      | some r2 =>
        obtain ⟨r2, S4⟩ := r2
        rw [q2] at p
        cases r2 with
        | nx l2 => exact fun ι4 H4 σ4 st4 R4 sl4 => ⟨Z, ι4, S4, l2, R4, sl4, PostS.of_step st4 p⟩
        | rt t => exact p
        | er x l2 => exact p
end
end TL
namespace TL
open PySem PySem.Spec PyProof.Rows L2 XL
def XF (mg : Str → Option Value) (x : Exn) (cls : Value) (d : Option Addr) (H : Hp) : Prop := ∃ C : Addr, mg x.cls = some (.ref C) ∧ cls = .ref C ∧
  ((d = none ∧ x.fs = []) ∨ ∃ (dd : Addr) (fs : List (Str × V)), d = some dd ∧ H dd = some (.xd fs) ∧ ∀ (nm : Str) (i : Int), x.fs.lookup nm = some (.int i) → fs.lookup nm = some (.int i))
def XR1 (mg : Str → Option Value) : XRel := fun _ x cls d H _ _ => XF mg x cls d H
theorem xok1 {K : PySem.W.Frag} {mg : Str → Option Value} : XOk K (XR1 mg) := fun _ _ _ _ _ _ _ _ _ _ h => h
section
variable {K : PySem.W.Frag} {mg : Str → Option Value} {x : Exn} {cls : Value} {d : Option Addr} {Z : Addr → Prop} {H H' : Hp} {ι ι' : Nat → Addr} {n' : Nat} {S : Sto} {σ : L2.St} {Q : VK} {XR : XRel} {W : WX}
theorem XF.step (R : Rel K Z ι S H) (st : Step ι S.length H ι' n' H') (h : XF mg x cls d H) : XF mg x cls d H' := by
  obtain ⟨C, a, b, c⟩ := h
  refine ⟨C, a, b, ?_⟩
  rcases c with c | ⟨dd, fs, e, l, q⟩
  · exact .inl c
  · refine .inr ⟨dd, fs, e, st.keep _ _ l fun i hi z => ?_, q⟩
    have o := R.obj i S[i] (List.getElem?_eq_getElem hi)
    rw [z] at o
    generalize S[i] = ob at o
    cases o with
    | lst w _ => rw [l] at w; cases w
    | dK w _ _ => rw [l] at w; cases w
    | dT w _ _ => rw [l] at w; cases w
theorem lift_keep {f : SE} (fx : XF mg x cls d H) (h : liftE K XR W f σ H Q) : liftE K XR W f σ H fun v H' => XF mg x cls d H' ∧ Q v H' := by
  obtain ⟨Z, ι, S, l, ts, R, sl, ia, p⟩ := h
  refine ⟨Z, ι, S, l, ts, R, sl, ia, ?_⟩
  show Post K XR W Z ι S.length H σ _ (f l S)
  cases e : f l S with
  | none => simp only [e] at p; exact p
  | some r =>
    obtain ⟨r, S'⟩ := r
    simp only [e] at p
    cases r with
    | err y => exact p
    | ok t => exact fun ι' H' v st R' iv => ⟨fx.step R st, p ι' H' v st R' iv⟩
theorem liftA_keep {f : SE} {Q : List V → Hp → Prop} (fx : XF mg x cls d H) (h : liftA K XR W f σ H Q) : liftA K XR W f σ H fun v H' => XF mg x cls d H' ∧ Q v H' := by
  obtain ⟨Z, ι, S, l, R, sl, p⟩ := h
  refine ⟨Z, ι, S, l, R, sl, ?_⟩
  cases e : f l S with
  | none => rw [e] at p; exact p
  | some r =>
    obtain ⟨r, S'⟩ := r
    rw [e] at p
    cases r with
    | err y => exact p
    | ok t =>
      cases t with
      | lst ts => exact fun ι' H' v st R' iv => ⟨fx.step R st, p ι' H' v st R' iv⟩
      | _ => exact p
def liftX (K : PySem.W.Frag) (mg : Str → Option Value) (x : Exn) (cls : Value) (d : Option Addr) (i : Nat) (a : Addr) (f : SE) : TE := fun σ H Q => XF mg x cls d H ∧ σ[i]? = some (some (.ref a)) ∧ liftE K (XR1 mg) WF f σ H Q
def liftXA (K : PySem.W.Frag) (mg : Str → Option Value) (x : Exn) (cls : Value) (d : Option Addr) (i : Nat) (a : Addr) (f : SE) : TA := fun σ H Q => XF mg x cls d H ∧ σ[i]? = some (some (.ref a)) ∧ liftA K (XR1 mg) WF f σ H Q
variable {i : Nat} {a : Addr}
theorem up {f : SE} {P : VK} (fx : XF mg x cls d H) (s : σ[i]? = some (some (.ref a))) (h : liftE K (XR1 mg) WF f σ H P) (hp : ∀ v H', XF mg x cls d H' → P v H' → Q v H') : liftX K mg x cls d i a f σ H Q :=
  ⟨fx, s, lift_mono (fun v H' z => hp v H' z.1 z.2) (lift_keep fx h)⟩
theorem upA {f : SE} {P Q : List V → Hp → Prop} (fx : XF mg x cls d H) (s : σ[i]? = some (some (.ref a))) (h : liftA K (XR1 mg) WF f σ H P) (hp : ∀ v H', XF mg x cls d H' → P v H' → Q v H') : liftXA K mg x cls d i a f σ H Q :=
  ⟨fx, s, liftA_mono (fun v H' z => hp v H' z.1 z.2) (liftA_keep fx h)⟩
end
def wholeC (sc : Scope) (y : Str) : List Stmt → Bool
  | [.Return (some (.BoolOp .And [.Call (.Name f _) [.Name u _, .Name c _] [] _, .UnaryOp .Not (.Call (.Name g _) [.Name v _, .Name w _] [] _) _] _)) _] => f == "isinstance" && u == y && c == "int" && g == "isinstance" && v == y && w == "bool" && glC sc "isinstance" && glC sc "int" && glC sc "bool"
  | _ => false
def chkH (N : List Str) (sc : Scope) (i : Nat) : HE → G3 → Bool
  | .kind, g => match g with
    | .ex (.Call (.Name f _) [.Name y _] [] _) => f == "_law_kind_of" && glC sc f && N[i]? == some y && visC sc y && okName y
    | _ => false
  | .fld nm, g => match g with
    | .ex (.Attribute (.Name y _) n _) => n == nm && (["number", "row", "many", "most"] : List Str).contains nm && N[i]? == some y && visC sc y && okName y
    | _ => false
  | .whole a, g => match g with
    | .ex (.Call (.Name f _) [e] [] _) => f == "_law_whole" && glC sc f && !isStarred e && chkH N sc i a (.ex e)
    | _ => false
  | .toI a, g => match g with
    | .ex (.Call (.Name f _) [e] [] _) => f == "int" && glC sc f && !isStarred e && chkH N sc i a (.ex e)
    | _ => false
  | .var j, g => match g with
    | .ex (.Name x _) => N[j]? == some x && visC sc x && okName x
    | _ => false
  | .int k, g => match g with
    | .ex (.Constant (.int j) _ _) => k == j
    | _ => false
  | .str s, g => match g with
    | .ex (.Constant (.str j) _ _) => s == j
    | _ => false
  | .bl s, g => match g with
    | .ex (.Constant (.bool j) _ _) => s == j
    | _ => false
  | .non, g => match g with
    | .ex (.Constant .none _ _) => true
    | _ => false
  | .nil, g => match g with
    | .args [] => true
    | _ => false
  | .cons a r, g => match g with
    | .args (x :: xs) => !isStarred x && chkH N sc i a (.ex x) && chkH N sc i r (.args xs)
    | _ => false
  | .tup args, g => match g with
    | .ex (.Tuple xs _ _) => chkH N sc i args (.args xs)
    | _ => false
  | .cmp op a b, g => match g with
    | .ex (.Compare x [o] [y] _) => op == o && notSet y && chkH N sc i a (.ex x) && chkH N sc i b (.ex y)
    | _ => false
  | .and a b, g => match g with
    | .ex (.BoolOp .And (x :: y :: r) pos) => ptC x && chkH N sc i a (.ex x) && chkH N sc i b (.ex (.BoolOp .And (y :: r) pos))
    | _ => false
  | .or a b, g => match g with
    | .ex (.BoolOp .Or (x :: y :: r) pos) => ptC x && chkH N sc i a (.ex x) && chkH N sc i b (.ex (.BoolOp .Or (y :: r) pos))
    | _ => false
  | .one a, g => match g with
    | .ex (.BoolOp _ [x] pos) => ptC x && chkH N sc i a (.ex x)
    | _ => false
  | .not a, g => match g with
    | .ex (.UnaryOp .Not x _) => ptC x && chkH N sc i a (.ex x)
    | _ => false
  | .neg a, g => match g with
    | .ex (.UnaryOp .USub x _) => chkH N sc i a (.ex x)
    | _ => false
  | .idx a b, g => match g with
    | .ex (.Subscript x y _) => ixC y && chkH N sc i a (.ex x) && chkH N sc i b (.ex y)
    | _ => false
def KindNeed (M : Md) : Prop := ∃ (f : Addr) (fd : FuncData) (qual : Str) (st : Stmt) (e y : Str), Fun M.K "_law_kind_of" qual st f fd ∧ FnScope [e, y] [e] (defScope st) ∧ M.mg "_law_kind_of" = some (.ref f) ∧ Binds M.K fd [e] [] ∧ kindC (defScope st) e y (defBody st) = true ∧
  e ≠ y ∧ (defScope st).names.lookup e = some .local ∧ (defScope st).names.lookup y = some .local ∧ okName e = true ∧ okName y = true
def WholeNeed (M : Md) : Prop := ∃ (f : Addr) (fd : FuncData) (qual : Str) (st : Stmt) (y : Str), Fun M.K "_law_whole" qual st f fd ∧ FnScope [y] [y] (defScope st) ∧ M.mg "_law_whole" = some (.ref f) ∧ Binds M.K fd [y] [] ∧ wholeC (defScope st) y (defBody st) = true ∧
  (defScope st).names.lookup y = some .local ∧ okName y = true
structure ExNeed (M : Md) (cs : List Addr) : Prop where
  kf : KF M.K M.mg cs
  nf : ∀ C ∈ cs, ∀ nm ∈ (["number", "row", "many", "most"] : List Str), PySem.W.findIn M.K (.ref C) nm = some none
def needH (M : Md) : HE → Prop
  | .kind => KindNeed M
  | .whole a => WholeNeed M ∧ needH M a
  | .toI a => needH M a
  | .cons a b => needH M a ∧ needH M b
  | .tup a => needH M a
  | .cmp _ a b => needH M a ∧ needH M b
  | .and a b => needH M a ∧ needH M b
  | .or a b => needH M a ∧ needH M b
  | .one a => needH M a
  | .not a => needH M a
  | .neg a => needH M a
  | .idx a b => needH M a ∧ needH M b
  | _ => True
theorem zip_ix {c w : Str} : ∀ {l : List Str} {m : List Str}, (l.zip m).lookup c = some w → ∃ j : Nat, l[j]? = some c ∧ m[j]? = some w
  | [], _, h => by cases h
  | _ :: _, [], h => by simp at h
  | a :: l, b :: m, h => by
    rw [List.zip_cons_cons, List.lookup_cons] at h
    by_cases e : c = a
    · subst e
      simp at h
      exact ⟨0, rfl, by simp [h]⟩
    · have q : (c == a) = false := by simpa using e
      rw [q] at h
      obtain ⟨j, h1, h2⟩ := zip_ix (l := l) (m := m) h
      exact ⟨j + 1, by simpa using h1, by simpa using h2⟩
theorem kindW_ix {c w : Str} (h : kindW c = some w) : ∃ j, exN[j]? = some c ∧ exW.getD j "" = w := by
  obtain ⟨j, h1, h2⟩ := zip_ix h
  exact ⟨j, h1, by rw [List.getD_eq_getElem?_getD, h2]; rfl⟩
structure HGood (M : Md) (N : List Str) (sc : Scope) (cs : List Addr) (X : Cx) (a : Addr) (oe : Obj) (pn : List (Addr × Obj)) (cls : Value) (d : Option Addr) : Prop where
  md : mdOf X = M
  N : X.N = N
  hsc : X.env.scope = sc
  nodup : X.N.Nodup
  units : X.A.units + 65 < cLine
  room : Room 1 X.A
  blt : ∀ x ∈ bltNames, X.mg x = none
  ex : ExNeed M cs
  zn : L2N.Zn cls d oe
  hf : ∃ vs, oe.data = .fields vs
section
variable {M : Md} {N : List Str} {sc : Scope} {cs : List Addr} {X : Cx} {a : Addr} {oe : Obj} {pn : List (Addr × Obj)} {cls : Value} {d : Option Addr} {x : Exn} {i : Nat}
theorem HGood.hot (G : HGood M N sc cs X a oe pn cls d) : L2H.Hot1 (X.suite a ((a, oe) :: pn)).A (a, oe) := by
  obtain ⟨vs, hv⟩ := G.hf
  exact ⟨rfl, vs, hv, G.zn.2.2 vs hv⟩
theorem HGood.gl (G : HGood M N sc cs X a oe pn cls d) {c : Str} (h : glC sc c = true) : Gl (X.suite a ((a, oe) :: pn)) c := by
  show X.env.scope.names.lookup c = _
  rw [G.hsc]
  unfold glC at h
  split at h
  · assumption
  · cases h
theorem HGood.vis (G : HGood M N sc cs X a oe pn cls d) {c : Str} (h : visC sc c = true) : Vis (X.suite a ((a, oe) :: pn)).env.scope c := by
  show Vis X.env.scope c
  rw [G.hsc]
  unfold visC at h
  split at h
  · exact .inl (by assumption)
  · exact .inr (.inl (by assumption))
  · exact .inr (.inr (by assumption))
  · cases h
theorem HGood.at (G : HGood M N sc cs X a oe pn cls d) {w : Str} {H : Hp} (fx : XF M.mg x cls d H) (h : kindW x.cls = some w) : ∃ j C, cs[j]? = some C ∧ cls = .ref C ∧ exW.getD j "" = w := by
  obtain ⟨j, h1, h2⟩ := kindW_ix h
  obtain ⟨C, m, e, _⟩ := fx
  have hj : j < cs.length := by
    have := (List.getElem?_eq_some_iff.mp h1).1
    rw [G.ex.kf.len]
    exact this
  refine ⟨j, C, ?_, e, h2⟩
  have q := G.ex.kf.g j _ (List.getElem?_eq_getElem hj) _ h1
  rw [m] at q
  cases q
  exact List.getElem?_eq_getElem hj
theorem XF.xd {mg : Str → Option Value} {H : Hp} (fx : XF mg x cls d H) : XD d H := by
  obtain ⟨C, _, _, h⟩ := fx
  intro dd e
  rcases h with ⟨h, _⟩ | ⟨d2, fs, h, l, _⟩
  · rw [h] at e; cases e
  · rw [h] at e; cases e; exact ⟨fs, l⟩
theorem XF.same {mg : Str → Option Value} {H H' : Hp} (s : Same H H') (fx : XF mg x cls d H) : XF mg x cls d H' := by
  obtain ⟨C, a, b, h⟩ := fx
  refine ⟨C, a, b, ?_⟩
  rcases h with h | ⟨d2, fs, h, l, q⟩
  · exact .inl h
  · exact .inr ⟨d2, fs, h, s _ _ l, q⟩
theorem kind_pe (G : HGood M N sc cs X a oe pn cls d) (n : KindNeed M) {f y : Str} {p q pos : Pos} {w : Str} (hf : f = "_law_kind_of") (g : glC sc f = true) (hy : N[i]? = some y) (hv : visC sc y = true) (ho : okName y = true) (hw : kindW x.cls = some w) :
    PE (X.suite a ((a, oe) :: pn)) (.Call (.Name f p) [.Name y q] [] pos) (liftX X.K M.mg x cls d i a (retE (.str w))) := by
  subst hf
  have hmd := G.md
  subst hmd
  obtain ⟨fa, fd, qual, st, e, z, F, S, hm, hb, hk, hne, l1, l2, o1, o2⟩ := n
  obtain ⟨b1, b2, b3⟩ := okName_ok ho
  have v0 : PE (X.suite a ((a, oe) :: pn)) (.Name y q) (tVar i) := pe_var (by show X.N[i]? = _; rw [G.N]; exact hy) (G.vis hv) b1 b2
  refine (pe_hot (X := X.suite a ((a, oe) :: pn)) (p := (a, oe)) (k := 0) (G := fun vs H Q => vs = [.ref a] ∧ XF X.mg x cls d H ∧ ∀ H', Same H H' → Q (.str w) H') F S G.hot List.mem_cons_self (L2H.roomH_mark G.room _) (G.gl g) hm hb (pa_cons v0 pa_nil) (by decide) rfl rfl (fun vs H Q h => by rw [h.1]; rfl) ?_).imp ?_
  · intro cdv s H vs Q hr h
    obtain ⟨rfl, fx, fin⟩ := h
    obtain ⟨j, C, hj, hc, hw2⟩ := G.at fx hw
    have kx : Kx (L2H.cxH (L2N.CX X.prog X.w) X.prog X.w X.K X.mg X.base [e, z] qual (defScope st) fa cdv (X.suite a ((a, oe) :: pn)).A X.stack s H (fun _ _ _ => False) (a, oe)) (defScope st) e z (a, oe) C d := {
      N := rfl
      ne := hne
      hsc := rfl
      le := l1
      ly := l2
      oe := ⟨(okName_ok o1).1, (okName_ok o1).2.1⟩
      oy := ⟨(okName_ok o2).1, (okName_ok o2).2.1⟩
      bi := G.blt _ (by decide)
      bv := G.blt _ (by decide)
      T := G.ex.kf.x j C hj
      hp := List.mem_cons_self
      hc := G.zn.1.trans hc
      hd := G.zn.2.1
      hf := G.hf }
    refine ⟨_, kind_body kx G.ex.kf hj hk, ⟨rfl, rfl, fx.xd⟩, fun H' sm => ?_⟩
    rw [hw2]
    exact fin H' sm
  · intro σ H Q h
    obtain ⟨fx, s, Z, ι, S, l, ts, R, sl, ia, p⟩ := h
    exact ⟨.ref a, s, rfl, fx, fun H' sm => p ι H' (.str w) (.same sm) (R.same sm) (.str w)⟩
theorem whole_body {Y : Cx} {y : Str} {sc : Scope} {body : List Stmt} (hN : Y.N = [y]) (hsc : Y.env.scope = sc) (hl : sc.names.lookup y = some .local) (ho : okName y = true) (hb : ∀ x ∈ bltNames, Y.mg x = none) (h : wholeC sc y body = true) :
    PSs Y body (fun D σ H => ∃ k, σ[0]? = some (some (.int k)) ∧ D.rt (.bl true) H) := by
  obtain ⟨b1, b2, b3⟩ := okName_ok ho
  have gl : ∀ {c : Str}, glC sc c = true → Gl Y c := by
    intro c h
    show Y.env.scope.names.lookup c = _
    rw [hsc]
    unfold glC at h
    split at h
    · assumption
    · cases h
  have v0 : ∀ pos, PE Y (.Name y pos) (tVar 0) := fun pos => pe_var (by rw [hN]; rfl) (.inl (by rw [hsc]; exact hl)) b1 b2
  unfold wholeC at h
  split at h
  · rename_i f p1 u p2 c p3 p4 g p5 v p6 w p7 p8 p9 p10 p11
    simp only [Bool.and_eq_true] at h
    obtain ⟨⟨⟨⟨⟨⟨⟨⟨h1, h2⟩, h3⟩, h4⟩, h5⟩, h6⟩, h7⟩, h8⟩, h9⟩ := h
    obtain rfl := beq_str h1
    obtain rfl := beq_str h2
    obtain rfl := beq_str h3
    obtain rfl := beq_str h4
    obtain rfl := beq_str h5
    obtain rfl := beq_str h6
    have isi : ∀ (ty : String) (p q r pos : Pos), ty ∈ isiTys → glC sc (ty : Str) = true → PE Y (.Call (.Name "isinstance" p) [.Name v q, .Name (ty : Str) r] [] pos) (tCB (rIsi Y.K) (tCons (tVar 0) (tCons (tC (.ty ty)) tNil))) := by
      intro ty p q r pos hm hg
      obtain ⟨c1, c2, c3, c4⟩ := isi_facts ty hm
      exact pe_callB call_isi (gl h7) (hb _ (by decide)) boot_isinstance (pa_cons (v0 _) (pa_cons (pe_bltn (v := .ty ty) (gl hg) (hb _ c2) c1 rfl c3 c4) pa_nil)) (by decide) (by decide) rfl rfl
    refine (pss_cons (ps_ret (pe_and (isi "int" _ _ _ _ (by decide) h8) (pe_one (pe_not (isi "bool" _ _ _ _ (by decide) h9))))) pss_nil).imp fun D σ H q => ?_
    obtain ⟨k, s, q⟩ := q
    refine ⟨_, s, .int k, .ty "int", .type "int", .type "int", true, rfl, .ty _, .base (.int k), kit_ty (by decide +kernel), true, rfl, ?_⟩
    refine ⟨_, s, .int k, .ty "bool", .type "int", .type "bool", false, rfl, .ty _, .base (.int k), kit_ty (by decide +kernel), false, rfl, q⟩
  · cases h
theorem whole_pe (G : HGood M N sc cs X a oe pn cls d) (n : WholeNeed M) {fa : SE} {f : Str} {p pos : Pos} {e : Expr} (hf : f = "_law_whole") (g : glC sc f = true) (hs : isStarred e = false) (ha : PE (X.suite a ((a, oe) :: pn)) e (liftX X.K M.mg x cls d i a fa)) :
    PE (X.suite a ((a, oe) :: pn)) (.Call (.Name f p) [e] [] pos) (liftX X.K M.mg x cls d i a (bindE fa fun t => match t with
      | .int _ => retE (.bl true)
      | _ => noneE)) := by
  subst hf
  have hmd := G.md
  subst hmd
  obtain ⟨fw, fd, qual, st, y, F, S, hm, hb, hk, l1, o1⟩ := n
  refine (pe_hot (X := X.suite a ((a, oe) :: pn)) (p := (a, oe)) (k := 0) (G := fun vs H Q => ∃ k, vs = [.int k] ∧ Q (.bl true) H) F S G.hot List.mem_cons_self (L2H.roomH_mark G.room _) (G.gl g) hm hb (pa_cons ha pa_nil (star1 hs)) (by decide) (star1 hs) rfl (fun vs H Q h => by obtain ⟨k, e, _⟩ := h; rw [e]; rfl) ?_).imp ?_
  · intro cdv s H vs Q hr h
    obtain ⟨k, rfl, fin⟩ := h
    exact ⟨_, whole_body (Y := L2H.cxH (L2N.CX X.prog X.w) X.prog X.w X.K X.mg X.base [y] qual (defScope st) fw cdv (X.suite a ((a, oe) :: pn)).A X.stack s H (fun _ _ _ => False) (a, oe)) rfl rfl l1 o1 G.blt hk, k, rfl, fin⟩
  · intro σ H Q h
    obtain ⟨fx, s, h⟩ := h
    refine up fx s (lift_bind0 h) fun v H1 f1 h1 => ?_
    obtain ⟨Z, ι, S, l, t, R, sl, it, p⟩ := lift1 h1
    cases t <;> first | exact p.elim | skip
    cases is_int it
    exact ⟨_, rfl, ret_post rfl R p (.bl _)⟩
end
section
variable {M : Md} {N : List Str} {sc : Scope} {cs : List Addr} {X : Cx} {a : Addr} {oe : Obj} {pn : List (Addr × Obj)} {cls : Value} {d : Option Addr} {x : Exn} {i : Nat}
def OkX (M : Md) (X : Cx) (a : Addr) (oe : Obj) (pn : List (Addr × Obj)) (x : Exn) (cls : Value) (d : Option Addr) (i : Nat) (g : G3) (f : SE) : Prop := match g with
  | .ex e => PE (X.suite a ((a, oe) :: pn)) e (liftX X.K M.mg x cls d i a f) ∧ (ptC e = true → PT (X.suite a ((a, oe) :: pn)) e (tB (liftX X.K M.mg x cls d i a f))) ∧ (isBoolE e = true → PW (X.suite a ((a, oe) :: pn)) e (tB (liftX X.K M.mg x cls d i a f)))
  | .args es => PA (X.suite a ((a, oe) :: pn)) es (liftXA X.K M.mg x cls d i a f)
  | .iter _ _ => True
theorem okx_val {e : Expr} {f : SE} (h : PE (X.suite a ((a, oe) :: pn)) e (liftX X.K M.mg x cls d i a f)) (ht : tstC e = true) (hb : isBoolE e = false) : OkX M X a oe pn x cls d i (.ex e) f := ⟨h, fun _ => pt_val h (tst_of ht), fun q => by rw [hb] at q; cases q⟩
theorem okx_pe {e : Expr} {f : SE} (h : PE (X.suite a ((a, oe) :: pn)) e (liftX X.K M.mg x cls d i a f)) (ht : ptC e = false) (hb : isBoolE e = false) : OkX M X a oe pn x cls d i (.ex e) f := ⟨h, (fun q => by rw [ht] at q; cases q), (fun q => by rw [hb] at q; cases q)⟩
theorem never_pe {e : Expr} : PE (X.suite a ((a, oe) :: pn)) e (liftX X.K M.mg x cls d i a noneE) := ⟨fun pins s σ H Q I q => by
  obtain ⟨_, _, _, _, _, _, _, _, _, _, p⟩ := q
  exact p.elim⟩
theorem constX {t : T} {v : V} {e : Expr} (h : PE (X.suite a ((a, oe) :: pn)) e (tC v)) (hi : ∀ {Z : Addr → Prop} {H : Hp} {ι : Nat → Addr} {n : Nat}, Is X.K Z H ι n v t) : PE (X.suite a ((a, oe) :: pn)) e (liftX X.K M.mg x cls d i a (retE t)) :=
  h.imp fun σ H Q q => ret_lift hi q.2.2
def SoundH (M : Md) (N : List Str) (sc : Scope) (x : Exn) (i : Nat) (h : HE) : Prop := (kindW x.cls).isSome = true → ∀ (g : G3), chkH N sc i h g = true → needH M h → ∀ (cs : List Addr) (X : Cx) (a : Addr) (oe : Obj) (pn : List (Addr × Obj)) (cls : Value) (d : Option Addr), HGood M N sc cs X a oe pn cls d → OkX M X a oe pn x cls d i g (evH x h)
theorem soundH : ∀ h : HE, SoundH M N sc x i h := by
  intro h hkw
  induction h with
  | kind =>
    intro g h n cs X a oe pn cls d G
    simp only [chkH] at h
    split at h
    · rename_i f p y q pos
      simp only [Bool.and_eq_true, beq_iff_eq] at h
      obtain ⟨⟨⟨⟨h1, h2⟩, h3⟩, h4⟩, h5⟩ := h
      refine okx_val ?_ rfl rfl
      simp only [evH]
      cases hw : kindW x.cls with
      | none => exact never_pe
      | some w => exact kind_pe G n h1 h2 h3 h4 h5 hw
    · cases h
  | fld nm =>
    intro g h n cs X a oe pn cls d G
    simp only [chkH] at h
    split at h
    · rename_i y p n' pos
      simp only [Bool.and_eq_true, beq_iff_eq] at h
      obtain ⟨⟨⟨⟨h1, h2⟩, h3⟩, h4⟩, h5⟩ := h
      subst h1
      obtain ⟨b1, b2, b3⟩ := okName_ok h5
      refine okx_pe ?_ rfl rfl
      have hmd := G.md
      subst hmd
      have v0 : PE (X.suite a ((a, oe) :: pn)) (.Name y p) (tVar i) := pe_var (by show X.N[i]? = _; rw [G.N]; exact h3) (G.vis h4) b1 b2
      refine ⟨fun pins s σ H Q I q => ?_⟩
      obtain ⟨fx, sl, q⟩ := q
      simp only [evH] at q
      split at q
      · rename_i k hk
        have fx' := fx
        obtain ⟨C, m, hc, hd⟩ := fx'
        rcases hd with ⟨_, e⟩ | ⟨dd, fs, e, l, lk⟩
        · rw [e] at hk; cases hk
        · cases hw : kindW x.cls with
          | none => rw [hw] at hkw; cases hkw
          | some w =>
            obtain ⟨j, C', hj, hc', _⟩ := G.at fx hw
            have T := G.ex.kf.x j C' hj
            have xf : XfC X.K C' := ⟨T.ga, T.gg, T.ex, T.hd⟩
            have nf := G.ex.nf C' (List.mem_of_getElem? hj) n' (by simpa using h2)
            refine (pe_xf (cls := cls) (d := d) xf nf G.zn.zc G.hf v0 rfl).run pins s σ H Q I ?_
            refine ⟨.ref a, sl, rfl, hc', dd, fs, .int k, e, l, lk _ _ hk, ?_⟩
            exact ret_lift (.int k) q
      · obtain ⟨_, _, _, _, _, _, _, _, p⟩ := q
        exact p.elim
    · cases h
  | whole e iha =>
    intro g h n cs X a oe pn cls d G
    simp only [chkH] at h
    split at h
    · simp only [Bool.and_eq_true, Bool.not_eq_true', beq_iff_eq] at h
      obtain ⟨⟨⟨h1, h2⟩, h3⟩, h4⟩ := h
      exact okx_val (whole_pe G n.1 h1 h2 h3 (iha _ h4 n.2 cs X a oe pn cls d G).1) rfl rfl
    · cases h
  | toI e iha =>
    intro g h n cs X a oe pn cls d G
    simp only [chkH] at h
    split at h
    · simp only [Bool.and_eq_true, Bool.not_eq_true', beq_iff_eq] at h
      obtain ⟨⟨⟨h1, h2⟩, h3⟩, h4⟩ := h
      have ha := (iha _ h4 n cs X a oe pn cls d G).1
      subst h1
      refine okx_val (PE.imp (pe_callTy call_int1 (G.gl h2) (G.blt _ (by decide)) boot_int (pa_cons ha pa_nil (star1 h3)) (by decide) (by decide) (star1 h3) rfl) fun σ H Q q => ?_) rfl rfl
      obtain ⟨fx, s, q⟩ := q
      refine up fx s (lift_bind0 q) fun v H1 f1 h1 => ?_
      obtain ⟨Z, ι, S, l, t, R, sl, it, p⟩ := lift1 h1
      cases t <;> first | exact p.elim | skip
      cases is_bl it
      exact .inr ⟨_, rfl, ret_post rfl R p (.int _)⟩
    · cases h
  | var j =>
    intro g h n cs X a oe pn cls d G
    simp only [chkH] at h
    split at h
    · simp only [Bool.and_eq_true, beq_iff_eq] at h
      obtain ⟨b1, b2, b3⟩ := okName_ok h.2
      exact okx_val ((pe_var (by show X.N[j]? = _; rw [G.N]; exact h.1.1) (G.vis h.1.2) b1 b2).imp fun σ H Q q => var_lift q.2.2) rfl rfl
    · cases h
  | int k =>
    intro g h n cs X a oe pn cls d G
    simp only [chkH] at h
    split at h
    · obtain rfl := eq_of_beq h
      exact okx_val (constX pe_int (.int _)) rfl rfl
    · cases h
  | str k =>
    intro g h n cs X a oe pn cls d G
    simp only [chkH] at h
    split at h
    · obtain rfl := beq_str h
      exact okx_val (constX pe_str (.str _)) rfl rfl
    · cases h
  | bl k =>
    intro g h n cs X a oe pn cls d G
    simp only [chkH] at h
    split at h
    · obtain rfl := eq_of_beq h
      exact okx_val (constX pe_bl (.bl _)) rfl rfl
    · cases h
  | non =>
    intro g h n cs X a oe pn cls d G
    simp only [chkH] at h
    split at h
    · exact okx_val (constX pe_non .non) rfl rfl
    · cases h
  | nil =>
    intro g h n cs X a oe pn cls d G
    simp only [chkH] at h
    split at h
    · exact pa_nil.imp fun σ H Q q => liftA_nil q.2.2
    · cases h
  | cons e r iha ihr =>
    intro g h n cs X a oe pn cls d G
    simp only [chkH] at h
    split at h
    · simp only [Bool.and_eq_true, Bool.not_eq_true'] at h
      have ha := (iha _ h.1.2 n.1 cs X a oe pn cls d G).1
      have hr := ihr _ h.2 n.2 cs X a oe pn cls d G
      refine (pa_cons ha hr (star1 h.1.1)).imp fun σ H Q q => ?_
      obtain ⟨fx, s, q⟩ := q
      exact up fx s (liftA_cons q) fun v H1 f1 h1 => ⟨f1, s, h1⟩
    · cases h
  | tup e iha =>
    intro g h n cs X a oe pn cls d G
    simp only [chkH] at h
    split at h
    · have ha := iha _ h n cs X a oe pn cls d G
      refine okx_pe ((pe_tup ha).imp fun σ H Q q => ?_) rfl rfl
      obtain ⟨fx, s, q⟩ := q
      exact upA fx s (tup_lift q) fun v H1 f1 h1 => h1
    · cases h
  | cmp op e r iha ihb =>
    intro g h n cs X a oe pn cls d G
    simp only [chkH] at h
    split at h
    · simp only [Bool.and_eq_true] at h
      obtain rfl := eq_of_beq h.1.1.1
      have ha := (iha _ h.1.2 n.1 cs X a oe pn cls d G).1
      have hb := (ihb _ h.2 n.2 cs X a oe pn cls d G).1
      have key : ∀ {σ : L2.St} {H : Hp} {Q : VK}, liftX X.K M.mg x cls d i a (binE false (cmpF op) (evH x e) (evH x r)) σ H Q → tOp (rRaw X.K (cmpF op)) (liftX X.K M.mg x cls d i a (evH x e)) (liftX X.K M.mg x cls d i a (evH x r)) σ H Q := fun {σ H Q} q => by
        obtain ⟨fx, s, q⟩ := q
        exact up fx s (bin_lift q) fun v H1 f1 h1 => ⟨f1, s, h1⟩
      exact ⟨(pe_cmpR (op_cmpF (X := X.suite a ((a, oe) :: pn)) G.units op) ha hb (nomarkS h.1.1.2)).imp fun σ H Q q => key q, fun _ => (pt_cmpR (op_cmpF (X := X.suite a ((a, oe) :: pn)) G.units op) ha hb (nomarkS h.1.1.2)).imp fun σ H Q q => key q, fun q => by cases q⟩
    · cases h
  | and e r iha ihb =>
    intro g h n cs X a oe pn cls d G
    simp only [chkH] at h
    split at h
    · simp only [Bool.and_eq_true] at h
      have ha := iha _ h.1.2 n.1 cs X a oe pn cls d G
      have hb := ihb _ h.2 n.2 cs X a oe pn cls d G
      have pw := (pw_and (ha.2.1 h.1.1) (hb.2.2 rfl)).imp (t' := tB (liftX X.K M.mg x cls d i a (evH x (.and e r)))) fun σ H Q q => by
        obtain ⟨fx, s, q⟩ := q
        refine up fx s (andT_lift q) fun v H1 f1 h1 => ?_
        obtain ⟨c, e, h1⟩ := h1
        refine ⟨c, e, ?_⟩
        cases c with
        | true => exact ⟨f1, s, h1⟩
        | false => exact h1
      refine ⟨(pe_and ha.1 hb.1).imp fun σ H Q q => ?_, fun _ => pw.pt, fun _ => pw⟩
      obtain ⟨fx, s, q⟩ := q
      refine up fx s (and_lift q) fun v H1 f1 h1 => ?_
      obtain ⟨c, e, h1⟩ := h1
      refine ⟨c, e, ?_⟩
      cases c with
      | true => exact ⟨f1, s, h1⟩
      | false => exact h1
    · cases h
  | or e r iha ihb =>
    intro g h n cs X a oe pn cls d G
    simp only [chkH] at h
    split at h
    · simp only [Bool.and_eq_true] at h
      have ha := iha _ h.1.2 n.1 cs X a oe pn cls d G
      have hb := ihb _ h.2 n.2 cs X a oe pn cls d G
      have pw := (pw_or (ha.2.1 h.1.1) (hb.2.2 rfl)).imp (t' := tB (liftX X.K M.mg x cls d i a (evH x (.or e r)))) fun σ H Q q => by
        obtain ⟨fx, s, q⟩ := q
        refine up fx s (orT_lift q) fun v H1 f1 h1 => ?_
        obtain ⟨c, e, h1⟩ := h1
        refine ⟨c, e, ?_⟩
        cases c with
        | true => exact h1
        | false => exact ⟨f1, s, h1⟩
      refine ⟨(pe_or ha.1 hb.1).imp fun σ H Q q => ?_, fun _ => pw.pt, fun _ => pw⟩
      obtain ⟨fx, s, q⟩ := q
      refine up fx s (or_lift q) fun v H1 f1 h1 => ?_
      obtain ⟨c, e, h1⟩ := h1
      refine ⟨c, e, ?_⟩
      cases c with
      | true => exact h1
      | false => exact ⟨f1, s, h1⟩
    · cases h
  | one e iha =>
    intro g h n cs X a oe pn cls d G
    simp only [chkH] at h
    split at h
    · rename_i op x pos
      simp only [Bool.and_eq_true] at h
      have ha := iha _ h.2 n cs X a oe pn cls d G
      cases op with
      | And => exact ⟨pe_one ha.1, fun _ => (pw_and1 (ha.2.1 h.1)).pt, fun _ => pw_and1 (ha.2.1 h.1)⟩
      | Or => exact ⟨pe_one ha.1, fun _ => (pw_or1 (ha.2.1 h.1)).pt, fun _ => pw_or1 (ha.2.1 h.1)⟩
    · cases h
  | not e iha =>
    intro g h n cs X a oe pn cls d G
    simp only [chkH] at h
    split at h
    · simp only [Bool.and_eq_true] at h
      have ha := iha _ h.2 n cs X a oe pn cls d G
      refine ⟨(pe_not ha.1).imp fun σ H Q q => ?_, fun _ => (pt_not (ha.2.1 h.1)).imp fun σ H Q q => ?_, fun q => by cases q⟩
      · obtain ⟨fx, s, q⟩ := q
        exact up fx s (not_lift q) fun v H1 f1 h1 => h1
      · obtain ⟨fx, s, q⟩ := q
        exact up fx s (notT_lift q) fun v H1 f1 h1 => h1
    · cases h
  | neg e iha =>
    intro g h n cs X a oe pn cls d G
    simp only [chkH] at h
    split at h
    · have ha := iha _ h n cs X a oe pn cls d G
      refine okx_pe ((pe_un un_neg ha.1).imp fun σ H Q q => ?_) rfl rfl
      obtain ⟨fx, s, q⟩ := q
      exact up fx s (neg_lift q) fun v H1 f1 h1 => h1
    · cases h
  | idx e r iha ihb =>
    intro g h n cs X a oe pn cls d G
    simp only [chkH] at h
    split at h
    · simp only [Bool.and_eq_true] at h
      have ha := (iha _ h.1.2 n.1 cs X a oe pn cls d G).1
      have hb := (ihb _ h.2 n.2 cs X a oe pn cls d G).1
      have hu : (X.suite a ((a, oe) :: pn)).A.units + 1 < cLine := by have := G.units; show X.A.units + 1 < _; omega
      refine okx_val ((pe_ix (ix_T hu) ha hb (plainIx_of h.1.1)).imp fun σ H Q q => ?_) rfl rfl
      obtain ⟨fx, s, q⟩ := q
      exact up fx s (idx_lift q) fun v H1 f1 h1 => ⟨f1, s, h1⟩
    · cases h
end
end TL
namespace TL
open PySem PySem.Spec PyProof.Rows L2 XL PySem.OEX
inductive GS where
  | st (x : Stmt) | sts (xs : List Stmt)
def localC (sc : Scope) (x : Str) : Bool := match sc.names.lookup x with | some .local => true | _ => false
theorem nosw {e t : Expr} {l : Nat} {env : Env} (h : notComp e = true) : swapsWith e (some t) l env = pure false := by
  cases e <;> first | rfl | cases h
def chkHS (N : List Str) (sc : Scope) (i : Nat) : HS → GS → Bool
  | .nil, g => match g with
    | .sts [] => true
    | _ => false
  | .seq a b, g => match g with
    | .sts (x :: xs) => chkHS N sc i a (.st x) && chkHS N sc i b (.sts xs)
    | _ => false
  | .asg j e, g => match g with
    | .st (.Assign [.Name y _] x _) => N[j]? == some y && localC sc y && !(i == j) && notComp x && chkH N sc i e (.ex x)
    | _ => false
  | .ret e, g => match g with
    | .st (.Return (some x) _) => chkH N sc i e (.ex x)
    | _ => false
  | .ite c a b, g => match g with
    | .st (.If x y z _) => ptC x && chkH N sc i c (.ex x) && chkHS N sc i a (.sts y) && chkHS N sc i b (.sts z)
    | _ => false
def needHS (M : Md) : HS → Prop
  | .nil => True
  | .seq a b => needHS M a ∧ needHS M b
  | .asg _ e => needH M e
  | .ret e => needH M e
  | .ite c a b => needH M c ∧ needHS M a ∧ needHS M b
section
variable {K : PySem.W.Frag} {XR : XRel} {W W' : WX} {Z : Addr → Prop} {H : Hp} {ι : Nat → Addr} {S : Sto} {σ : L2.St} {D D' : Ends} {n : Nat}
theorem postS_mono (hn : ∀ σ H, D.nx σ H → D'.nx σ H) (hr : ∀ v H, D.rt v H → D'.rt v H) : ∀ {o : Option (Out × Sto)}, PostS K XR W Z ι n H D o → PostS K XR W Z ι n H D' o
  | none, h => h
  | some (.nx l', S'), h => fun ι' H' σ' st R sl => hn _ _ (h ι' H' σ' st R sl)
  | some (.rt t, S'), h => fun ι' H' v st R i => hr _ _ (h ι' H' v st R i)
  | some (.er x l', S'), h => h
theorem liftS_mono {f : SS} (hn : ∀ σ H, D.nx σ H → D'.nx σ H) (hr : ∀ v H, D.rt v H → D'.rt v H) (h : liftS K XR W f D σ H) : liftS K XR W f D' σ H := by
  obtain ⟨Z, ι, S, l, R, sl, p⟩ := h
  exact ⟨Z, ι, S, l, R, sl, postS_mono hn hr p⟩
theorem bindH_S {f : SE} {g : T → SS} (h : liftS K XR W (bindH f g) D σ H) : liftS K XR W (bindS f g) D σ H := by
  obtain ⟨Z, ι, S, l, R, sl, p⟩ := h
  refine ⟨Z, ι, S, l, R, sl, ?_⟩
  simp only [bindH] at p
  simp only [bindS]
  cases e : f l S with
  | none => rw [e] at p; exact p
  | some r =>
    obtain ⟨r, S'⟩ := r
    rw [e] at p
    cases r with
    | err x => exact p.elim
    | ok t => exact p
def liftHS (K : PySem.W.Frag) (mg : Str → Option Value) (x : Exn) (cls : Value) (d : Option Addr) (i : Nat) (a : Addr) (f : SS) : TS := fun D σ H => XF mg x cls d H ∧ σ[i]? = some (some (.ref a)) ∧
  liftS K (XR1 mg) WF f { D with nx := fun σ' H' => σ'[i]? = some (some (.ref a)) ∧ XF mg x cls d H' → D.nx σ' H' } σ H
end
section
variable {M : Md} {N : List Str} {sc : Scope} {cs : List Addr} {X : Cx} {a : Addr} {oe : Obj} {pn : List (Addr × Obj)} {cls : Value} {d : Option Addr} {x : Exn} {i : Nat}
def OkHS (M : Md) (X : Cx) (a : Addr) (oe : Obj) (pn : List (Addr × Obj)) (x : Exn) (cls : Value) (d : Option Addr) (i : Nat) (g : GS) (f : SS) : Prop := match g with
  | .st s => PS (X.suite a ((a, oe) :: pn)) s (liftHS X.K M.mg x cls d i a f)
  | .sts ss => PSs (X.suite a ((a, oe) :: pn)) ss (liftHS X.K M.mg x cls d i a f)
def SoundHS (M : Md) (N : List Str) (sc : Scope) (x : Exn) (i : Nat) (h : HS) : Prop := ∀ (g : GS), chkHS N sc i h g = true → needHS M h → ∀ (cs : List Addr) (X : Cx) (a : Addr) (oe : Obj) (pn : List (Addr × Obj)) (cls : Value) (d : Option Addr), HGood M N sc cs X a oe pn cls d → OkHS M X a oe pn x cls d i g (exH x h)
theorem soundHS (hkw : (kindW x.cls).isSome = true) : ∀ h : HS, SoundHS M N sc x i h := by
  intro h
  induction h with
  | nil =>
    intro g h n cs X a oe pn cls d G
    simp only [chkHS] at h
    split at h
    · refine pss_nil.imp fun D σ H q => ?_
      obtain ⟨fx, s, q⟩ := q
      exact nil_lift q ⟨s, fx⟩
    · cases h
  | seq u w iha ihb =>
    intro g h n cs X a oe pn cls d G
    simp only [chkHS] at h
    split at h
    · simp only [Bool.and_eq_true] at h
      refine (pss_cons (iha _ h.1 n.1 cs X a oe pn cls d G) (ihb _ h.2 n.2 cs X a oe pn cls d G)).imp fun D σ H q => ?_
      obtain ⟨fx, s, q⟩ := q
      have q2 := seq_lift (f := exH x u) (g := exH x w) q
      unfold tSeq at q2
      refine ⟨fx, s, ?_⟩
      refine liftS_mono ?_ ?_ q2
      · exact fun σ' H' h ⟨s', f'⟩ => ⟨f', s', h⟩
      · exact fun v H h => h
    · cases h
  | asg j e =>
    intro g h n cs X a oe pn cls d G
    simp only [chkHS] at h
    split at h
    · rename_i y p1 z p2
      simp only [Bool.and_eq_true, Bool.not_eq_true', beq_iff_eq, beq_eq_false_iff_ne] at h
      obtain ⟨⟨⟨⟨h1, h2⟩, h3⟩, h4⟩, h5⟩ := h
      have he := (soundH e hkw _ h5 n cs X a oe pn cls d G).1
      have hl : (X.suite a ((a, oe) :: pn)).env.scope.names.lookup y = some .local := by
        show X.env.scope.names.lookup y = _
        rw [G.hsc]
        unfold localC at h2
        split at h2 <;> first | assumption | cases h2
      refine (ps_set (i := j) (show (X.suite a ((a, oe) :: pn)).N.Nodup from G.nodup) (by show X.N[j]? = _; rw [G.N]; exact h1) (.inl hl) he (nosw h4) (.inr hl)).imp fun D σ H q => ?_
      obtain ⟨fx, s, q⟩ := q
      have q2 := asg_lift (g := gName j) (tg := .name j) (gok_of (.name j)) (bindH_S (show liftS X.K (XR1 M.mg) WF (bindH (evH x e) fun t l S => match asgTg (.name j) t l with
        | some l' => some (.nx l', S)
        | none => none) _ σ H from q))
      refine up fx s q2 fun v H1 f1 h1 => h1 ⟨?_, f1⟩
      rw [List.getElem?_set_ne (Ne.symm h3)]
      exact s
    · cases h
  | ret e =>
    intro g h n cs X a oe pn cls d G
    simp only [chkHS] at h
    split at h
    · refine (ps_ret (soundH e hkw _ h n cs X a oe pn cls d G).1).imp fun D σ H q => ?_
      obtain ⟨fx, s, q⟩ := q
      exact up fx s (ret_liftS (bindH_S q)) fun v H1 f1 h1 => h1
    · cases h
  | ite c u w iha ihb =>
    intro g h n cs X a oe pn cls d G
    simp only [chkHS] at h
    split at h
    · simp only [Bool.and_eq_true] at h
      obtain ⟨⟨⟨h1, h2⟩, h3⟩, h4⟩ := h
      have hc := soundH c hkw _ h2 n.1 cs X a oe pn cls d G
      refine (ps_if (hc.2.1 h1) (iha _ h3 n.2.1 cs X a oe pn cls d G) (ihb _ h4 n.2.2 cs X a oe pn cls d G)).imp fun D σ H q => ?_
      obtain ⟨fx, s, q⟩ := q
      have q2 := ite_liftS (a := exH x u) (b := exH x w) (bindH_S q)
      refine up fx s q2 fun v H1 f1 h1 => ?_
      obtain ⟨b, e, h1⟩ := h1
      refine ⟨b, e, ?_⟩
      cases b with
      | true => exact ⟨f1, s, h1⟩
      | false => exact ⟨f1, s, h1⟩
    · cases h
end
section
variable {X : Cx} {mg : Str → Option Value} {W : WX} {σ : L2.St} {H : Hp} {D : Ends} {C : Addr} {c : Str}
theorem raise0_lift {K : PySem.W.Frag} (hm : mg c = some (.ref C)) (h : liftS K (XR1 mg) W (bindS (ev .nil) (raiseK c [])) D σ H) : W (.ref C) none σ H := by
  obtain ⟨Z, ι, S, l, R, sl, p⟩ := h
  exact p ι H σ _ _ .refl R sl ⟨C, hm, rfl, .inl ⟨rfl, rfl⟩⟩
theorem look_zip {K : PySem.W.Frag} {Z : Addr → Prop} {H : Hp} {ι : Nat → Addr} {n : Nat} {nms : List Str} {vs : List V} {ts : List T} (hs : (∃ a, nms = [a]) ∨ ∃ a b, a ≠ b ∧ nms = [a, b]) (ia : IsAll K Z H ι n vs ts) (hl : ts.length = nms.length) {nm : Str} {i : Int}
    (h : (nms.zip ts).lookup nm = some (.int i)) : (nms.zip vs).reverse.lookup nm = some (.int i) := by
  rcases hs with ⟨a, rfl⟩ | ⟨a, b, hab, rfl⟩
  · match ts, hl with
    | [t], _ =>
      obtain ⟨v, rfl, iv⟩ := ia.inv1
      simp only [List.zip_cons_cons, List.zip_nil_left, List.zip_nil_right, List.reverse_cons, List.reverse_nil, List.nil_append, List.lookup_cons, List.lookup_nil] at h ⊢
      by_cases e : (nm == a) = true
      · rw [e] at h ⊢
        cases h
        rw [is_int iv]
      · rw [Bool.not_eq_true] at e
        rw [e] at h
        cases h
  · match ts, hl with
    | [t, u], _ =>
      obtain ⟨v, w, rfl, iv, iw⟩ := ia.inv2
      simp only [List.zip_cons_cons, List.zip_nil_left, List.zip_nil_right, List.reverse_cons, List.reverse_nil, List.nil_append, List.cons_append, List.lookup_cons, List.lookup_nil] at h ⊢
      by_cases e : (nm == a) = true
      · have e2 : (nm == b) = false := by
          have := beq_str e
          subst this
          simpa using hab
        rw [e] at h ⊢
        rw [e2]
        cases h
        rw [is_int iv]
      · rw [Bool.not_eq_true] at e
        rw [e] at h ⊢
        by_cases e2 : (nm == b) = true
        · rw [e2] at h ⊢
          cases h
          rw [is_int iw]
        · rw [Bool.not_eq_true] at e2
          rw [e2] at h
          cases h
theorem raise_lift {K : PySem.W.Frag} {f : SE} {nms : List Str} (hm : mg c = some (.ref C)) (hs : (∃ a, nms = [a]) ∨ ∃ a b, a ≠ b ∧ nms = [a, b]) (h : liftS K (XR1 mg) W (bindS f (raiseK c nms)) D σ H) :
    tMkO C (spInit C nms.length nms) [] (liftA K (XR1 mg) W f) σ H fun cls d H' => W cls d σ H' := by
  obtain ⟨Z, ι, S, l, R, sl, p⟩ := h
  refine ⟨Z, ι, S, l, R, sl, ?_⟩
  simp only [bindS] at p
  cases e : f l S with
  | none => rw [e] at p; exact p
  | some r =>
    obtain ⟨r, S'⟩ := r
    rw [e] at p
    cases r with
    | err x => exact fun ι' H' cls d st R' xr => p ι' H' σ cls d st R' (Sl.step R st sl) xr
    | ok t =>
      cases t with
      | lst ts =>
        simp only [raiseK] at p
        by_cases q : allInt ts = true ∧ ts.length = nms.length
        · rw [if_pos q] at p
          intro ι' H' vs st R' ia
          refine init_fin (C := C) (names := nms) (H1 := H') (Q := fun cls d H' => W cls d σ H') (n := nms.length) (by rw [ia.length]; exact q.2) (by rcases hs with ⟨a, rfl⟩ | ⟨a, b, _, rfl⟩ <;> simp) fun dd hd => ?_
          have s2 : Step ι' S'.length H' ι' S'.length (upd H' dd (.xd (nms.zip vs).reverse)) := Step.fresh hd
          exact p ι' _ σ _ _ (st.trans s2) (R'.fresh hd) (Sl.step R' s2 (Sl.step R st sl)) ⟨C, hm, rfl, .inr ⟨dd, _, rfl, upd_same, fun nm i z => look_zip hs ia q.2 z⟩⟩
        · rw [if_neg q] at p
          exact p.elim
      | _ => exact p.elim
end
section
variable {K : PySem.W.Frag} {mg : Str → Option Value} {W : WX} {σ : L2.St} {H : Hp} {D : Ends} {CM : Addr} {i : Nat} {f : SS} {g : Exn → SS}
theorem Sl.no {Z : Addr → Prop} {ι : Nat → Addr} {n : Nat} {l : Lo} (o : Option V) (h : Sl K Z H ι n σ l) : Sl K Z H ι n (σ.set i o) (l.set i none) := by
  refine ⟨by simp [h.1], fun j t e => ?_⟩
  by_cases hj : i = j
  · subst hj
    rw [List.getElem?_set] at e
    split at e
    · split at e <;> cases e
    · rename_i z; exact absurd rfl z
  · rw [List.getElem?_set_ne hj] at e
    rw [List.getElem?_set_ne hj]
    exact h.2 j t e
theorem try_lift (hex : ∀ (x : Exn) (C : Addr), (kindW x.cls).isSome = true → mg x.cls = some (.ref C) → PySem.W.exmOne K (.ref C) (.ref CM) = some true) (h : liftS K (XR1 mg) W (fun l S => tryK i g (f l S)) D σ H) :
    liftS K (XR1 mg) (wAs K (.ref CM) i (fun a cls d D σ H => ∃ x, (kindW x.cls).isSome = true ∧ liftHS K mg x cls d i a (g x) D σ H) W D) f D σ H := by
  obtain ⟨Z, ι, S, l, R, sl, p⟩ := h
  refine ⟨Z, ι, S, l, R, sl, ?_⟩
  simp only at p
  cases e : f l S with
  | none => rw [e] at p; exact p
  | some r =>
    obtain ⟨r, S'⟩ := r
    rw [e] at p
    cases r with
    | nx l' => exact p
    | rt t => exact p
    | er x l' =>
      simp only [tryK] at p
      intro ι' H' σ' cls d st R' sl' xr
      by_cases hk2 : ((kindW x.cls).isSome && decide (i < l'.length)) = true
      · rw [if_pos hk2] at p
        rw [Bool.and_eq_true, decide_eq_true_eq] at hk2
        obtain ⟨hk, hi⟩ := hk2
        have xr' := xr
        obtain ⟨C, m, rfl, _⟩ := xr'
        refine ⟨true, hex x C hk m, fun _ a ha => ⟨x, hk, xr, ?_, Z, ι', S', l'.set i none, R', sl'.no _, ?_⟩, fun z => nomatch z⟩
        · rw [List.getElem?_set_self (by rw [sl'.1]; exact hi)]
        have p := PostS.of_step st p
        cases e2 : g x (l'.set i none) S' with
        | none => rw [e2] at p; exact p
        | some r2 =>
          obtain ⟨r2, S2⟩ := r2
          rw [e2] at p
          cases r2 with
          | nx l2 => exact fun ι2 H2 σ2 st2 R2 sl2 _ => p ι2 H2 _ st2 R2 (sl2.no none)
          | rt t => exact p
          | er y l2 => exact p.elim
      · rw [if_neg hk2] at p
        exact p.elim
end
end TL
namespace TL
open PySem PySem.Spec PyProof.Rows L2
def parC (sc : Scope) (x y : Str) (px py : Pos) (a b : Expr) : Bool :=
  (match sc.names.lookup x with | some .local => true | _ => false) && (match sc.names.lookup y with | some .local => true | _ => false) && py.line == px.line && !(x == y) && !isStarred a && !isStarred b && !(foldedForSure 8 a && foldedForSure 8 b) && !(constantsAlone 8 a && constantsAlone 8 b)
def lcC (sc : Scope) (t e : Expr) : Bool := match t, e with
  | .Name y py, .ListComp _ _ scope pos => if localC sc y then py.line == pos.line && !(scope.names.any fun (n, k) => n == y && (k == .local || k == .cell)) else true
  | .Tuple .., .ListComp .. => true
  | _, _ => false
def isLcE : Expr → Bool
  | .ListComp .. => true
  | _ => false
def chkS (N : List Str) : Sm → Scope → (Str → Bool) → GS → Bool
  | .nil, sc, fn, g => match g with
    | .sts [] => true
    | _ => false
  | .seq a b, sc, fn, g => match g with
    | .sts (x :: xs) => chkS N a sc fn (.st x) && chkS N b sc fn (.sts xs)
    | _ => false
  | .skip, sc, fn, g => match g with
    | .st (.Pass _) => true
    | _ => false
  | .expr e, sc, fn, g => match g with
    | .st (.Expr x _) => notComp x && chk N e sc fn (.ex x)
    | _ => false
  | .asg tg e, sc, fn, g => match g with
    | .st (.Assign [t] x _) => tgC N sc fn tg t && (match tg with | .name _ => true | .tup _ => !isTupE x) && (if isLcE x then lcC sc t x else notComp x) && chk N e sc fn (.ex x)
    | _ => false
  | .par i j args, sc, fn, g => match g with
    | .st (.Assign [.Tuple [.Name x px, .Name y py] _ _] (.Tuple [a, b] _ _) _) => N[i]? == some x && N[j]? == some y && !(i == j) && parC sc x y px py a b && chk N args sc fn (.args [a, b])
    | _ => false
  | .setI a b e, sc, fn, g => match g with
    | .st (.Assign [.Subscript x y _] z _) => ixC y && notComp z && chk N a sc fn (.ex x) && chk N b sc fn (.ex y) && chk N e sc fn (.ex z)
    | _ => false
  | .aug i e, sc, fn, g => match g with
    | .st (.AugAssign (.Name y _) .Add x _) => N[i]? == some y && locC sc fn y && chk N e sc fn (.ex x)
    | _ => false
  | .ret e, sc, fn, g => match g with
    | .st (.Return (some x) _) => chk N e sc fn (.ex x)
    | _ => false
  | .retN, sc, fn, g => match g with
    | .st (.Return none _) => true
    | _ => false
  | .ite c a b, sc, fn, g => match g with
    | .st (.If x y z _) => ptC x && chk N c sc fn (.ex x) && chkS N a sc fn (.sts y) && chkS N b sc fn (.sts z)
    | _ => false
  | .loop tg it body, sc, fn, g => match g with
    | .st (.For t x y [] _) => tgC N sc fn tg t && notSet x && chk N it sc fn (.iter x t) && chkS N body sc fn (.sts y)
    | _ => false
  | .raise c nms args, sc, fn, g => match g with
    | .st (.Raise (some (.Call (.Name x _) es [] _)) none _) => x == c && glC sc x && okName x && es.all notStar && chk N args sc fn (.args es) && (if es.isEmpty then nms.isEmpty && (match args with | .nil => true | _ => false) else !nms.isEmpty)
    | _ => false
  | .tr body i suite, sc, fn, g => match g with
    | .st (.Try b [.ExceptHandler (some (.Name x _)) (some n) (b0 :: su) _] [] [] _) => x == "MeanError" && glC sc x && N[i]? == some n && localC sc n && chkS N body sc fn (.sts b) && chkHS N sc i suite (.sts (b0 :: su))
    | _ => false
  | .wh _ c body, sc, fn, g => match g with
    | .st (.While x y [] _) => ptC x && chk N c sc fn (.ex x) && chkS N body sc fn (.sts y)
    | _ => false
def RaiseNeed (M : Md) (lv : Nat) (c : Str) (nms : List Str) : Prop := ∃ C : Addr, M.mg c = some (.ref C) ∧ match nms with
  | [] => PySem.W.excIn M.K C [.type "ValueError", .type "Exception", .type "BaseException", .type "object"] "ValueError.__new__" = true ∧ PySem.W.keepIn M.K (.ref C) = true ∧ PySem.W.subIn M.K (.ref C) (.type "BaseException") = some true ∧ PySem.W.typeIn M.K (.ref C) = some (.type "type")
  | nms => ((∃ a, nms = [a]) ∨ ∃ a b, a ≠ b ∧ nms = [a, b]) ∧ 2 ≤ lv ∧ ∃ (fI : Addr) (fd : FuncData) (ps : List Str), OexC M.K C ∧ PySem.W.findIn M.K (.ref C) "__init__" = some (some (.ref fI)) ∧ PySem.W.typeIn M.K (.ref fI) = some (.type "function") ∧
      FnOk M.prog M.w M.K M.mg M.base (L2N.CX M.prog M.w) 1 fI fd ps (XL.spInit C nms.length nms) ∧ Binds M.K fd ps []
structure TryNeed (M : Md) (lv : Nat) : Prop where
  room : 1 ≤ lv
  ex : ∃ (cs : List Addr) (CM : Addr), ExNeed M cs ∧ M.mg "MeanError" = some (.ref CM) ∧ ∀ C ∈ cs, PySem.W.exmOne M.K (.ref C) (.ref CM) = some true
def needS (M : Md) (XR : XRel) (lv : Nat) : Sm → Prop
  | .seq a b => needS M XR lv a ∧ needS M XR lv b
  | .expr e => need M XR lv e
  | .asg _ e => need M XR lv e
  | .par _ _ e => need M XR lv e
  | .setI a b e => need M XR lv a ∧ need M XR lv b ∧ need M XR lv e
  | .aug _ e => need M XR lv e
  | .ret e => need M XR lv e
  | .ite c a b => need M XR lv c ∧ needS M XR lv a ∧ needS M XR lv b
  | .loop _ it b => need M XR lv it ∧ needS M XR lv b
  | .wh _ c b => need M XR lv c ∧ needS M XR lv b
  | .raise c nms args => RaiseNeed M lv c nms ∧ need M XR lv args
  | .tr b _ su => TryNeed M lv ∧ needS M XR lv b ∧ needHS M su
  | _ => True
def OkS (X : Cx) (XR : XRel) (W : WX) (g : GS) (f : SS) : Prop := match g with
  | .st x => PS X x (liftS X.K XR W f)
  | .sts xs => PSs X xs (liftS X.K XR W f)
theorem par_sw {sc : Scope} {env : Env} {x y : Str} {px py pt pt2 : Pos} {a b : Expr} {kt k2 : Nat} (hs : env.scope = sc) (hk : env.scope.kind = .function) (h : parC sc x y px py a b = true) :
    swappedStores [.Tuple [.Name x px, .Name y py] kt pt] (.Tuple [a, b] k2 pt2) env = pure (some [x, y]) ∧ env.scope.names.lookup x = some .local ∧ env.scope.names.lookup y = some .local := by
  unfold parC at h
  simp only [Bool.and_eq_true, Bool.not_eq_true', beq_iff_eq] at h
  obtain ⟨⟨⟨⟨⟨⟨⟨h1, h2⟩, h3⟩, h4⟩, h5⟩, h6⟩, h7⟩, h8⟩ := h
  have l1 : env.scope.names.lookup x = some .local := by
    rw [hs]; split at h1 <;> first | assumption | cases h1
  have l2 : env.scope.names.lookup y = some .local := by
    rw [hs]; split at h2 <;> first | assumption | cases h2
  refine ⟨?_, l1, l2⟩
  have kx : env.kindOf x = some .local := l1
  have ky : env.kindOf y = some .local := l2
  have hb : env.blockKind = .function := by unfold Env.blockKind; rw [hk]; rfl
  have hne : (y == x) = false := by
    have h4 : ¬ x = y := by simpa using h4
    simpa using Ne.symm h4
  have f1 : (foldedForSure 8 a && foldedForSure 8 b) = false := h7
  have f2 : (constantsAlone 8 a && constantsAlone 8 b) = false := h8
  have e1 : isStarred a = false := h5
  have e2 : isStarred b = false := h6
  unfold swappedStores
  simp only [List.length_cons, List.length_nil, hb, List.any_cons, List.any_nil, List.head?_cons, Option.map_some, Option.getD_some, List.filterMap_cons, List.filterMap_nil, kx, ky, Expr.pos, h3, List.all_cons, List.all_nil, Bool.and_true, f1, f2]
  have d2 : ([x, y] : List Str).eraseDups = [x, y] := by simp [List.eraseDups, List.eraseDupsBy, List.eraseDupsBy.loop, hne]
  rw [if_neg (by decide), if_neg]
  · simp [d2, f1, f2]
  · intro h
    simp only [Bool.or_false, Bool.or_eq_true] at h
    rcases h with h | h
    · cases a <;> first | (cases h; done) | (cases e1; done)
    · cases b <;> first | (cases h; done) | (cases e2; done)
structure GoodS (M : Md) (XR : XRel) (lv : Nat) (N : List Str) (sc : Scope) (fn : Str → Bool) (X : Cx) (W : WX) : Prop where
  g : Good M XR lv N sc fn X W
  own : PassesOwn (model X.prog X.w) X.A X.env X.xe
  kind : sc.kind = .function
  stk : X.stack = X.env :: X.outer
  frm : X.env.frame = some X.env.locals
theorem nosw1 {e t : Expr} {l : Nat} {env : Env} (h : notComp e = true) : swapsWithSole [t] e l env = pure false := by
  unfold swapsWithSole
  exact nosw h
theorem nosw0 {e : Expr} {l : Nat} {env : Env} (h : notComp e = true) : swapsWith e none l env = pure false := by
  cases e <;> first | rfl | cases h
theorem nostores {e t : Expr} {env : Env} (h : isTupE e = false) : swappedStores [t] e env = pure none := by
  cases t <;> first
    | rfl
    | (cases e <;> first | rfl | cases h)
theorem nostores_sub {e x y : Expr} {p : Pos} {env : Env} : swappedStores [.Subscript x y p] e env = pure none := by
  cases e <;> rfl
section
variable {M : Md} {XR : XRel} {lv : Nat} {N : List Str}
theorem set_comp {i : Nat} {y : Str} {py : Pos} {e : E} {x : Expr} {pos : Pos} {sc : Scope} {fn : Str → Bool} {X : Cx} {W : WX} (G : Good M XR lv N sc fn X W) (hk : sc.kind = .function) (hy : N[i]? = some y) (hl : localC sc y = true) (hlc : isLcE x = true) (hsw : lcC sc (.Name y py) x = true)
    (h : chk N e sc fn (.ex x) = true) (n : need M XR lv e) : PS X (.Assign [.Name y py] x pos) (tAsg (liftE X.K XR W (ev e)) (gName i)) := by
  have hyl : X.env.scope.names.lookup y = some .local := by
    rw [G.sc]
    unfold localC at hl
    split at hl <;> first | assumption | cases hl
  cases e with
  | comp nw own tg it cond elt =>
    simp only [chk] at h
    split at h
    · rename_i _ x t i' ifs scope pos' heq
      cases heq
      simp only [Bool.and_eq_true, List.all_eq_true] at h
      obtain ⟨⟨⟨⟨⟨⟨h1, h2⟩, h3⟩, h4⟩, h5⟩, h6⟩, h7⟩ := h
      have hi := sound it sc fn _ h5 n.1 X W G
      have hin : ∀ k ∈ tg.ins, k ∈ own.map (·.2) := fun k hk => by simpa using h3 k hk
      have ok : BlkOk X.N X.env.scope scope own := by rw [G.N, G.sc]; exact blkOk_by h1
      have key : ∃ tt, (∀ (s : Shared) (H : Hp) (C : Addr) (cl : List (Str × Addr)) (fp : List Addr), PTs (X.blk s H scope (compEnvC scope cl C X.env) fp) ifs tt) ∧ TOk X.K XR (condE cond.isNop (ev cond)) tt := by
        cases ifs with
        | nil =>
          have h6 : cond.isNop = true := h6
          refine ⟨tYes, fun _ _ _ _ _ => pts_nil, ?_⟩
          intro σ H Q q
          rw [h6] at q
          obtain ⟨c, e, q⟩ := ret_lift (.bl true) (show liftE X.K XR WF (retE (.bl true)) σ H _ from q)
          cases e
          exact q
        | cons c r =>
          cases r with
          | nil =>
            simp only [Bool.and_eq_true, Bool.not_eq_true'] at h6
            refine ⟨tB (liftE X.K XR WF (ev cond)), fun s H C cl fp => pts_one ((sound cond _ _ _ h6.2 n.2.1 _ WF (G.blk s H scope C cl fp)).2.1 h6.1.2), ?_⟩
            intro σ H Q q
            rw [h6.1.1] at q
            exact q
          | cons _ _ => cases h6
      obtain ⟨tt, ht, tok⟩ := key
      have hel : ∀ (s : Shared) (H : Hp) (C : Addr) (cl : List (Str × Addr)) (fp : List Addr), PE (X.blk s H scope (compEnvC scope cl C X.env) fp) x (liftE X.K XR WF (ev elt)) := fun s H C cl fp => (sound elt _ _ _ h7 n.2.2 _ WF (G.blk s H scope C cl fp)).1
      have htg : ∀ (s : Shared) (H : Hp) (C : Addr) (cl : List (Str × Addr)) (fp : List Addr), PG (X.blk s H scope (compEnvC scope cl C X.env) fp) t (gOf X.K tg) := fun s H C cl fp => tg_ok (G.blk s H scope C cl fp) h2
      simp only [lcC, hl, if_true, Bool.and_eq_true, Bool.not_eq_true'] at hsw
      refine (ps_setLc (i := i) G.calm G.nodup (by rw [G.N]; exact hy) hyl (sw_true (by rw [G.sc]; exact hk) hyl hsw.1 hsw.2) hi ok htg ht hel (nofold h4)).imp fun D σ H q => ?_
      exact comp_lift (gok_of tg) tok hin q
    · cases h
  | _ =>
    cases x <;> first | (cases hlc; done) | (simp [chk] at h; done)
def SoundS (M : Md) (lv : Nat) (N : List Str) (s : Sm) : Prop := ∀ (sc : Scope) (fn : Str → Bool) (g : GS), chkS N s sc fn g = true → needS M (XR1 M.mg) lv s → ∀ (X : Cx) (W : WX), GoodS M (XR1 M.mg) lv N sc fn X W → OkS X (XR1 M.mg) W g (ex s)
theorem beq_strY {a b : Str} (h : (a == b) = true) : a = b := by simpa using h
theorem soundS : ∀ s : Sm, SoundS M lv N s := by
  intro s
  induction s with
  | nil =>
    intro sc fn g h n X W G
    simp only [chkS] at h
    split at h
    · exact pss_nil.imp fun D σ H q => nil_lift q
    · cases h
  | seq a b iha ihb =>
    intro sc fn g h n X W G
    simp only [chkS] at h
    split at h
    · simp only [Bool.and_eq_true] at h
      exact (pss_cons (iha sc fn _ h.1 n.1 X W G) (ihb sc fn _ h.2 n.2 X W G)).imp fun D σ H q => seq_lift q
    · cases h
  | skip =>
    intro sc fn g h n X W G
    simp only [chkS] at h
    split at h
    · exact ps_pass.imp fun D σ H q => nil_lift q
    · cases h
  | expr e =>
    intro sc fn g h n X W G
    simp only [chkS] at h
    split at h
    · simp only [Bool.and_eq_true] at h
      exact (ps_expr (sound e sc fn _ h.2 n X W G.g).1 (nosw0 h.1)).imp fun D σ H q => drop_lift q
    · cases h
  | asg tg e =>
    intro sc fn g h n X W G
    simp only [chkS] at h
    split at h
    · rename_i t x pos
      simp only [Bool.and_eq_true] at h
      obtain ⟨⟨⟨h1, h2⟩, h3⟩, h4⟩ := h
      have he := sound e sc fn _ h4 n X W G.g
      have hg := tg_ok G.g h1
      have fin : PS X (.Assign [t] x pos) (tAsg (liftE X.K (XR1 M.mg) W (ev e)) (gOf X.K tg)) := by
        cases tg with
        | name i =>
          cases t with
          | Name y p =>
            simp only [tgC, Bool.and_eq_true, beq_iff_eq] at h1
            obtain ⟨l1, l2⟩ := loc_ok G.g h1.2
            by_cases hlc : isLcE x = true
            · rw [if_pos hlc] at h3
              by_cases hl : localC sc y = true
              · exact set_comp G.g G.kind h1.1 hl hlc h3 h4 n
              · refine ps_set G.g.nodup (by rw [G.g.N]; exact h1.1) l1 he.1 ?_ l2
                cases x <;> first | (cases hlc; done) | skip
                rename_i elt gens scope ps
                have kn : X.env.kindOf y ≠ some .local := fun k => hl (by
                  have k : X.env.scope.names.lookup y = some .local := k
                  rw [G.g.sc] at k
                  unfold localC
                  rw [k])
                unfold swapsWith
                have kb : (X.env.kindOf y == some NameKind.local) = false := by simpa using kn
                simp [kb]
            · rw [if_neg hlc] at h3
              exact ps_set G.g.nodup (by rw [G.g.N]; exact h1.1) l1 he.1 (nosw h3) l2
          | _ => cases h1
        | tup is =>
          cases t with
          | Tuple xs k p =>
            refine ps_asg he.1 hg ?_ (nostores (by simpa using h2)) rfl
            by_cases hlc : isLcE x = true
            · cases x <;> first | (cases hlc; done) | rfl
            · rw [if_neg hlc] at h3
              exact nosw1 h3
          | _ => cases h1
      exact fin.imp fun D σ H q => asg_lift (gok_of tg) q
    · cases h
  | par i j args =>
    intro sc fn g h n X W G
    simp only [chkS] at h
    split at h
    · simp only [Bool.and_eq_true, Bool.not_eq_true', beq_iff_eq] at h
      obtain ⟨⟨⟨⟨h1, h2⟩, h3⟩, h4⟩, h5⟩ := h
      have ha := sound args sc fn _ h5 n X W G.g
      obtain ⟨q1, q2, q3⟩ := par_sw (pt := default) (pt2 := default) (kt := 0) (k2 := 0) G.g.sc (by rw [G.g.sc]; exact G.kind) h4
      refine (ps_par G.g.calm G.g.nodup (by rw [G.g.N]; exact h1) (by rw [G.g.N]; exact h2) (by simpa using h3) q2 q3 ha (par_sw G.g.sc (by rw [G.g.sc]; exact G.kind) h4).1 rfl).imp fun D σ H q => par_lift q
    · cases h
  | setI a b e =>
    intro sc fn g h n X W G
    simp only [chkS] at h
    split at h
    · rename_i x y p z pos
      simp only [Bool.and_eq_true, Bool.not_eq_true'] at h
      obtain ⟨⟨⟨⟨h1, h2⟩, h4⟩, h5⟩, h6⟩ := h
      have ha := sound a sc fn _ h4 n.1 X W G.g
      have hb := sound b sc fn _ h5 n.2.1 X W G.g
      have he := sound e sc fn _ h6 n.2.2 X W G.g
      have hu : X.A.units + 1 < cLine := by have := G.g.units; omega
      refine (ps_asg he.1 (pg_sub ha.1 hb.1 (set_put hu) (fun v => ?_)) (nosw1 h2) nostores_sub rfl).imp fun D σ H q => put_lift q
      cases y <;> first | rfl | cases h1
    · cases h
  | aug i e =>
    intro sc fn g h n X W G
    simp only [chkS] at h
    split at h
    · simp only [Bool.and_eq_true, beq_iff_eq] at h
      obtain ⟨⟨h1, h2⟩, h3⟩ := h
      obtain ⟨l1, l2⟩ := loc_ok G.g h2
      have he := sound e sc fn _ h3 n X W G.g
      exact (ps_aug G.g.nodup (by rw [G.g.N]; exact h1) l1 he.1 ip_add l2).imp fun D σ H q => aug_lift q
    · cases h
  | ret e =>
    intro sc fn g h n X W G
    simp only [chkS] at h
    split at h
    · exact (ps_ret (sound e sc fn _ h n X W G.g).1).imp fun D σ H q => ret_liftS q
    · cases h
  | retN =>
    intro sc fn g h n X W G
    simp only [chkS] at h
    split at h
    · exact ps_retN.imp fun D σ H q => retN_lift q
    · cases h
  | ite c a b iha ihb =>
    intro sc fn g h n X W G
    simp only [chkS] at h
    split at h
    · simp only [Bool.and_eq_true] at h
      obtain ⟨⟨⟨h1, h2⟩, h3⟩, h4⟩ := h
      have hc := sound c sc fn _ h2 n.1 X W G.g
      exact (ps_if (hc.2.1 h1) (iha sc fn _ h3 n.2.1 X W G) (ihb sc fn _ h4 n.2.2 X W G)).imp fun D σ H q => ite_liftS q
    · cases h
  | loop tg it body ihb =>
    intro sc fn g h n X W G
    simp only [chkS] at h
    split at h
    · simp only [Bool.and_eq_true] at h
      obtain ⟨⟨⟨h1, h2⟩, h3⟩, h4⟩ := h
      have hi := sound it sc fn _ h3 n.1 X W G.g
      exact (ps_for G.own G.g.calm hi (tg_ok G.g h1) (ihb sc fn _ h4 n.2 X W G) (nofold h2)).imp fun D σ H q => loop_lift (gok_of tg) q
    · cases h
  | raise c nms args =>
    intro sc fn g h n X W G
    simp only [chkS] at h
    split at h
    · rename_i x p es pos pos2
      simp only [Bool.and_eq_true] at h
      obtain ⟨⟨⟨⟨⟨h1, h2⟩, h3⟩, h4⟩, h5⟩, h6⟩ := h
      obtain rfl := beq_strY h1
      have ha := sound args sc fn _ h5 n.2 X W G.g
      have hmd := G.g.md
      subst hmd
      obtain ⟨⟨C, hm, n1⟩, _⟩ := n
      cases es with
      | nil =>
        simp only [List.isEmpty_nil, if_true, Bool.and_eq_true, List.isEmpty_iff] at h6
        obtain ⟨rfl, h7⟩ := h6
        have e : args = .nil := by cases args <;> first | rfl | cases h7
        subst e
        obtain ⟨q1, q2, q3, q4⟩ := n1
        exact (L2N.ps_raise G.g.calm G.g.tk (XL.made0 PySem.F.excBase_ValueError q1 hm q2 (raises_own q3 q4) (gl_ok G.g h2) (okName_ok h3).1)).imp fun D σ H q => raise0_lift hm q
      | cons e es =>
        have h6 : nms ≠ [] := by
          intro z
          subst z
          simp at h6
        obtain ⟨a, r, rfl⟩ := List.exists_cons_of_ne_nil h6
        obtain ⟨hs, hlv, fI, fd, ps, T, iC, tI, Fi, bnd⟩ := n1
        have h4' := h4
        rw [List.all_cons, Bool.and_eq_true] at h4'
        have e1 : isStarred e = false := by
          have := h4'.1
          cases e <;> first | rfl | cases this
        refine (L2N.ps_raise G.g.calm G.g.tk (XL.madeI T iC tI Fi (G.g.room.mono hlv) bnd ?_ (gl_ok G.g h2) hm ha (okName_ok h3).1 (star1 e1) (star_none h4'.2))).imp fun D σ H q => raise_lift hm hs q
        intro pins σ H s er s' I c
        obtain ⟨_, _, _, _, _, _, _, _, _, _, _, _, z⟩ := c
        exact z.elim
    · cases h
  | tr body i suite ihb =>
    intro sc fn g h n X W G
    simp only [chkS] at h
    split at h
    · rename_i b x p nm b0 su p2 p3
      simp only [Bool.and_eq_true, beq_iff_eq] at h
      obtain ⟨⟨⟨⟨⟨h1, h2⟩, h3⟩, h4⟩, h5⟩, h6⟩ := h
      subst h1
      have hmd := G.g.md
      subst hmd
      obtain ⟨⟨hlv, ⟨cs, CM, ne, hM, hex⟩⟩, nb, nsu⟩ := n
      have hl : X.env.scope.names.lookup nm = some .local := by
        rw [G.g.sc]
        unfold localC at h4
        split at h4 <;> first | assumption | cases h4
      have body_ok := fun (W' : WX) (pn : List (Addr × Obj)) (xe : Value → Shared → Prop) (tk : L2N.Takes (X.tr pn xe) W') (own : PassesOwn (model X.prog X.w) X.A X.env xe) =>
        ihb sc fn _ h5 nb (X.tr pn xe) W' ⟨⟨rfl, G.g.N, G.g.sc, G.g.fn, G.g.calm, G.g.nodup, G.g.units, G.g.room, tk, G.g.xo, G.g.blt⟩, own, G.kind, G.stk, G.frm⟩
      refine (L2N.ps_try_as (i := i) (tb := fun W' => liftS X.K (XR1 X.mg) W' (ex body)) (ts := fun a cls d D σ H => ∃ x, (kindW x.cls).isSome = true ∧ liftHS X.K X.mg x cls d i a (exH x suite) D σ H) G.stk G.frm G.g.nodup (by rw [G.g.N]; exact h3) hl ⟨gl_ok G.g h2, by decide, .inl hM⟩ G.g.tk body_ok ?_).imp fun D σ H q => ?_
      · intro a oe cls d pn zn hf
        refine ⟨fun pins s σ H D I z => ?_⟩
        obtain ⟨x, hk, z⟩ := z
        exact (soundHS hk suite _ h6 nsu cs X a oe pn cls d ⟨rfl, G.g.N, G.g.sc, G.g.nodup, G.g.units, G.g.room.mono hlv, G.g.blt, ne, zn, hf⟩).run pins s σ H D I z
      · refine try_lift (fun x C hk hm => ?_) q
        cases e : kindW x.cls with
        | none => rw [e] at hk; cases hk
        | some w =>
          obtain ⟨j, h1, h2⟩ := kindW_ix e
          have hj : j < cs.length := by
            have := (List.getElem?_eq_some_iff.mp h1).1
            rw [ne.kf.len]
            exact this
          have q := ne.kf.g j _ (List.getElem?_eq_getElem hj) _ h1
          have q : X.mg x.cls = some (.ref cs[j]) := q
          rw [hm] at q
          cases q
          exact hex _ (List.getElem_mem hj)
    · cases h
  | wh k c body ihb =>
    intro sc fn g h n X W G
    simp only [chkS] at h
    split at h
    · simp only [Bool.and_eq_true] at h
      obtain ⟨⟨h1, h2⟩, h3⟩ := h
      have hc := sound c sc fn _ h2 n.1 X W G.g
      exact (ps_while G.own (hc.2.1 h1) (ihb sc fn _ h3 n.2 X W G)).imp fun D σ H q => wh_lift q
    · cases h
end
end TL
namespace TL
open PySem PySem.Spec PyProof.Rows L2 PySem.OEX
theorem fn_ok {P : Program} {w : World} {K : PySem.W.Frag} {mg : Str → Option Value} {base : Heap} {x qual : Str} {st : Stmt} {f : Addr} {fd : FuncData} {N ps : List Str} {k : Nat} {body : Sm} (F : Fun K x qual st f fd) (S : FnScope N ps (defScope st))
    (hblt : ∀ y ∈ bltNames, mg y = none) (hc : chkS N body (defScope st) (fun _ => true) (.sts (defBody st)) = true) (hn : needS ⟨P, w, K, mg, base⟩ (XR1 mg) k body) :
    FnOk P w K mg base (L2N.CX P w) (k + 1) f fd ps (spT K (XR1 mg) ps.length (fnS N.length body)) := by
  obtain ⟨oc, od, kV, doc, pm, an, cdv, ct, osl, rfl, lk, hcd⟩ := F.ex
  refine fn_of lk hcd S (fun vs H Q E h => h.1) fun A outer s H vs Q E hr h => ?_
  obtain ⟨hl, Z, ι, S0, ts, R, ia, p⟩ := h
  have G : GoodS ⟨P, w, K, mg, base⟩ (XR1 mg) k N (defScope st) (fun _ => true) (cxOf (L2N.CX P w) P w K mg base N qual (defScope st) f cdv A outer s H E) (fun cls d _ H' => E cls d H') :=
    ⟨⟨rfl, rfl, rfl, fun _ _ => rfl, rfl, S.nd, by have := hr.un; show (A.deeper _).units + 65 < _; omega, hr, L2N.takes_of rfl rfl rfl rfl, xok1, hblt⟩, passes_of rfl, S.kind, rfl, rfl⟩
  refine ⟨_, soundS body (defScope st) (fun _ => true) _ hc hn _ _ G, ?_⟩
  refine ⟨Z, ι, S0, ts.map some ++ List.replicate (N.length - ts.length) none, R, Sl.none_any ia N.length, ?_⟩
  unfold fnS at p
  cases e : ex body (ts.map some ++ List.replicate (N.length - ts.length) none) S0 with
  | none => rw [e] at p; exact p
  | some r =>
    obtain ⟨r, S'⟩ := r
    rw [e] at p
    cases r with
    | nx l => exact fun ι' H' σ' st R' sl => p ι' H' .non st R' .non
    | rt t => exact p
    | er x l => exact fun ι' H' σ' cls d st R' sl xr => p ι' H' cls d st R' xr
theorem need_of {P : Program} {w : World} {K : PySem.W.Frag} {mg : Str → Option Value} {base : Heap} {XR : XRel} {x : Str} {f : Addr} {fd : FuncData} {ps : List Str} {k lv : Nat} {F : FnS}
    (h : FnOk P w K mg base (L2N.CX P w) k f fd ps (spT K XR ps.length F)) (hk : k ≤ lv) (hm : mg x = some (.ref f)) (hkeep : PySem.W.keepIn K (.ref f) = true) (hb : Binds K fd ps []) : FnNeed ⟨P, w, K, mg, base⟩ XR lv x ps.length F :=
  ⟨f, fd, ps, k, hk, h, hm, hkeep, hb⟩
def spA (K : PySem.W.Frag) (n : Nat) (F : FnS) : Sp := fun vs H Q E => ∀ mg, spT K (XR1 mg) n F vs H Q E
theorem fn_any {CX : CXT} {P : Program} {w : World} {K : PySem.W.Frag} {mg : Str → Option Value} {base : Heap} {f : Addr} {fd : FuncData} {ps : List Str} {k n : Nat} {F : FnS} (o : FnOk P w K mg base CX k f fd ps (spT K (XR1 mg) n F)) : FnOk P w K mg base CX k f fd ps (spA K n F) :=
  ⟨fun vs H Q E h => o.len vs H Q E (h mg), fun A outer s H args us vs Q E h1 h2 h3 h4 h => o.run A outer s H args us vs Q E h1 h2 h3 h4 (h mg)⟩
def okcB (K : PySem.W.Frag) (C : Addr) : Bool :=
  (PySem.W.clsIn K C).isSome && (decide (PySem.W.findIn K (.ref C) "__getattribute__" = some (some (.builtin "BaseException.__getattribute__"))) && (decide (PySem.W.findIn K (.ref C) "__getattr__" = some none) && (decide (PySem.W.subIn K (.ref C) (.type "BaseException") = some true) &&
  (decide (PySem.W.findIn K (.ref C) "__class__" = some (some (.builtin "object.__class__"))) && (decide (PySem.W.specialIn K (.builtin "object.__class__") "__get__" = some (some (.builtin "getset_descriptor.__get__"))) && (decide (PySem.W.takesIn K (.builtin "object.__class__") = some true) &&
  (decide (PySem.W.mroIn K C (.type "object") = some true) && (PySem.W.hasDictIn K C && (PySem.W.keepIn K (.ref C) && decide (PySem.W.typeIn K (.ref C) = some (.type "type")))))))))))
def xfB (K : PySem.W.Frag) (cs : List Addr) (CM : Addr) : Bool :=
  decide (cs.length = 8) && (cs.all (okcB K) && (((List.range 8).all fun i => (List.range 8).all fun j => decide (PySem.W.kitOne K (.ref (cs.getD i 0)) (.ref (cs.getD j 0)) = some (decide (i = j)))) &&
  ((cs.all fun C => decide (PySem.W.kitOne K (.ref C) (.type "ValueError") = some true) && decide (PySem.W.exmOne K (.ref C) (.ref CM) = some true)) &&
  (cs.all fun C => (["number", "row", "many", "most"] : List Str).all fun nm => decide (PySem.W.findIn K (.ref C) nm = some none)))))
theorem okcB_ok {K : PySem.W.Frag} {C : Addr} (h : okcB K C = true) : XL.XC K C ∧ PySem.W.keepIn K (.ref C) = true ∧ PySem.W.typeIn K (.ref C) = some (.type "type") := by
  unfold okcB at h
  simp only [Bool.and_eq_true, decide_eq_true_eq] at h
  obtain ⟨h1, h2, h3, h4, h5, h6, h7, h8, h9, h10, h11⟩ := h
  exact ⟨⟨h1, h2, h3, h4, h5, h6, h7, h8, h9⟩, h10, h11⟩
theorem xfB_ok {M : Md} {cs : List Addr} {CM : Addr} (h : xfB M.K cs CM = true) (g : ∀ (i : Nat) (C : Addr), cs[i]? = some C → ∀ c, exN[i]? = some c → M.mg c = some (.ref C)) : ExNeed M cs ∧ ∀ C ∈ cs, PySem.W.exmOne M.K (.ref C) (.ref CM) = some true := by
  unfold xfB at h
  simp only [Bool.and_eq_true, decide_eq_true_eq, List.all_eq_true] at h
  obtain ⟨h1, h2, h3, h4, h5⟩ := h
  refine ⟨⟨⟨h1, g, fun i j C D hi hj => ?_, fun i C hi => (h4 C (List.mem_of_getElem? hi)).1, fun i C hi => (okcB_ok (h2 C (List.mem_of_getElem? hi))).1⟩, fun C hC nm hn => h5 C hC nm hn⟩, fun C hC => (h4 C hC).2⟩
  have i8 := (List.getElem?_eq_some_iff.mp hi).1
  have j8 := (List.getElem?_eq_some_iff.mp hj).1
  have := h3 i (List.mem_range.mpr (by omega)) j (List.mem_range.mpr (by omega))
  rw [List.getD_eq_getElem?_getD, List.getD_eq_getElem?_getD, hi, hj] at this
  exact this
theorem names8 {mg : Str → Option Value} {c0 c1 c2 c3 c4 c5 c6 c7 : Addr} (h0 : mg "NoPlace" = some (.ref c0)) (h1 : mg "NoArrow" = some (.ref c1)) (h2 : mg "NoRing" = some (.ref c2)) (h3 : mg "NoNumber" = some (.ref c3)) (h4 : mg "NoRow" = some (.ref c4)) (h5 : mg "NoWeb" = some (.ref c5)) (h6 : mg "NoText" = some (.ref c6)) (h7 : mg "TooGreat" = some (.ref c7)) :
    ∀ (i : Nat) (C : Addr), [c0, c1, c2, c3, c4, c5, c6, c7][i]? = some C → ∀ c, exN[i]? = some c → mg c = some (.ref C) := by
  intro i C hi c hc
  match i, hi, hc with
  | 0, hi, hc => cases hi; cases hc; exact h0
  | 1, hi, hc => cases hi; cases hc; exact h1
  | 2, hi, hc => cases hi; cases hc; exact h2
  | 3, hi, hc => cases hi; cases hc; exact h3
  | 4, hi, hc => cases hi; cases hc; exact h4
  | 5, hi, hc => cases hi; cases hc; exact h5
  | 6, hi, hc => cases hi; cases hc; exact h6
  | 7, hi, hc => cases hi; cases hc; exact h7
  | n + 8, hi, hc => simp at hi
theorem try_need {M : Md} {cs : List Addr} {CM : Addr} {lv : Nat} (hl : 1 ≤ lv) (h : xfB M.K cs CM = true) (g : ∀ (i : Nat) (C : Addr), cs[i]? = some C → ∀ c, exN[i]? = some c → M.mg c = some (.ref C)) (gm : M.mg "MeanError" = some (.ref CM)) : TryNeed M lv :=
  ⟨hl, ⟨cs, CM, (xfB_ok h g).1, gm, (xfB_ok h g).2⟩⟩
theorem kind_need {M : Md} {st : Stmt} {f : Addr} {fd : FuncData} {e y qual : Str} (F : Fun M.K "_law_kind_of" qual st f fd) (S : FnScope [e, y] [e] (defScope st)) (hm : M.mg "_law_kind_of" = some (.ref f)) (hb : Binds M.K fd [e] [])
    (h : (XL.kindC (defScope st) e y (defBody st) && !(e == y) && localC (defScope st) e && localC (defScope st) y && okName e && okName y) = true) : KindNeed M := by
  simp only [Bool.and_eq_true, Bool.not_eq_true', beq_eq_false_iff_ne] at h
  obtain ⟨⟨⟨⟨⟨h1, h2⟩, h3⟩, h4⟩, h5⟩, h6⟩ := h
  have loc : ∀ {z : Str}, localC (defScope st) z = true → (defScope st).names.lookup z = some .local := by
    intro z hz
    unfold localC at hz
    split at hz <;> first | assumption | cases hz
  exact ⟨f, fd, qual, st, e, y, F, S, hm, hb, h1, h2, loc h3, loc h4, h5, h6⟩
theorem whole_need {M : Md} {st : Stmt} {f : Addr} {fd : FuncData} {y qual : Str} (F : Fun M.K "_law_whole" qual st f fd) (S : FnScope [y] [y] (defScope st)) (hm : M.mg "_law_whole" = some (.ref f)) (hb : Binds M.K fd [y] [])
    (h : (wholeC (defScope st) y (defBody st) && localC (defScope st) y && okName y) = true) : WholeNeed M := by
  simp only [Bool.and_eq_true] at h
  obtain ⟨⟨h1, h3⟩, h5⟩ := h
  have loc : ∀ {z : Str}, localC (defScope st) z = true → (defScope st).names.lookup z = some .local := by
    intro z hz
    unfold localC at hz
    split at hz <;> first | assumption | cases hz
  exact ⟨f, fd, qual, st, y, F, S, hm, hb, h1, loc h3, h5⟩
def clsBody : Stmt → List Stmt
  | .ClassDef _ _ _ b _ _ _ _ _ _ _ => b
  | _ => []
theorem oex_of {M : Md} {cs : List Addr} {CM C B N : Addr} {nm q : Str} {bs : List Value} {sn : List Str} {sub : List Value} {ab : Bool} {col : Option Bool} {dd : Option Addr} {m0 m1 m2 m3 m5 : Option Value} (h : xfB M.K cs CM = true) (hC : C ∈ cs)
    (xL : M.K.lookup C = some (excClassObj nm q C N bs [.ref B, .type "ValueError", .type "Exception", .type "BaseException", .type "object"] true sn sub ab col dd m0 m1 m2 m3 m5 "ValueError.__new__")) (sa : PySem.W.findIn M.K (.ref C) "__setattr__" = some (some (.builtin "object.__setattr__"))) :
    OexC M.K C ∧ ∀ nm ∈ (["number", "row", "many", "most"] : List Str), PySem.W.findIn M.K (.ref C) nm = some none := by
  unfold xfB at h
  simp only [Bool.and_eq_true, decide_eq_true_eq, List.all_eq_true] at h
  obtain ⟨h1, h2, h3, h4, h5⟩ := h
  obtain ⟨a, b, d⟩ := okcB_ok (h2 C hC)
  exact ⟨⟨⟨nm, q, N, bs, _, sn, sub, ab, col, dd, m0, m1, m2, m3, m5, xL, rfl⟩, sa, a.ex, d, b⟩, fun nm hn => h5 C hC nm hn⟩
theorem localC_ok {sc : Scope} {z : Str} (hz : localC sc z = true) : sc.names.lookup z = some .local := by
  unfold localC at hz
  split at hz <;> first | assumption | cases hz
theorem raise1_need {M : Md} {C f : Addr} {fd : FuncData} {lv : Nat} {c a0 a1 n1 qual : Str} {st : Stmt} {p1 p2 p3 p4 : Pos} (hl : 2 ≤ lv) (g : M.mg c = some (.ref C)) (T : OexC M.K C) (hno : PySem.W.findIn M.K (.ref C) n1 = some none) (iC : PySem.W.findIn M.K (.ref C) "__init__" = some (some (.ref f))) (tI : PySem.W.typeIn M.K (.ref f) = some (.type "function"))
    (F : Fun M.K "__init__" qual st f fd) (S : FnScope [a0, a1] [a0, a1] (defScope st)) (hb : defBody st = [.Assign [.Attribute (.Name a0 p1) n1 p2] (.Name a1 p3) p4]) (b : (localC (defScope st) a0 && localC (defScope st) a1 && okName a0 && okName a1) = true) (bnd : Binds M.K fd [a0, a1] []) : RaiseNeed M lv c [n1] := by
  simp only [Bool.and_eq_true] at b
  obtain ⟨⟨⟨b1, b2⟩, b3⟩, b4⟩ := b
  exact ⟨C, g, .inl ⟨_, rfl⟩, hl, f, fd, _, T, iC, tI, XL.init1 F S T hno hb (localC_ok b1) (localC_ok b2) ⟨(okName_ok b3).1, (okName_ok b3).2.1⟩ ⟨(okName_ok b4).1, (okName_ok b4).2.1⟩, bnd⟩
theorem law_sp {K : PySem.W.Frag} {XR : XRel} {F : FnS} {H : Hp} {a : Addr} {ns : List Int} {S' : Sto} (h : F [.scr ns] [] = some (.ok (.bl true), S')) (hs : SqL K H a (ns.map V.int)) : spT K XR 1 F [.ref a] H (fun v _ => v = .bl true) fun _ _ _ => False := by
  refine ⟨rfl, fun _ => False, fun _ => 0, [], [.scr ns], ⟨fun i j h => absurd h (Nat.not_lt_zero _), fun i o e => by simp at e, fun a z => z.elim, fun i h => absurd h (Nat.not_lt_zero _)⟩, .one (hs.elim (fun hr => .scr hr (fun i h => absurd h (Nat.not_lt_zero _)) id) .scrK), ?_⟩
  rw [h]
  exact fun ι' H' v st R' i => is_bl i
end TL
namespace TL
open PySem PySem.Spec L2
theorem nr {α : Sort _} {a b : α} (h : a = b) : a = b := by
  cases h
  exact Eq.refl a
abbrev RE := Option (Res × Sto)
abbrev RS := Option (Out × Sto)
def bnd (o : RE) (k : T → Sto → RE) : RE := match o with
  | none => none
  | some (.err x, S) => some (.err x, S)
  | some (.ok t, S) => k t S
def tstE (o : RE) (f g : Sto → RE) : RE := match o with
  | none => none
  | some (.err x, S) => some (.err x, S)
  | some (.ok (.bl b), S) => if b = true then f S else g S
  | _ => none
def notK : T → Sto → RE
  | .bl b, S => some (.ok (.bl (!b)), S)
  | _, _ => none
def negK : T → Sto → RE
  | .int i, S => some (.ok (.int (-i)), S)
  | _, _ => none
def outB (o : Option Bool) (S : Sto) : RE := match o with
  | some k => some (.ok (.bl k), S)
  | none => none
def outV (o : Option T) (S : Sto) : RE := match o with
  | some t => some (.ok t, S)
  | none => none
def outK (nw : Bool) (o : Option Raw) (S : Sto) : RE := match o with
  | none => none
  | some (.val t) => if nw = true then none else some (.ok t, S)
  | some (.fresh ts) => if nw = true then some (.ok (.ref S.length), S ++ [.lst ts]) else some (.ok (.lst ts), S)
def chainK (o : Option Bool) (S : Sto) (f : Sto → RE) : RE := match o with
  | some k => if k = true then f S else some (.ok (.bl false), S)
  | none => none
def lstK (t : T) (k : List T → RE) : RE := match t with
  | .lst ts => k ts
  | _ => none
def partK (t : T) (S : Sto) : RE := match t with
  | .int i => some (.ok (.int i), S)
  | _ => none
def slK (nw : Bool) (x i j : T) (S : Sto) : RE := match partF i, partF j with
  | some i, some j => outK nw (slF x i j S) S
  | _, _ => none
def inrK (ng : Bool) (x : T) (o : Option (Int × Int)) (S : Sto) : RE := match x, o with
  | .int i, some (lo, hi) => if -(2 ^ 62) ≤ lo ∧ lo < 2 ^ 62 ∧ -(2 ^ 62) ≤ hi ∧ hi < 2 ^ 62 then some (.ok (.bl (if ng then !decide (lo ≤ i ∧ i < hi) else decide (lo ≤ i ∧ i < hi))), S) else none
  | _, _ => none
def rngK (o : Option (List T)) (S : Sto) : RE := match o with
  | some xs => some (.ok (.tup [.non, .lst xs]), S)
  | none => none
def mtK (o : Option (T × Sto)) : RE := match o with
  | some (t, S') => some (.ok t, S')
  | none => none
def callK (keep : Bool) (S : Sto) (o : RE) : RE := if keep = true then o else frzR S.length o
def compK (nw : Bool) (d : T) (S : Sto) (k : List T → Option (List T × Sto)) : RE := match srcItems d S with
  | some items => if items.length ≤ LIM then (match k items with
    | some (vs, S2) => outK nw (some (.fresh vs)) S2
    | none => none) else none
  | none => none
def varK : Option (Option T) → Sto → RE
  | some (some t), S => some (.ok t, S)
  | _, _ => none
section
variable {l : Lo} {S : Sto}
theorem bnd_ok (t : T) (S : Sto) (k : T → Sto → RE) : bnd (some (.ok t, S)) k = k t S := nr rfl
theorem bnd_none (k : T → Sto → RE) : bnd none k = none := nr rfl
theorem bnd_ite (c : Prop) [Decidable c] (A B : RE) (k : T → Sto → RE) : bnd (if c then A else B) k = if c then bnd A k else bnd B k := by split <;> rfl
theorem tstE_ok (b : Bool) (S : Sto) (f g : Sto → RE) : tstE (some (.ok (.bl b), S)) f g = if b = true then f S else g S := nr rfl
theorem tstE_ite (c : Prop) [Decidable c] (A B : RE) (f g : Sto → RE) : tstE (if c then A else B) f g = if c then tstE A f g else tstE B f g := by split <;> rfl
theorem mrg_bl (c : Prop) [Decidable c] (x y : Bool) (S : Sto) : (if c then some (Res.ok (.bl x), S) else some (Res.ok (.bl y), S) : RE) = some (.ok (.bl (if c then x else y)), S) := by split <;> rfl
theorem mrg_int (c : Prop) [Decidable c] (x y : Int) (S : Sto) : (if c then some (Res.ok (.int x), S) else some (Res.ok (.int y), S) : RE) = some (.ok (.int (if c then x else y)), S) := by split <;> rfl
theorem bind_app (f : SE) (g : T → SE) : bindE f g l S = bnd (f l S) fun t S1 => g t l S1 := by
  unfold bindE bnd
  cases f l S with
  | none => rfl
  | some r => obtain ⟨r, S1⟩ := r; cases r <;> rfl
theorem args_app (f : SE) (g : List T → SE) : argsE f g l S = bnd (f l S) fun t S1 => lstK t fun ts => g ts l S1 := by
  unfold argsE
  rw [bind_app]
  congr 1; funext t S1
  cases t <;> rfl
theorem out_app (nw : Bool) (o : Option Raw) : outR nw o l S = outK nw o S := by
  unfold outR outK
  cases o with
  | none => rfl
  | some r => cases r <;> cases nw <;> rfl
theorem ev_var (i : Nat) : ev (.var i) l S = varK l[i]? S := by
  simp only [ev]
  cases l[i]? with
  | none => rfl
  | some o => cases o <;> rfl
theorem ev_gc (x : Str) (t : T) : ev (.gc x t) l S = some (.ok t, S) := nr rfl
theorem ev_int (i : Int) : ev (.int i) l S = some (.ok (.int i), S) := nr rfl
theorem ev_str (i : Str) : ev (.str i) l S = some (.ok (.str i), S) := nr rfl
theorem ev_bl (i : Bool) : ev (.bl i) l S = some (.ok (.bl i), S) := nr rfl
theorem ev_non : ev .non l S = some (.ok .non, S) := nr rfl
theorem ev_bin (nw : Bool) (op : Operator) (a b : E) : ev (.bin nw op a b) l S = bnd (ev a l S) fun x S1 => bnd (ev b l S1) fun y S2 => outK nw (binF op x y S2) S2 := by
  simp only [ev, binE, bind_app, out_app]
theorem ev_neg (a : E) : ev (.neg a) l S = bnd (ev a l S) negK := by
  simp only [ev, bind_app]; congr 1; funext t S1; cases t <;> rfl
theorem ev_not (a : E) : ev (.not a) l S = bnd (ev a l S) notK := by
  simp only [ev, bind_app]; congr 1; funext t S1; cases t <;> rfl
theorem ev_cmp (op : CmpOp) (a b : E) : ev (.cmp op a b) l S = bnd (ev a l S) fun x S1 => bnd (ev b l S1) fun y S2 => outB (cmpB op x y S2) S2 := by
  simp only [ev, binE, bind_app, out_app, cmpF]
  congr 1; funext x S1; congr 1; funext y S2
  cases cmpB op x y S2 <;> rfl
theorem ev_chain (p q : CmpOp) (a b c : E) : ev (.chain p q a b c) l S = bnd (ev a l S) fun x S1 => bnd (ev b l S1) fun y S2 => chainK (cmpB p x y S2) S2 fun S2 => bnd (ev c l S2) fun z S3 => outB (cmpB q y z S3) S3 := by
  simp only [ev, bind_app, out_app, cmpF]
  congr 1; funext x S1; congr 1; funext y S2
  cases cmpB p x y S2 with
  | none => rfl
  | some k =>
    cases k with
    | false => rfl
    | true =>
      show bnd _ _ = bnd _ _
      congr 1; funext z S3
      cases cmpB q y z S3 <;> rfl
theorem ev_inr (ng : Bool) (a r : E) : ev (.inr ng a r) l S = bnd (ev a l S) fun x S1 => bnd (ev r l S1) fun t S2 => lstK t fun ts => inrK ng x (rngBounds ts) S2 := by
  simp only [ev, bind_app, args_app]
  congr 1; funext x S1; congr 1; funext t S2
  cases t <;> try rfl
  rename_i ts
  simp only [lstK]
  cases x <;> cases rngBounds ts <;> try rfl
  simp only [inrK]
  split <;> rfl
theorem ev_and (a b : E) : ev (.and a b) l S = tstE (ev a l S) (fun S1 => ev b l S1) fun S1 => some (.ok (.bl false), S1) := by
  simp only [ev, bind_app]
  cases ev a l S with
  | none => rfl
  | some r => obtain ⟨r, S1⟩ := r; cases r with
    | err x => rfl
    | ok t => cases t <;> try rfl
              rename_i b; cases b <;> rfl
theorem ev_or (a b : E) : ev (.or a b) l S = tstE (ev a l S) (fun S1 => some (.ok (.bl true), S1)) fun S1 => ev b l S1 := by
  simp only [ev, bind_app]
  cases ev a l S with
  | none => rfl
  | some r => obtain ⟨r, S1⟩ := r; cases r with
    | err x => rfl
    | ok t => cases t <;> try rfl
              rename_i b; cases b <;> rfl
theorem ev_one (a : E) : ev (.one a) l S = ev a l S := nr rfl
theorem ev_ite (c a b : E) : ev (.ite c a b) l S = tstE (ev c l S) (fun S1 => ev a l S1) fun S1 => ev b l S1 := by
  simp only [ev, bind_app]
  cases ev c l S with
  | none => rfl
  | some r => obtain ⟨r, S1⟩ := r; cases r with
    | err x => rfl
    | ok t => cases t <;> try rfl
              rename_i b; cases b <;> rfl
theorem ev_nil : ev .nil l S = some (.ok (.lst []), S) := nr rfl
theorem ev_cons (a r : E) : ev (.cons a r) l S = bnd (ev a l S) fun x S1 => bnd (ev r l S1) fun t S2 => lstK t fun ts => some (.ok (.lst (x :: ts)), S2) := by
  simp only [ev, bind_app, args_app]; rfl
theorem ev_tup (a : E) : ev (.tup a) l S = bnd (ev a l S) fun t S1 => lstK t fun ts => if ts.length ≤ LIM then some (.ok (.tup ts), S1) else none := by
  simp only [ev, args_app]
  refine congrArg _ (funext fun t => funext fun S1 => ?_)
  cases t <;> try rfl
  simp only [lstK]; split <;> rfl
theorem ev_lst (nw : Bool) (a : E) : ev (.lst nw a) l S = bnd (ev a l S) fun t S1 => lstK t fun ts => if ts.length ≤ LIM then outK nw (some (.fresh ts)) S1 else none := by
  simp only [ev, args_app]
  refine congrArg _ (funext fun t => funext fun S1 => ?_)
  cases t <;> try rfl
theorem ev_dnew (t nw : Bool) : ev (.dnew t nw) l S = if t = true then (if nw = true then some (.ok (.ref S.length), S ++ [.dT []]) else some (.ok (.dT []), S)) else (if nw = true then some (.ok (.ref S.length), S ++ [.dK []]) else some (.ok (.dK []), S)) := nr rfl
theorem ev_idx (a b : E) : ev (.idx a b) l S = bnd (ev a l S) fun x S1 => bnd (ev b l S1) fun y S2 => outV (idxF x y S2) S2 := by
  simp only [ev, bind_app]; rfl
theorem part_app (nop : Bool) (f : SE) : partE nop f l S = if nop = true then some (.ok .non, S) else bnd (f l S) partK := by
  unfold partE
  cases nop with
  | true => rfl
  | false =>
    simp only [Bool.false_eq_true, if_false, bind_app]
    congr 1; funext t S1; cases t <;> rfl
theorem ev_sl (nw : Bool) (a lo hi : E) : ev (.sl nw a lo hi) l S = bnd (ev a l S) fun x S1 => bnd (if lo.isNop = true then some (.ok .non, S1) else bnd (ev lo l S1) partK) fun i S2 => bnd (if hi.isNop = true then some (.ok .non, S2) else bnd (ev hi l S2) partK) fun j S3 => slK nw x i j S3 := by
  simp only [ev, bind_app, part_app]
  congr 1; funext x S1; congr 1; funext i S2; congr 1; funext j S3
  unfold slK
  cases partF i <;> cases partF j <;> first | rfl | exact out_app _ _
theorem ev_rev (nw : Bool) (a : E) : ev (.rev nw a) l S = bnd (ev a l S) fun x S1 => outK nw (revF x S1) S1 := by
  simp only [ev, bind_app, out_app]
theorem ev_call (keep : Bool) (x : Str) (F : FnS) (a : E) : ev (.call keep x F a) l S = bnd (ev a l S) fun t S1 => lstK t fun ts => callK keep S1 (F ts S1) := by
  simp only [ev, args_app]; rfl
theorem ev_bi (nw : Bool) (b : Bi) (a : E) : ev (.bi nw b a) l S = bnd (ev a l S) fun t S1 => lstK t fun ts => outK nw (biF b ts S1) S1 := by
  simp only [ev, args_app, out_app]
theorem ev_isi (a : E) (ty : String) : ev (.isi a ty) l S = bnd (ev a l S) fun x S1 => outB (isiF ty x S1) S1 := by
  simp only [ev, bind_app]
  congr 1; funext x S1
  cases isiF ty x S1 <;> rfl
theorem ev_comp (nw : Bool) (own : List (Str × Nat)) (tg : Tg) (it cond elt : E) : ev (.comp nw own tg it cond elt) l S = bnd (ev it l S) fun d S1 => compK nw d S1 fun items => compL tg (condE cond.isNop (ev cond)) (ev elt) d items (wipeL l (own.map (·.2))) items S1 := by
  simp only [ev, compE]
  cases ev it l S with
  | none => rfl
  | some r => obtain ⟨r, S1⟩ := r; cases r with
    | err x => rfl
    | ok d =>
      show _ = compK _ _ _ _
      dsimp only
      unfold compK
      cases srcItems d S1 with
      | none => rfl
      | some items =>
        dsimp only
        split
        · cases compL tg (condE cond.isNop (ev cond)) (ev elt) d items (wipeL l (own.map (·.2))) items S1 with
          | none => rfl
          | some p => obtain ⟨vs, S2⟩ := p; exact out_app _ _
        · rfl
theorem ev_seq (a : E) : ev (.seq a) l S = bnd (ev a l S) fun x S1 => some (.ok (.tup [.int 0, x]), S1) := by
  simp only [ev, bind_app]; rfl
theorem ev_rng (a : E) : ev (.rng a) l S = bnd (ev a l S) fun t S1 => lstK t fun ts => rngK (rngF ts) S1 := by
  simp only [ev, args_app]
  congr 1; funext t S1; cases t <;> try rfl
  simp only [lstK]
  rename_i ts
  cases rngF ts <;> rfl
theorem ev_enum (a : E) : ev (.enum a) l S = bnd (ev a l S) fun x S1 => some (.ok (.tup [.bl false, x]), S1) := by
  simp only [ev, bind_app]; rfl
theorem ev_lenset (a : E) : ev (.lenset a) l S = bnd (ev a l S) fun x S1 => match lenSetF x with
    | some i => some (.ok (.int i), S1)
    | none => none := by
  simp only [ev]
  rw [bind_app]
  congr 1
  funext x S1
  cases lenSetF x <;> rfl
theorem ev_zip (a b : E) : ev (.zip a b) l S = bnd (ev a l S) fun x S1 => bnd (ev b l S1) fun y S2 => some (.ok (.tup [.bl true, x, y]), S2) := by
  simp only [ev, bind_app]; rfl
theorem ev_meth (m : Mt) (o a : E) : ev (.meth m o a) l S = bnd (ev o l S) fun x S1 => if mtTy m x S1 = true then bnd (ev a l S1) fun t S2 => lstK t fun ts => mtK (mtF m x ts S2) else none := by
  simp only [ev, bind_app, args_app]; rfl
end
def bndS (l : Lo) (o : RE) (k : T → Sto → RS) : RS := match o with
  | none => none
  | some (.err x, S) => some (.er x l, S)
  | some (.ok t, S) => k t S
def tstS (l : Lo) (o : RE) (f g : Sto → RS) : RS := match o with
  | none => none
  | some (.err x, S) => some (.er x l, S)
  | some (.ok (.bl b), S) => if b = true then f S else g S
  | _ => none
def thn (o : RS) (k : Lo → Sto → RS) : RS := match o with
  | some (.nx l, S) => k l S
  | r => r
def asgK (o : Option Lo) (S : Sto) : RS := match o with
  | some l' => some (.nx l', S)
  | none => none
def putK' (o : Option Sto) (l : Lo) : RS := match o with
  | some S' => some (.nx l, S')
  | none => none
def augK (o : Option (Option T)) (i : Nat) (l : Lo) (k : Int → RS) : RS := match o with
  | some (some (.int j)) => k j
  | _ => none
def augV (t : T) (j : Int) (i : Nat) (l : Lo) (S : Sto) : RS := match t with
  | .int m => some (.nx (l.set i (some (.int (j + m)))), S)
  | _ => none
def parK (t : T) (i j : Nat) (l : Lo) (S : Sto) : RS := match t with
  | .lst [x, y] => some (.nx ((l.set i (some x)).set j (some y)), S)
  | _ => none
def fnK (o : RS) : RE := match o with
  | some (.nx _, S') => some (.ok .non, S')
  | some (.rt t, S') => some (.ok t, S')
  | some (.er x _, S') => some (.err x, S')
  | none => none
section
variable {l : Lo} {S : Sto}
theorem bndS_ok (l : Lo) (t : T) (S : Sto) (k : T → Sto → RS) : bndS l (some (.ok t, S)) k = k t S := nr rfl
theorem bndS_ite (l : Lo) (c : Prop) [Decidable c] (A B : RE) (k : T → Sto → RS) : bndS l (if c then A else B) k = if c then bndS l A k else bndS l B k := by split <;> rfl
theorem tstS_ok (l : Lo) (b : Bool) (S : Sto) (f g : Sto → RS) : tstS l (some (.ok (.bl b), S)) f g = if b = true then f S else g S := nr rfl
theorem tstS_ite (l : Lo) (c : Prop) [Decidable c] (A B : RE) (f g : Sto → RS) : tstS l (if c then A else B) f g = if c then tstS l A f g else tstS l B f g := by split <;> rfl
theorem thn_nx (l : Lo) (S : Sto) (k : Lo → Sto → RS) : thn (some (.nx l, S)) k = k l S := nr rfl
theorem thn_rt (t : T) (S : Sto) (k : Lo → Sto → RS) : thn (some (.rt t, S)) k = some (.rt t, S) := nr rfl
theorem thn_er (x : Exn) (l : Lo) (S : Sto) (k : Lo → Sto → RS) : thn (some (.er x l, S)) k = some (.er x l, S) := nr rfl
theorem thn_none (k : Lo → Sto → RS) : thn none k = none := nr rfl
theorem thn_ite (c : Prop) [Decidable c] (A B : RS) (k : Lo → Sto → RS) : thn (if c then A else B) k = if c then thn A k else thn B k := by split <;> rfl
theorem thenS_app (f g : SS) : thenS f g l S = thn (f l S) g := by
  unfold thenS thn
  split <;> simp_all
theorem bindS_app (f : SE) (g : T → SS) : bindS f g l S = bndS l (f l S) fun t S1 => g t l S1 := by
  unfold bindS bndS
  cases f l S with
  | none => rfl
  | some r => obtain ⟨r, S1⟩ := r; cases r <;> rfl
theorem ex_nil : ex .nil l S = some (.nx l, S) := nr rfl
theorem ex_skip : ex .skip l S = some (.nx l, S) := nr rfl
theorem ex_seq (a b : Sm) : ex (.seq a b) l S = thn (ex a l S) fun l1 S1 => ex b l1 S1 := by
  simp only [ex, thenS_app]
theorem ex_expr (e : E) : ex (.expr e) l S = bndS l (ev e l S) fun _ S1 => some (.nx l, S1) := by
  simp only [ex, bindS_app]
theorem ex_asg (tg : Tg) (e : E) : ex (.asg tg e) l S = bndS l (ev e l S) fun t S1 => asgK (asgTg tg t l) S1 := by
  simp only [ex, bindS_app]; rfl
theorem ex_par (i j : Nat) (e : E) : ex (.par i j e) l S = bndS l (ev e l S) fun t S1 => parK t i j l S1 := by
  simp only [ex, bindS_app]
  congr 1
theorem ex_setI (a b e : E) : ex (.setI a b e) l S = bndS l (ev e l S) fun v S1 => bndS l (ev a l S1) fun x S2 => bndS l (ev b l S2) fun y S3 => putK' (putI v x y S3) l := by
  simp only [ex, bindS_app]; rfl
theorem ex_aug (i : Nat) (e : E) : ex (.aug i e) l S = augK l[i]? i l fun j => bndS l (ev e l S) fun t S1 => augV t j i l S1 := by
  simp only [ex]
  cases l[i]? with
  | none => rfl
  | some o => cases o with
    | none => rfl
    | some t => cases t <;> first | rfl | (simp only [bindS_app, augK]; rfl) | exact bindS_app _ _
theorem ex_ret (e : E) : ex (.ret e) l S = bndS l (ev e l S) fun t S1 => some (.rt t, S1) := by
  simp only [ex, bindS_app]
theorem ex_retN : ex .retN l S = some (.rt .non, S) := nr rfl
theorem ex_ite (c : E) (a b : Sm) : ex (.ite c a b) l S = tstS l (ev c l S) (fun S1 => ex a l S1) fun S1 => ex b l S1 := by
  simp only [ex, bindS_app]
  cases ev c l S with
  | none => rfl
  | some r => obtain ⟨r, S1⟩ := r; cases r with
    | err x => rfl
    | ok t => cases t <;> try rfl
              rename_i b; cases b <;> rfl
theorem fn_app (n : Nat) (b : Sm) (ts : List T) (S : Sto) : fnS n b ts S = fnK (ex b (ts.map some ++ List.replicate (n - ts.length) none) S) := by
  unfold fnS fnK
  split <;> simp_all
theorem fnK_rt (t : T) (S : Sto) : fnK (some (.rt t, S)) = some (.ok t, S) := nr rfl
theorem fnK_nx (l : Lo) (S : Sto) : fnK (some (.nx l, S)) = some (.ok .non, S) := nr rfl
theorem fnK_er (x : Exn) (l : Lo) (S : Sto) : fnK (some (.er x l, S)) = some (.err x, S) := nr rfl
theorem fnK_ite (c : Prop) [Decidable c] (A B : RS) : fnK (if c then A else B) = if c then fnK A else fnK B := by split <;> rfl
end
section
variable (i j : Int) (S : Sto)
theorem b_add : binF .Add (.int i) (.int j) S = some (.val (.int (i + j))) := nr rfl
theorem b_sub : binF .Sub (.int i) (.int j) S = some (.val (.int (i - j))) := nr rfl
theorem b_mul : binF .Mult (.int i) (.int j) S = if i.natAbs.log2 + j.natAbs.log2 < 1000000 then some (.val (.int (i * j))) else none := by
  show guardR _ _ = _
  unfold guardR
  simp
theorem b_fdiv : binF .FloorDiv (.int i) (.int j) S = if 0 < j ∧ j.natAbs.log2 < 9000 then some (.val (.int (i / j))) else none := by
  show guardR _ _ = _
  unfold guardR
  simp
theorem b_mod : binF .Mod (.int i) (.int j) S = if 0 < j then some (.val (.int (i % j))) else none := by
  show guardR _ _ = _
  unfold guardR
  simp
theorem b_pow : binF .Pow (.int i) (.int j) S = if 0 ≤ j ∧ j ≤ 1000000 ∧ i.natAbs < 2 ^ 64 then some (.val (.int (i ^ j.toNat))) else none := by
  show guardR _ _ = _
  unfold guardR
  simp
theorem c_eq : cmpB .Eq (.int i) (.int j) S = some (decide (i = j)) := by
  simp [cmpB, eqD, Sto.toD, T.toD, PyData.depth, PyData.eqv]
  rw [Bool.eq_iff_iff]; simp
theorem c_ne : cmpB .NotEq (.int i) (.int j) S = some (!decide (i = j)) := by
  simp [cmpB, eqD, Sto.toD, T.toD, PyData.depth, PyData.eqv]
  rw [Bool.eq_iff_iff]; simp
theorem c_lt : cmpB .Lt (.int i) (.int j) S = some (decide (i < j)) := nr rfl
theorem c_le : cmpB .LtE (.int i) (.int j) S = some (decide (i ≤ j)) := nr rfl
theorem c_gt : cmpB .Gt (.int i) (.int j) S = some (decide (j < i)) := nr rfl
theorem c_ge : cmpB .GtE (.int i) (.int j) S = some (decide (j ≤ i)) := nr rfl
end
section
variable {l : Lo} {S : Sto} {t : T}
theorem notK_bl (b : Bool) : notK (.bl b) S = some (.ok (.bl (!b)), S) := nr rfl
theorem negK_int (i : Int) : negK (.int i) S = some (.ok (.int (-i)), S) := nr rfl
theorem outB_some (k : Bool) : outB (some k) S = some (.ok (.bl k), S) := nr rfl
theorem outV_some : outV (some t) S = some (.ok t, S) := nr rfl
theorem outK_val : outK false (some (.val t)) S = some (.ok t, S) := nr rfl
theorem outK_fr (ts : List T) : outK false (some (.fresh ts)) S = some (.ok (.lst ts), S) := nr rfl
theorem outK_new (ts : List T) : outK true (some (.fresh ts)) S = some (.ok (.ref S.length), S ++ [.lst ts]) := nr rfl
theorem outK_ite (nw : Bool) (c : Prop) [Decidable c] (A B : Option Raw) : outK nw (if c then A else B) S = if c then outK nw A S else outK nw B S := by split <;> rfl
theorem chainK_some (k : Bool) (f : Sto → RE) : chainK (some k) S f = if k = true then f S else some (.ok (.bl false), S) := nr rfl
theorem lstK_l (ts : List T) (k : List T → RE) : lstK (.lst ts) k = k ts := nr rfl
theorem partK_int (i : Int) : partK (.int i) S = some (.ok (.int i), S) := nr rfl
theorem inrK_int (ng : Bool) (i lo hi : Int) : inrK ng (.int i) (some (lo, hi)) S = if -(2 ^ 62) ≤ lo ∧ lo < 2 ^ 62 ∧ -(2 ^ 62) ≤ hi ∧ hi < 2 ^ 62 then some (.ok (.bl (if ng = true then !decide (lo ≤ i ∧ i < hi) else decide (lo ≤ i ∧ i < hi))), S) else none := nr rfl
theorem rb1 (j : Int) : rngBounds [.int j] = some (0, j) := nr rfl
theorem rb2 (i j : Int) : rngBounds [.int i, .int j] = some (i, j) := nr rfl
theorem rngK_some (xs : List T) : rngK (some xs) S = some (.ok (.tup [.non, .lst xs]), S) := nr rfl
theorem mtK_some : mtK (some (t, S)) = some (.ok t, S) := nr rfl
theorem callK_t (o : RE) : callK true S o = o := nr rfl
theorem varK_s : varK (some (some t)) S = some (.ok t, S) := nr rfl
theorem asgK_some : asgK (some l) S = some (.nx l, S) := nr rfl
theorem asgTg_name (i : Nat) : asgTg (.name i) t l = some (l.set i (some t)) := nr rfl
theorem asgTg_tup (is : List Nat) (ts : List T) : asgTg (.tup is) (.tup ts) l = asgTup is ts l := nr rfl
theorem asgTup_cons (i : Nat) (is : List Nat) (ts : List T) : asgTup (i :: is) (t :: ts) l = asgTup is ts (l.set i (some t)) := nr rfl
theorem asgTup_nil : asgTup [] [] l = some l := nr rfl
theorem putK_some : putK' (some S) l = some (.nx l, S) := nr rfl
theorem augK_int (j : Int) (i : Nat) (k : Int → RS) : augK (some (some (.int j))) i l k = k j := nr rfl
theorem augV_int (m j : Int) (i : Nat) : augV (.int m) j i l S = some (.nx (l.set i (some (.int (j + m)))), S) := nr rfl
theorem parK_l (x y : T) (i j : Nat) : parK (.lst [x, y]) i j l S = some (.nx ((l.set i (some x)).set j (some y)), S) := nr rfl
theorem slK_nn (nw : Bool) (x : T) : slK nw x .non .non S = outK nw (slF x none none S) S := nr rfl
theorem slK_ni (nw : Bool) (x : T) (j : Int) : slK nw x .non (.int j) S = outK nw (slF x none (some j) S) S := nr rfl
theorem slK_in (nw : Bool) (x : T) (i : Int) : slK nw x (.int i) .non S = outK nw (slF x (some i) none S) S := nr rfl
theorem slK_ii (nw : Bool) (x : T) (i j : Int) : slK nw x (.int i) (.int j) S = outK nw (slF x (some i) (some j) S) S := nr rfl
theorem nop_t : E.isNop .nop = true := nr rfl
theorem bi_len (ts : List T) : biF .len ts S = lenF ts S := nr rfl
theorem bi_abs (i : Int) : biF .abs [.int i] S = some (.val (.int (if i < 0 then -i else i))) := nr rfl
theorem bi_max2 (i j : Int) : biF .max2 [.int i, .int j] S = some (.val (.int (if j > i then j else i))) := nr rfl
theorem bi_min2 (i j : Int) : biF .min2 [.int i, .int j] S = some (.val (.int (if j < i then j else i))) := nr rfl
theorem bi_max1 (ts : List T) : biF .max1 ts S = max1F ts S := nr rfl
theorem bi_min1 (ts : List T) : biF .min1 ts S = min1F ts S := nr rfl
theorem bi_sum (ts : List T) : biF .sum ts S = sumF ts S := nr rfl
theorem bi_all (ts : List T) : biF .all ts S = allF ts S := nr rfl
theorem bi_tuple (ts : List T) : biF .tuple ts S = tupleF ts S := nr rfl
theorem bi_list (ts : List T) : biF .list ts S = listF ts S := nr rfl
theorem bi_sorted (ts : List T) : biF .sorted ts S = sortedF ts S := nr rfl
theorem bi_int (i : Int) : biF .int [.int i] S = some (.val (.int i)) := nr rfl
theorem bi_intb (b : Bool) : biF .int [.bl b] S = some (.val (.int (if b = true then 1 else 0))) := nr rfl
theorem bi_str (ts : List T) : biF .str ts S = strF ts S := nr rfl
theorem len_tup (xs : List T) : lenF [.tup xs] S = some (.val (.int xs.length)) := nr rfl
theorem len_lst (xs : List T) : lenF [.lst xs] S = some (.val (.int xs.length)) := nr rfl
theorem len_scr (xs : List Int) : lenF [.scr xs] S = some (.val (.int xs.length)) := by
  have : lenF [.scr xs] S = some (.val (.int (xs.map T.int).length)) := rfl
  rw [this, List.length_map]
theorem nonop_int (i : Int) : E.isNop (.int i) = false := nr rfl
theorem nonop_var (i : Nat) : E.isNop (.var i) = false := nr rfl
theorem nonop_bin (nw : Bool) (op : Operator) (a b : E) : E.isNop (.bin nw op a b) = false := nr rfl
theorem nonop_neg (a : E) : E.isNop (.neg a) = false := nr rfl
end
theorem compL_map {i : Nat} {c elt : SE} {d : T} {items : List T} {l0 : Lo} {S : Sto} (g : T → T) (ok : okSrc d items S = true) : ∀ {rest : List T}, (∀ t ∈ rest, elt (l0.set i (some t)) S = some (.ok (g t), S)) →
    compL (.name i) (condE true c) elt d items l0 rest S = some (rest.map g, S)
  | [], _ => by simp [compL, ok]
  | t :: r, h => by
    have ih := compL_map g ok (rest := r) (c := c) fun u hu => h u (List.mem_cons_of_mem _ hu)
    have h1 := h t List.mem_cons_self
    simp only [compL, ok, if_true, asgTg, condE, retE, h1]
    simp only [condE, if_true] at ih
    rw [ih]
    rfl
theorem bools_map (p : T → Bool) : ∀ xs : List T, T.bools (xs.map fun t => .bl (p t)) = some (xs.map p)
  | [] => rfl
  | t :: r => by simp [T.bools, bools_map p r]
end TL
namespace H
open PySem PySem.Spec L2 TL
def B__law_cell_at : Sm := (.seq (.ite (.cmp .Lt (.var 1) (.bi false .len (.cons (.var 0) .nil))) (.seq (.ret (.idx (.var 0) (.var 1)))
  .nil) .nil)
  (.seq (.ret (.int 0))
  .nil))
def F__law_cell_at : FnS := fnS 2 B__law_cell_at
def B__law_next : Sm := (.seq (.asg (.name 0) (.bin false .Mod (.bin false .Add (.var 0) (.int 7919)) (.int 2147483647)))
  (.seq (.ret (.bin false .Mod (.bin false .Add (.bin false .Add (.bin false .Mult (.var 0) (.var 0)) (.bin false .Mult (.int 48271) (.var 0))) (.int 12345)) (.int 2147483629)))
  .nil))
def F__law_next : FnS := fnS 1 B__law_next
def B__law_pen_of : Sm := (.seq (.asg (.name 1) (.bi false .max2 (.cons (.var 0) (.cons (.bin false .Sub (.int 0) (.var 0)) .nil))))
  (.seq (.ret (.lst true (.cons (.var 1) (.cons (.bi false .int (.cons (.cmp .GtE (.var 1) (.bin false .Pow (.int 10) (.int 18))) .nil)) (.cons (.bin false .Mod (.var 1) (.int 1000003)) .nil)))))
  .nil))
def F__law_pen_of : FnS := fnS 2 B__law_pen_of
def B__law_draw : Sm := (.seq (.ite (.cmp .Eq (.idx (.var 0) (.int 1)) (.int 1)) (.seq (.asg (.name 2) (.bin false .Mod (.idx (.var 0) (.int 0)) (.var 1)))
  (.seq (.setI (.var 0) (.int 0) (.bin false .FloorDiv (.idx (.var 0) (.int 0)) (.var 1)))
  (.seq (.ret (.var 2))
  .nil))) .nil)
  (.seq (.setI (.var 0) (.int 2) (.call true "_law_next" F__law_next (.cons (.bin false .Add (.call true "_law_next" F__law_next (.cons (.idx (.var 0) (.int 2)) .nil)) (.int 7)) .nil)))
  (.seq (.ret (.bin false .Mod (.bin false .FloorDiv (.idx (.var 0) (.int 2)) (.int 64)) (.var 1)))
  .nil)))
def F__law_draw : FnS := fnS 3 B__law_draw
def B_is_whole : Sm := (.seq (.ret (.and (.isi (.var 0) "int") (.one (.not (.isi (.var 0) "bool")))))
  .nil)
def F_is_whole : FnS := fnS 1 B_is_whole
def B__law_whole : Sm := (.seq (.ret (.and (.isi (.var 0) "int") (.one (.not (.isi (.var 0) "bool")))))
  .nil)
def F__law_whole : FnS := fnS 1 B__law_whole
def B_arrow_good : Sm := (.seq (.ite (.or (.not (.isi (.var 1) "tuple")) (.or (.cmp .NotEq (.bi false .len (.cons (.var 1) .nil)) (.int 3)) (.one (.not (.bi false .all (.cons (.comp false [("one", 2)] (.name 2) (.seq (.var 1)) .nop (.call true "is_whole" F_is_whole (.cons (.var 2) .nil))) .nil)))))) (.seq (.ret (.bl false))
  .nil) .nil)
  (.seq (.ret (.and (.chain .LtE .Lt (.int 0) (.idx (.var 1) (.int 0)) (.var 0)) (.and (.chain .LtE .Lt (.int 0) (.idx (.var 1) (.int 1)) (.var 0)) (.one (.cmp .LtE (.bi false .abs (.cons (.idx (.var 1) (.int 2)) .nil)) (.gc "MOST_WORTH" (.int 1000000000000000000000000000000)))))))
  .nil))
def F_arrow_good : FnS := fnS 3 B_arrow_good
mutual
/-- no object of the store, no script within -/
def pl : T → Bool
  | .tup xs => pls xs
  | .lst xs => pls xs
  | .ref _ => false
  | .scr _ => false
  | .fn _ => false
  | _ => true
def pls : List T → Bool
  | [] => true
  | t :: r => pl t && pls r
end
def isW : T → Bool
  | .int _ => true
  | _ => false
theorem is_whole_eq (t : T) (S : Sto) (h : pl t = true) : F_is_whole [t] S = some (.ok (.bl (isW t)), S) := by
  unfold F_is_whole B_is_whole
  cases t <;> first
    | (simp [pl] at h; done)
    | simp [fn_app, ex_nil, ex_skip, ex_seq, ex_expr, ex_asg, ex_par, ex_setI, ex_aug, ex_ret, ex_retN, ex_ite, bndS_ok, bndS_ite, tstS_ok, tstS_ite, thn_nx, thn_rt, thn_er, thn_none, thn_ite, fnK_rt, fnK_nx, fnK_er, fnK_ite, asgK_some, asgTg_name, asgTg_tup, asgTup_cons, asgTup_nil, putK_some, augK_int, augV_int, parK_l, ev_var, ev_gc, ev_int, ev_str, ev_bl, ev_non, ev_bin, ev_neg, ev_not, ev_cmp, ev_chain, ev_inr, ev_and, ev_or, ev_one, ev_ite, ev_nil, ev_cons, ev_tup, ev_lst, ev_dnew, ev_idx, ev_sl, ev_rev, ev_call, ev_bi, ev_isi, ev_meth, bnd_ok, bnd_none, bnd_ite, tstE_ok, tstE_ite, mrg_bl, mrg_int, notK_bl, negK_int, outB_some, outV_some, outK_val, outK_fr, outK_new, outK_ite, chainK_some, lstK_l, partK_int, nop_t, nonop_int, nonop_var, nonop_bin, nonop_neg, inrK_int, mtK_some, callK_t, varK_s, slK_nn, slK_ni, slK_in, slK_ii, b_add, b_sub, b_mul, b_fdiv, b_mod, b_pow, c_eq, c_ne, c_lt, c_le, c_gt, c_ge, TL.bi_len, bi_abs, bi_max2, bi_min2, bi_max1, bi_min1, bi_sum, bi_all, bi_tuple, bi_list, bi_sorted, bi_int, bi_intb, bi_str, len_tup, len_lst, len_scr, rb1, rb2, List.map_cons, List.map_nil, List.length_cons, List.length_nil, List.replicate, List.cons_append, List.nil_append, List.getElem?_cons_succ, List.getElem?_cons_zero, List.set_cons_succ, List.set_cons_zero, if_true, if_false, Bool.false_eq_true, Bool.not_true, Bool.not_false, isiF, Sto.ty, isTy, isW]
theorem law_whole_eq (t : T) (S : Sto) (h : pl t = true) : F__law_whole [t] S = some (.ok (.bl (isW t)), S) := by
  unfold F__law_whole B__law_whole
  cases t <;> first
    | (simp [pl] at h; done)
    | simp [fn_app, ex_nil, ex_skip, ex_seq, ex_expr, ex_asg, ex_par, ex_setI, ex_aug, ex_ret, ex_retN, ex_ite, bndS_ok, bndS_ite, tstS_ok, tstS_ite, thn_nx, thn_rt, thn_er, thn_none, thn_ite, fnK_rt, fnK_nx, fnK_er, fnK_ite, asgK_some, asgTg_name, asgTg_tup, asgTup_cons, asgTup_nil, putK_some, augK_int, augV_int, parK_l, ev_var, ev_gc, ev_int, ev_str, ev_bl, ev_non, ev_bin, ev_neg, ev_not, ev_cmp, ev_chain, ev_inr, ev_and, ev_or, ev_one, ev_ite, ev_nil, ev_cons, ev_tup, ev_lst, ev_dnew, ev_idx, ev_sl, ev_rev, ev_call, ev_bi, ev_isi, ev_meth, bnd_ok, bnd_none, bnd_ite, tstE_ok, tstE_ite, mrg_bl, mrg_int, notK_bl, negK_int, outB_some, outV_some, outK_val, outK_fr, outK_new, outK_ite, chainK_some, lstK_l, partK_int, nop_t, nonop_int, nonop_var, nonop_bin, nonop_neg, inrK_int, mtK_some, callK_t, varK_s, slK_nn, slK_ni, slK_in, slK_ii, b_add, b_sub, b_mul, b_fdiv, b_mod, b_pow, c_eq, c_ne, c_lt, c_le, c_gt, c_ge, TL.bi_len, bi_abs, bi_max2, bi_min2, bi_max1, bi_min1, bi_sum, bi_all, bi_tuple, bi_list, bi_sorted, bi_int, bi_intb, bi_str, len_tup, len_lst, len_scr, rb1, rb2, List.map_cons, List.map_nil, List.length_cons, List.length_nil, List.replicate, List.cons_append, List.nil_append, List.getElem?_cons_succ, List.getElem?_cons_zero, List.set_cons_succ, List.set_cons_zero, if_true, if_false, Bool.false_eq_true, Bool.not_true, Bool.not_false, isiF, Sto.ty, isTy, isW]
def arrowB (m : Int) : T → Bool
  | .tup [.int a, .int b, .int c] => decide (0 ≤ a ∧ a < m) && (decide (0 ≤ b ∧ b < m) && decide (-(10 ^ 30) ≤ c ∧ c ≤ 10 ^ 30))
  | _ => false
theorem arrow_good_eq (m : Int) (t : T) (S : Sto) (h : pl t = true) : F_arrow_good [.int m, t] S = some (.ok (.bl (arrowB m t)), S) := by
  unfold F_arrow_good B_arrow_good
  cases t with
  | tup xs =>
    match xs, h with
    | [], h => simp [fn_app, ex_nil, ex_skip, ex_seq, ex_expr, ex_asg, ex_par, ex_setI, ex_aug, ex_ret, ex_retN, ex_ite, bndS_ok, bndS_ite, tstS_ok, tstS_ite, thn_nx, thn_rt, thn_er, thn_none, thn_ite, fnK_rt, fnK_nx, fnK_er, fnK_ite, asgK_some, asgTg_name, asgTg_tup, asgTup_cons, asgTup_nil, putK_some, augK_int, augV_int, parK_l, ev_var, ev_gc, ev_int, ev_str, ev_bl, ev_non, ev_bin, ev_neg, ev_not, ev_cmp, ev_chain, ev_inr, ev_and, ev_or, ev_one, ev_ite, ev_nil, ev_cons, ev_tup, ev_lst, ev_dnew, ev_idx, ev_sl, ev_rev, ev_call, ev_bi, ev_isi, ev_meth, bnd_ok, bnd_none, bnd_ite, tstE_ok, tstE_ite, mrg_bl, mrg_int, notK_bl, negK_int, outB_some, outV_some, outK_val, outK_fr, outK_new, outK_ite, chainK_some, lstK_l, partK_int, nop_t, nonop_int, nonop_var, nonop_bin, nonop_neg, inrK_int, mtK_some, callK_t, varK_s, slK_nn, slK_ni, slK_in, slK_ii, b_add, b_sub, b_mul, b_fdiv, b_mod, b_pow, c_eq, c_ne, c_lt, c_le, c_gt, c_ge, TL.bi_len, bi_abs, bi_max2, bi_min2, bi_max1, bi_min1, bi_sum, bi_all, bi_tuple, bi_list, bi_sorted, bi_int, bi_intb, bi_str, len_tup, len_lst, len_scr, rb1, rb2, List.map_cons, List.map_nil, List.length_cons, List.length_nil, List.replicate, List.cons_append, List.nil_append, List.getElem?_cons_succ, List.getElem?_cons_zero, List.set_cons_succ, List.set_cons_zero, if_true, if_false, Bool.false_eq_true, Bool.not_true, Bool.not_false, isiF, Sto.ty, isTy, lenF, Sto.seq, arrowB]
    | [a], h => simp [fn_app, ex_nil, ex_skip, ex_seq, ex_expr, ex_asg, ex_par, ex_setI, ex_aug, ex_ret, ex_retN, ex_ite, bndS_ok, bndS_ite, tstS_ok, tstS_ite, thn_nx, thn_rt, thn_er, thn_none, thn_ite, fnK_rt, fnK_nx, fnK_er, fnK_ite, asgK_some, asgTg_name, asgTg_tup, asgTup_cons, asgTup_nil, putK_some, augK_int, augV_int, parK_l, ev_var, ev_gc, ev_int, ev_str, ev_bl, ev_non, ev_bin, ev_neg, ev_not, ev_cmp, ev_chain, ev_inr, ev_and, ev_or, ev_one, ev_ite, ev_nil, ev_cons, ev_tup, ev_lst, ev_dnew, ev_idx, ev_sl, ev_rev, ev_call, ev_bi, ev_isi, ev_meth, bnd_ok, bnd_none, bnd_ite, tstE_ok, tstE_ite, mrg_bl, mrg_int, notK_bl, negK_int, outB_some, outV_some, outK_val, outK_fr, outK_new, outK_ite, chainK_some, lstK_l, partK_int, nop_t, nonop_int, nonop_var, nonop_bin, nonop_neg, inrK_int, mtK_some, callK_t, varK_s, slK_nn, slK_ni, slK_in, slK_ii, b_add, b_sub, b_mul, b_fdiv, b_mod, b_pow, c_eq, c_ne, c_lt, c_le, c_gt, c_ge, TL.bi_len, bi_abs, bi_max2, bi_min2, bi_max1, bi_min1, bi_sum, bi_all, bi_tuple, bi_list, bi_sorted, bi_int, bi_intb, bi_str, len_tup, len_lst, len_scr, rb1, rb2, List.map_cons, List.map_nil, List.length_cons, List.length_nil, List.replicate, List.cons_append, List.nil_append, List.getElem?_cons_succ, List.getElem?_cons_zero, List.set_cons_succ, List.set_cons_zero, if_true, if_false, Bool.false_eq_true, Bool.not_true, Bool.not_false, isiF, Sto.ty, isTy, lenF, Sto.seq, arrowB]
    | [a, b], h => simp [fn_app, ex_nil, ex_skip, ex_seq, ex_expr, ex_asg, ex_par, ex_setI, ex_aug, ex_ret, ex_retN, ex_ite, bndS_ok, bndS_ite, tstS_ok, tstS_ite, thn_nx, thn_rt, thn_er, thn_none, thn_ite, fnK_rt, fnK_nx, fnK_er, fnK_ite, asgK_some, asgTg_name, asgTg_tup, asgTup_cons, asgTup_nil, putK_some, augK_int, augV_int, parK_l, ev_var, ev_gc, ev_int, ev_str, ev_bl, ev_non, ev_bin, ev_neg, ev_not, ev_cmp, ev_chain, ev_inr, ev_and, ev_or, ev_one, ev_ite, ev_nil, ev_cons, ev_tup, ev_lst, ev_dnew, ev_idx, ev_sl, ev_rev, ev_call, ev_bi, ev_isi, ev_meth, bnd_ok, bnd_none, bnd_ite, tstE_ok, tstE_ite, mrg_bl, mrg_int, notK_bl, negK_int, outB_some, outV_some, outK_val, outK_fr, outK_new, outK_ite, chainK_some, lstK_l, partK_int, nop_t, nonop_int, nonop_var, nonop_bin, nonop_neg, inrK_int, mtK_some, callK_t, varK_s, slK_nn, slK_ni, slK_in, slK_ii, b_add, b_sub, b_mul, b_fdiv, b_mod, b_pow, c_eq, c_ne, c_lt, c_le, c_gt, c_ge, TL.bi_len, bi_abs, bi_max2, bi_min2, bi_max1, bi_min1, bi_sum, bi_all, bi_tuple, bi_list, bi_sorted, bi_int, bi_intb, bi_str, len_tup, len_lst, len_scr, rb1, rb2, List.map_cons, List.map_nil, List.length_cons, List.length_nil, List.replicate, List.cons_append, List.nil_append, List.getElem?_cons_succ, List.getElem?_cons_zero, List.set_cons_succ, List.set_cons_zero, if_true, if_false, Bool.false_eq_true, Bool.not_true, Bool.not_false, isiF, Sto.ty, isTy, lenF, Sto.seq, arrowB]
    | [a, b, c], h =>
      simp only [pl, pls, Bool.and_true, Bool.and_eq_true] at h
      obtain ⟨ha, hb, hc⟩ := h
      have ea := is_whole_eq a S ha
      have eb := is_whole_eq b S hb
      have ec := is_whole_eq c S hc
      have key : ∀ x y z : T, isW x = false ∨ isW y = false ∨ isW z = false → arrowB m (.tup [x, y, z]) = false := by
        intro x y z h
        unfold arrowB
        split
        · rename_i e
          cases e
          simp [isW] at h
        · rfl
      have cm := compL_map (i := 2) (c := ev .nop) (elt := ev (.call true "is_whole" F_is_whole (.cons (.var 2) .nil))) (d := .tup [.int 0, .tup [a, b, c]]) (items := [a, b, c]) (l0 := [some (.int m), some (.tup [a, b, c]), none]) (S := S) (rest := [a, b, c]) (fun t => .bl (isW t)) rfl (by
        intro t ht
        have hp : pl t = true := by simp at ht; rcases ht with rfl | rfl | rfl <;> assumption
        simp [fn_app, ex_nil, ex_skip, ex_seq, ex_expr, ex_asg, ex_par, ex_setI, ex_aug, ex_ret, ex_retN, ex_ite, bndS_ok, bndS_ite, tstS_ok, tstS_ite, thn_nx, thn_rt, thn_er, thn_none, thn_ite, fnK_rt, fnK_nx, fnK_er, fnK_ite, asgK_some, asgTg_name, asgTg_tup, asgTup_cons, asgTup_nil, putK_some, augK_int, augV_int, parK_l, ev_var, ev_gc, ev_int, ev_str, ev_bl, ev_non, ev_bin, ev_neg, ev_not, ev_cmp, ev_chain, ev_inr, ev_and, ev_or, ev_one, ev_ite, ev_nil, ev_cons, ev_tup, ev_lst, ev_dnew, ev_idx, ev_sl, ev_rev, ev_call, ev_bi, ev_isi, ev_meth, bnd_ok, bnd_none, bnd_ite, tstE_ok, tstE_ite, mrg_bl, mrg_int, notK_bl, negK_int, outB_some, outV_some, outK_val, outK_fr, outK_new, outK_ite, chainK_some, lstK_l, partK_int, nop_t, nonop_int, nonop_var, nonop_bin, nonop_neg, inrK_int, mtK_some, callK_t, varK_s, slK_nn, slK_ni, slK_in, slK_ii, b_add, b_sub, b_mul, b_fdiv, b_mod, b_pow, c_eq, c_ne, c_lt, c_le, c_gt, c_ge, TL.bi_len, bi_abs, bi_max2, bi_min2, bi_max1, bi_min1, bi_sum, bi_all, bi_tuple, bi_list, bi_sorted, bi_int, bi_intb, bi_str, len_tup, len_lst, len_scr, rb1, rb2, List.map_cons, List.map_nil, List.length_cons, List.length_nil, List.replicate, List.cons_append, List.nil_append, List.getElem?_cons_succ, List.getElem?_cons_zero, List.set_cons_succ, List.set_cons_zero, if_true, if_false, Bool.false_eq_true, Bool.not_true, Bool.not_false, is_whole_eq t S hp])
      have hcomp : ev (.comp false [("one", 2)] (.name 2) (.seq (.var 1)) .nop (.call true "is_whole" F_is_whole (.cons (.var 2) .nil))) [some (.int m), some (.tup [a, b, c]), none] S = some (.ok (.lst [.bl (isW a), .bl (isW b), .bl (isW c)]), S) := by
        simp [ev_comp, ev_seq, compK, srcItems, wipeL, Sto.seq, LIM, ev_var, varK, bnd_ok, E.isNop]
        simp at cm
        rw [cm]
        rfl
      by_cases hw : isW a = true ∧ isW b = true ∧ isW c = true
      · obtain ⟨h1, h2, h3⟩ := hw
        cases a <;> first | (simp [isW] at h1; done) | skip
        cases b <;> first | (simp [isW] at h2; done) | skip
        cases c <;> first | (simp [isW] at h3; done) | skip
        rename_i a b c
        simp [fn_app, ex_nil, ex_skip, ex_seq, ex_expr, ex_asg, ex_par, ex_setI, ex_aug, ex_ret, ex_retN, ex_ite, bndS_ok, bndS_ite, tstS_ok, tstS_ite, thn_nx, thn_rt, thn_er, thn_none, thn_ite, fnK_rt, fnK_nx, fnK_er, fnK_ite, asgK_some, asgTg_name, asgTg_tup, asgTup_cons, asgTup_nil, putK_some, augK_int, augV_int, parK_l, ev_var, ev_gc, ev_int, ev_str, ev_bl, ev_non, ev_bin, ev_neg, ev_not, ev_cmp, ev_chain, ev_inr, ev_and, ev_or, ev_one, ev_ite, ev_nil, ev_cons, ev_tup, ev_lst, ev_dnew, ev_idx, ev_sl, ev_rev, ev_call, ev_bi, ev_isi, ev_meth, bnd_ok, bnd_none, bnd_ite, tstE_ok, tstE_ite, mrg_bl, mrg_int, notK_bl, negK_int, outB_some, outV_some, outK_val, outK_fr, outK_new, outK_ite, chainK_some, lstK_l, partK_int, nop_t, nonop_int, nonop_var, nonop_bin, nonop_neg, inrK_int, mtK_some, callK_t, varK_s, slK_nn, slK_ni, slK_in, slK_ii, b_add, b_sub, b_mul, b_fdiv, b_mod, b_pow, c_eq, c_ne, c_lt, c_le, c_gt, c_ge, TL.bi_len, bi_abs, bi_max2, bi_min2, bi_max1, bi_min1, bi_sum, bi_all, bi_tuple, bi_list, bi_sorted, bi_int, bi_intb, bi_str, len_tup, len_lst, len_scr, rb1, rb2, List.map_cons, List.map_nil, List.length_cons, List.length_nil, List.replicate, List.cons_append, List.nil_append, List.getElem?_cons_succ, List.getElem?_cons_zero, List.set_cons_succ, List.set_cons_zero, if_true, if_false, Bool.false_eq_true, Bool.not_true, Bool.not_false, isiF, Sto.ty, isTy, lenF, Sto.seq, hcomp, isW, allF, Sto.lseq, T.bools, LIM, idxF, L2.atI, L2.ixN, absF, arrowB]
        have e : decide ((if c < 0 then -c else c) ≤ 1000000000000000000000000000000) = (decide (-1000000000000000000000000000000 ≤ c) && decide (c ≤ 1000000000000000000000000000000)) := by
          rw [Bool.eq_iff_iff]
          simp only [Bool.and_eq_true, decide_eq_true_eq]
          split <;> omega
        rw [e]
      · rw [key a b c (by cases h1 : isW a <;> cases h2 : isW b <;> cases h3 : isW c <;> simp_all)]
        have hn : (isW a && (isW b && isW c)) = false := by cases h1 : isW a <;> cases h2 : isW b <;> cases h3 : isW c <;> simp_all
        simp [fn_app, ex_nil, ex_skip, ex_seq, ex_expr, ex_asg, ex_par, ex_setI, ex_aug, ex_ret, ex_retN, ex_ite, bndS_ok, bndS_ite, tstS_ok, tstS_ite, thn_nx, thn_rt, thn_er, thn_none, thn_ite, fnK_rt, fnK_nx, fnK_er, fnK_ite, asgK_some, asgTg_name, asgTg_tup, asgTup_cons, asgTup_nil, putK_some, augK_int, augV_int, parK_l, ev_var, ev_gc, ev_int, ev_str, ev_bl, ev_non, ev_bin, ev_neg, ev_not, ev_cmp, ev_chain, ev_inr, ev_and, ev_or, ev_one, ev_ite, ev_nil, ev_cons, ev_tup, ev_lst, ev_dnew, ev_idx, ev_sl, ev_rev, ev_call, ev_bi, ev_isi, ev_meth, bnd_ok, bnd_none, bnd_ite, tstE_ok, tstE_ite, mrg_bl, mrg_int, notK_bl, negK_int, outB_some, outV_some, outK_val, outK_fr, outK_new, outK_ite, chainK_some, lstK_l, partK_int, nop_t, nonop_int, nonop_var, nonop_bin, nonop_neg, inrK_int, mtK_some, callK_t, varK_s, slK_nn, slK_ni, slK_in, slK_ii, b_add, b_sub, b_mul, b_fdiv, b_mod, b_pow, c_eq, c_ne, c_lt, c_le, c_gt, c_ge, TL.bi_len, bi_abs, bi_max2, bi_min2, bi_max1, bi_min1, bi_sum, bi_all, bi_tuple, bi_list, bi_sorted, bi_int, bi_intb, bi_str, len_tup, len_lst, len_scr, rb1, rb2, List.map_cons, List.map_nil, List.length_cons, List.length_nil, List.replicate, List.cons_append, List.nil_append, List.getElem?_cons_succ, List.getElem?_cons_zero, List.set_cons_succ, List.set_cons_zero, if_true, if_false, Bool.false_eq_true, Bool.not_true, Bool.not_false, isiF, Sto.ty, isTy, lenF, Sto.seq, hcomp, allF, Sto.lseq, T.bools, LIM, hn]
    | a :: b :: c :: d :: r, h =>
      have e : ¬ ((r.length : Int) + 1 + 1 + 1 + 1 = 3) := by omega
      simp [fn_app, ex_nil, ex_skip, ex_seq, ex_expr, ex_asg, ex_par, ex_setI, ex_aug, ex_ret, ex_retN, ex_ite, bndS_ok, bndS_ite, tstS_ok, tstS_ite, thn_nx, thn_rt, thn_er, thn_none, thn_ite, fnK_rt, fnK_nx, fnK_er, fnK_ite, asgK_some, asgTg_name, asgTg_tup, asgTup_cons, asgTup_nil, putK_some, augK_int, augV_int, parK_l, ev_var, ev_gc, ev_int, ev_str, ev_bl, ev_non, ev_bin, ev_neg, ev_not, ev_cmp, ev_chain, ev_inr, ev_and, ev_or, ev_one, ev_ite, ev_nil, ev_cons, ev_tup, ev_lst, ev_dnew, ev_idx, ev_sl, ev_rev, ev_call, ev_bi, ev_isi, ev_meth, bnd_ok, bnd_none, bnd_ite, tstE_ok, tstE_ite, mrg_bl, mrg_int, notK_bl, negK_int, outB_some, outV_some, outK_val, outK_fr, outK_new, outK_ite, chainK_some, lstK_l, partK_int, nop_t, nonop_int, nonop_var, nonop_bin, nonop_neg, inrK_int, mtK_some, callK_t, varK_s, slK_nn, slK_ni, slK_in, slK_ii, b_add, b_sub, b_mul, b_fdiv, b_mod, b_pow, c_eq, c_ne, c_lt, c_le, c_gt, c_ge, TL.bi_len, bi_abs, bi_max2, bi_min2, bi_max1, bi_min1, bi_sum, bi_all, bi_tuple, bi_list, bi_sorted, bi_int, bi_intb, bi_str, len_tup, len_lst, len_scr, rb1, rb2, List.map_cons, List.map_nil, List.length_cons, List.length_nil, List.replicate, List.cons_append, List.nil_append, List.getElem?_cons_succ, List.getElem?_cons_zero, List.set_cons_succ, List.set_cons_zero, if_true, if_false, Bool.false_eq_true, Bool.not_true, Bool.not_false, isiF, Sto.ty, isTy, lenF, Sto.seq, arrowB, e]
  | ref _ => simp [pl] at h
  | scr _ => simp [pl] at h
  | fn _ => simp [pl] at h
  | _ => simp [fn_app, ex_nil, ex_skip, ex_seq, ex_expr, ex_asg, ex_par, ex_setI, ex_aug, ex_ret, ex_retN, ex_ite, bndS_ok, bndS_ite, tstS_ok, tstS_ite, thn_nx, thn_rt, thn_er, thn_none, thn_ite, fnK_rt, fnK_nx, fnK_er, fnK_ite, asgK_some, asgTg_name, asgTg_tup, asgTup_cons, asgTup_nil, putK_some, augK_int, augV_int, parK_l, ev_var, ev_gc, ev_int, ev_str, ev_bl, ev_non, ev_bin, ev_neg, ev_not, ev_cmp, ev_chain, ev_inr, ev_and, ev_or, ev_one, ev_ite, ev_nil, ev_cons, ev_tup, ev_lst, ev_dnew, ev_idx, ev_sl, ev_rev, ev_call, ev_bi, ev_isi, ev_meth, bnd_ok, bnd_none, bnd_ite, tstE_ok, tstE_ite, mrg_bl, mrg_int, notK_bl, negK_int, outB_some, outV_some, outK_val, outK_fr, outK_new, outK_ite, chainK_some, lstK_l, partK_int, nop_t, nonop_int, nonop_var, nonop_bin, nonop_neg, inrK_int, mtK_some, callK_t, varK_s, slK_nn, slK_ni, slK_in, slK_ii, b_add, b_sub, b_mul, b_fdiv, b_mod, b_pow, c_eq, c_ne, c_lt, c_le, c_gt, c_ge, TL.bi_len, bi_abs, bi_max2, bi_min2, bi_max1, bi_min1, bi_sum, bi_all, bi_tuple, bi_list, bi_sorted, bi_int, bi_intb, bi_str, len_tup, len_lst, len_scr, rb1, rb2, List.map_cons, List.map_nil, List.length_cons, List.length_nil, List.replicate, List.cons_append, List.nil_append, List.getElem?_cons_succ, List.getElem?_cons_zero, List.set_cons_succ, List.set_cons_zero, if_true, if_false, Bool.false_eq_true, Bool.not_true, Bool.not_false, isiF, Sto.ty, isTy, arrowB]
theorem sl2 (a b c : Int) (S : Sto) : slF (.tup [.int a, .int b, .int c]) none (some 2) S = some (.val (.tup [.int a, .int b])) := by
  have e1 : HT.sIx 3 0 none = 0 := HT.sIx_none ..
  have e2 : HT.sIx 3 3 (some 2) = 2 := by have := HT.sIx_nat 3 3 2; simpa using this
  simp [slF, cutT, e1, e2]
theorem log2_lt {n k : Nat} (h : n < 2 ^ k) (hk : 0 < k) : n.log2 < k := by
  by_cases h0 : n = 0
  · subst h0; simpa using hk
  · exact (Nat.log2_lt h0).mpr h
def nextV (s : Int) : Int := (((s + 7919) % 2147483647) * ((s + 7919) % 2147483647) + 48271 * ((s + 7919) % 2147483647) + 12345) % 2147483629
theorem next_eq (s : Int) (S : Sto) : F__law_next [.int s] S = some (.ok (.int (nextV s)), S) := by
  unfold F__law_next B__law_next
  have h0 : 0 ≤ (s + 7919) % 2147483647 := Int.emod_nonneg _ (by decide)
  have h1 : (s + 7919) % 2147483647 < 2147483647 := Int.emod_lt_of_pos _ (by decide)
  have hb : ((s + 7919) % 2147483647).natAbs.log2 < 32 := log2_lt (by omega) (by decide)
  have g1 : ((s + 7919) % 2147483647).natAbs.log2 + ((s + 7919) % 2147483647).natAbs.log2 < 1000000 := by omega
  have hc : (48271 : Int).natAbs.log2 < 32 := log2_lt (by decide) (by decide)
  have g2 : (48271 : Int).natAbs.log2 + ((s + 7919) % 2147483647).natAbs.log2 < 1000000 := by omega
  have p1 : (0 : Int) < 2147483647 := by decide
  have p2 : (0 : Int) < 2147483629 := by decide
  simp only [fn_app, ex_nil, ex_skip, ex_seq, ex_expr, ex_asg, ex_par, ex_setI, ex_aug, ex_ret, ex_retN, ex_ite, bndS_ok, bndS_ite, tstS_ok, tstS_ite, thn_nx, thn_rt, thn_er, thn_none, thn_ite, fnK_rt, fnK_nx, fnK_er, fnK_ite, asgK_some, asgTg_name, asgTg_tup, asgTup_cons, asgTup_nil, putK_some, augK_int, augV_int, parK_l, ev_var, ev_gc, ev_int, ev_str, ev_bl, ev_non, ev_bin, ev_neg, ev_not, ev_cmp, ev_chain, ev_inr, ev_and, ev_or, ev_one, ev_ite, ev_nil, ev_cons, ev_tup, ev_lst, ev_dnew, ev_idx, ev_sl, ev_rev, ev_call, ev_bi, ev_isi, ev_meth, bnd_ok, bnd_none, bnd_ite, tstE_ok, tstE_ite, mrg_bl, mrg_int, notK_bl, negK_int, outB_some, outV_some, outK_val, outK_fr, outK_new, outK_ite, chainK_some, lstK_l, partK_int, nop_t, nonop_int, nonop_var, nonop_bin, nonop_neg, inrK_int, mtK_some, callK_t, varK_s, slK_nn, slK_ni, slK_in, slK_ii, b_add, b_sub, b_mul, b_fdiv, b_mod, b_pow, c_eq, c_ne, c_lt, c_le, c_gt, c_ge, TL.bi_len, bi_abs, bi_max2, bi_min2, bi_max1, bi_min1, bi_sum, bi_all, bi_tuple, bi_list, bi_sorted, bi_int, bi_intb, bi_str, len_tup, len_lst, len_scr, rb1, rb2, List.map_cons, List.map_nil, List.length_cons, List.length_nil, List.replicate, List.cons_append, List.nil_append, List.getElem?_cons_succ, List.getElem?_cons_zero, List.set_cons_succ, List.set_cons_zero, if_true, if_false, Bool.false_eq_true, Bool.not_true, Bool.not_false, p1, g1, g2, p2, nextV, Nat.sub_self, Nat.add_sub_cancel, List.append_nil]
def pen (a b c : Int) : Ob := .lst [.int a, .int b, .int c]
theorem idx_ref {S : Sto} {i : Nat} {xs : List T} {k : Int} {t : T} (h : S[i]? = some (.lst xs)) (e : L2.atI xs k = some t) : idxF (.ref i) (.int k) S = some t := by
  simp only [idxF, Sto.seq, h, e]
theorem put_ref {S : Sto} {i : Nat} {xs : List T} {k : Int} {j : Nat} {v : T} (h : S[i]? = some (.lst xs)) (e : L2.ixN xs.length k = some j) : putI v (.ref i) (.int k) S = some (S.set i (.lst (xs.set j v))) := by
  simp only [putI, h, e]
theorem draw_ex {S : Sto} {i : Nat} {a b c m : Int} (h : S[i]? = some (pen a b c)) (hm : 0 < m) (hl : m.natAbs.log2 < 9000) : ∃ a' c' d, F__law_draw [.ref i, .int m] S = some (.ok (.int d), S.set i (pen a' b c')) ∧ 0 ≤ d ∧ d < m := by
  unfold F__law_draw B__law_draw
  have i0 : idxF (.ref i) (.int 0) S = some (.int a) := idx_ref h rfl
  have i1 : idxF (.ref i) (.int 1) S = some (.int b) := idx_ref h rfl
  have i2 : idxF (.ref i) (.int 2) S = some (.int c) := idx_ref h rfl
  have hi : i < S.length := (List.getElem?_eq_some_iff.mp h).1
  by_cases hb : b = 1
  · subst hb
    refine ⟨a / m, c, a % m, ?_, Int.emod_nonneg _ (by omega), Int.emod_lt_of_pos _ hm⟩
    have p0 : putI (.int (a / m)) (.ref i) (.int 0) S = some (S.set i (pen (a / m) 1 c)) := put_ref (j := 0) h rfl
    simp [fn_app, ex_nil, ex_skip, ex_seq, ex_expr, ex_asg, ex_par, ex_setI, ex_aug, ex_ret, ex_retN, ex_ite, bndS_ok, bndS_ite, tstS_ok, tstS_ite, thn_nx, thn_rt, thn_er, thn_none, thn_ite, fnK_rt, fnK_nx, fnK_er, fnK_ite, asgK_some, asgTg_name, asgTg_tup, asgTup_cons, asgTup_nil, putK_some, augK_int, augV_int, parK_l, ev_var, ev_gc, ev_int, ev_str, ev_bl, ev_non, ev_bin, ev_neg, ev_not, ev_cmp, ev_chain, ev_inr, ev_and, ev_or, ev_one, ev_ite, ev_nil, ev_cons, ev_tup, ev_lst, ev_dnew, ev_idx, ev_sl, ev_rev, ev_call, ev_bi, ev_isi, ev_meth, bnd_ok, bnd_none, bnd_ite, tstE_ok, tstE_ite, mrg_bl, mrg_int, notK_bl, negK_int, outB_some, outV_some, outK_val, outK_fr, outK_new, outK_ite, chainK_some, lstK_l, partK_int, nop_t, nonop_int, nonop_var, nonop_bin, nonop_neg, inrK_int, mtK_some, callK_t, varK_s, slK_nn, slK_ni, slK_in, slK_ii, b_add, b_sub, b_mul, b_fdiv, b_mod, b_pow, c_eq, c_ne, c_lt, c_le, c_gt, c_ge, TL.bi_len, bi_abs, bi_max2, bi_min2, bi_max1, bi_min1, bi_sum, bi_all, bi_tuple, bi_list, bi_sorted, bi_int, bi_intb, bi_str, len_tup, len_lst, len_scr, rb1, rb2, List.map_cons, List.map_nil, List.length_cons, List.length_nil, List.replicate, List.cons_append, List.nil_append, List.getElem?_cons_succ, List.getElem?_cons_zero, List.set_cons_succ, List.set_cons_zero, if_true, if_false, Bool.false_eq_true, Bool.not_true, Bool.not_false, i0, i1, i2, hm, hl, p0]
  · refine ⟨a, nextV (nextV c + 7), nextV (nextV c + 7) / 64 % m, ?_, Int.emod_nonneg _ (by omega), Int.emod_lt_of_pos _ hm⟩
    have p2 : putI (.int (nextV (nextV c + 7))) (.ref i) (.int 2) S = some (S.set i (pen a b (nextV (nextV c + 7)))) := put_ref (j := 2) h rfl
    have h' : (S.set i (pen a b (nextV (nextV c + 7))))[i]? = some (pen a b (nextV (nextV c + 7))) := List.getElem?_set_self hi
    have j2 : idxF (.ref i) (.int 2) (S.set i (pen a b (nextV (nextV c + 7)))) = some (.int (nextV (nextV c + 7))) := idx_ref h' rfl
    have g64 : (64 : Nat).log2 < 9000 := by have := log2_lt (n := 64) (k := 7) (by decide) (by decide); omega
    simp [fn_app, ex_nil, ex_skip, ex_seq, ex_expr, ex_asg, ex_par, ex_setI, ex_aug, ex_ret, ex_retN, ex_ite, bndS_ok, bndS_ite, tstS_ok, tstS_ite, thn_nx, thn_rt, thn_er, thn_none, thn_ite, fnK_rt, fnK_nx, fnK_er, fnK_ite, asgK_some, asgTg_name, asgTg_tup, asgTup_cons, asgTup_nil, putK_some, augK_int, augV_int, parK_l, ev_var, ev_gc, ev_int, ev_str, ev_bl, ev_non, ev_bin, ev_neg, ev_not, ev_cmp, ev_chain, ev_inr, ev_and, ev_or, ev_one, ev_ite, ev_nil, ev_cons, ev_tup, ev_lst, ev_dnew, ev_idx, ev_sl, ev_rev, ev_call, ev_bi, ev_isi, ev_meth, bnd_ok, bnd_none, bnd_ite, tstE_ok, tstE_ite, mrg_bl, mrg_int, notK_bl, negK_int, outB_some, outV_some, outK_val, outK_fr, outK_new, outK_ite, chainK_some, lstK_l, partK_int, nop_t, nonop_int, nonop_var, nonop_bin, nonop_neg, inrK_int, mtK_some, callK_t, varK_s, slK_nn, slK_ni, slK_in, slK_ii, b_add, b_sub, b_mul, b_fdiv, b_mod, b_pow, c_eq, c_ne, c_lt, c_le, c_gt, c_ge, TL.bi_len, bi_abs, bi_max2, bi_min2, bi_max1, bi_min1, bi_sum, bi_all, bi_tuple, bi_list, bi_sorted, bi_int, bi_intb, bi_str, len_tup, len_lst, len_scr, rb1, rb2, List.map_cons, List.map_nil, List.length_cons, List.length_nil, List.replicate, List.cons_append, List.nil_append, List.getElem?_cons_succ, List.getElem?_cons_zero, List.set_cons_succ, List.set_cons_zero, if_true, if_false, Bool.false_eq_true, Bool.not_true, Bool.not_false, i0, i1, i2, hm, hb, p2, j2, next_eq, g64]
theorem pen_of_ex (x : Int) (S : Sto) : ∃ a b c, F__law_pen_of [.int x] S = some (.ok (.ref S.length), S ++ [pen a b c]) := by
  unfold F__law_pen_of B__law_pen_of
  refine ⟨if 0 - x > x then 0 - x else x, if 10 ^ 18 ≤ (if 0 - x > x then 0 - x else x) then 1 else 0, (if 0 - x > x then 0 - x else x) % 1000003, ?_⟩
  simp [fn_app, ex_nil, ex_skip, ex_seq, ex_expr, ex_asg, ex_par, ex_setI, ex_aug, ex_ret, ex_retN, ex_ite, bndS_ok, bndS_ite, tstS_ok, tstS_ite, thn_nx, thn_rt, thn_er, thn_none, thn_ite, fnK_rt, fnK_nx, fnK_er, fnK_ite, asgK_some, asgTg_name, asgTg_tup, asgTup_cons, asgTup_nil, putK_some, augK_int, augV_int, parK_l, ev_var, ev_gc, ev_int, ev_str, ev_bl, ev_non, ev_bin, ev_neg, ev_not, ev_cmp, ev_chain, ev_inr, ev_and, ev_or, ev_one, ev_ite, ev_nil, ev_cons, ev_tup, ev_lst, ev_dnew, ev_idx, ev_sl, ev_rev, ev_call, ev_bi, ev_isi, ev_meth, bnd_ok, bnd_none, bnd_ite, tstE_ok, tstE_ite, mrg_bl, mrg_int, notK_bl, negK_int, outB_some, outV_some, outK_val, outK_fr, outK_new, outK_ite, chainK_some, lstK_l, partK_int, nop_t, nonop_int, nonop_var, nonop_bin, nonop_neg, inrK_int, mtK_some, callK_t, varK_s, slK_nn, slK_ni, slK_in, slK_ii, b_add, b_sub, b_mul, b_fdiv, b_mod, b_pow, c_eq, c_ne, c_lt, c_le, c_gt, c_ge, TL.bi_len, bi_abs, bi_max2, bi_min2, bi_max1, bi_min1, bi_sum, bi_all, bi_tuple, bi_list, bi_sorted, bi_int, bi_intb, bi_str, len_tup, len_lst, len_scr, rb1, rb2, List.map_cons, List.map_nil, List.length_cons, List.length_nil, List.replicate, List.cons_append, List.nil_append, List.getElem?_cons_succ, List.getElem?_cons_zero, List.set_cons_succ, List.set_cons_zero, if_true, if_false, Bool.false_eq_true, Bool.not_true, Bool.not_false, LIM, pen]
theorem cell_at_eq (ns : List Int) (k : Int) (hk : 0 ≤ k) (S : Sto) : F__law_cell_at [.scr ns, .int k] S = some (.ok (.int (ns.getD k.toNat 0)), S) := by
  unfold F__law_cell_at B__law_cell_at
  by_cases h : k < ns.length
  · have hi : idxF (.scr ns) (.int k) S = some (.int (ns.getD k.toNat 0)) := by
      have h2 : k.toNat < ns.length := by omega
      simp only [idxF, Sto.seq, L2.atI, L2.ixN, List.length_map]
      rw [if_pos hk, if_pos h]
      simp [h2]
    simp [fn_app, ex_nil, ex_skip, ex_seq, ex_expr, ex_asg, ex_par, ex_setI, ex_aug, ex_ret, ex_retN, ex_ite, bndS_ok, bndS_ite, tstS_ok, tstS_ite, thn_nx, thn_rt, thn_er, thn_none, thn_ite, fnK_rt, fnK_nx, fnK_er, fnK_ite, asgK_some, asgTg_name, asgTg_tup, asgTup_cons, asgTup_nil, putK_some, augK_int, augV_int, parK_l, ev_var, ev_gc, ev_int, ev_str, ev_bl, ev_non, ev_bin, ev_neg, ev_not, ev_cmp, ev_chain, ev_inr, ev_and, ev_or, ev_one, ev_ite, ev_nil, ev_cons, ev_tup, ev_lst, ev_dnew, ev_idx, ev_sl, ev_rev, ev_call, ev_bi, ev_isi, ev_meth, bnd_ok, bnd_none, bnd_ite, tstE_ok, tstE_ite, mrg_bl, mrg_int, notK_bl, negK_int, outB_some, outV_some, outK_val, outK_fr, outK_new, outK_ite, chainK_some, lstK_l, partK_int, nop_t, nonop_int, nonop_var, nonop_bin, nonop_neg, inrK_int, mtK_some, callK_t, varK_s, slK_nn, slK_ni, slK_in, slK_ii, b_add, b_sub, b_mul, b_fdiv, b_mod, b_pow, c_eq, c_ne, c_lt, c_le, c_gt, c_ge, TL.bi_len, bi_abs, bi_max2, bi_min2, bi_max1, bi_min1, bi_sum, bi_all, bi_tuple, bi_list, bi_sorted, bi_int, bi_intb, bi_str, len_tup, len_lst, len_scr, rb1, rb2, List.map_cons, List.map_nil, List.length_cons, List.length_nil, List.replicate, List.cons_append, List.nil_append, List.getElem?_cons_succ, List.getElem?_cons_zero, List.set_cons_succ, List.set_cons_zero, if_true, if_false, Bool.false_eq_true, Bool.not_true, Bool.not_false, h, hi]
  · have h2 : ns.length ≤ k.toNat := by omega
    simp [fn_app, ex_nil, ex_skip, ex_seq, ex_expr, ex_asg, ex_par, ex_setI, ex_aug, ex_ret, ex_retN, ex_ite, bndS_ok, bndS_ite, tstS_ok, tstS_ite, thn_nx, thn_rt, thn_er, thn_none, thn_ite, fnK_rt, fnK_nx, fnK_er, fnK_ite, asgK_some, asgTg_name, asgTg_tup, asgTup_cons, asgTup_nil, putK_some, augK_int, augV_int, parK_l, ev_var, ev_gc, ev_int, ev_str, ev_bl, ev_non, ev_bin, ev_neg, ev_not, ev_cmp, ev_chain, ev_inr, ev_and, ev_or, ev_one, ev_ite, ev_nil, ev_cons, ev_tup, ev_lst, ev_dnew, ev_idx, ev_sl, ev_rev, ev_call, ev_bi, ev_isi, ev_meth, bnd_ok, bnd_none, bnd_ite, tstE_ok, tstE_ite, mrg_bl, mrg_int, notK_bl, negK_int, outB_some, outV_some, outK_val, outK_fr, outK_new, outK_ite, chainK_some, lstK_l, partK_int, nop_t, nonop_int, nonop_var, nonop_bin, nonop_neg, inrK_int, mtK_some, callK_t, varK_s, slK_nn, slK_ni, slK_in, slK_ii, b_add, b_sub, b_mul, b_fdiv, b_mod, b_pow, c_eq, c_ne, c_lt, c_le, c_gt, c_ge, TL.bi_len, bi_abs, bi_max2, bi_min2, bi_max1, bi_min1, bi_sum, bi_all, bi_tuple, bi_list, bi_sorted, bi_int, bi_intb, bi_str, len_tup, len_lst, len_scr, rb1, rb2, List.map_cons, List.map_nil, List.length_cons, List.length_nil, List.replicate, List.cons_append, List.nil_append, List.getElem?_cons_succ, List.getElem?_cons_zero, List.set_cons_succ, List.set_cons_zero, if_true, if_false, Bool.false_eq_true, Bool.not_true, Bool.not_false, h, h2]
def S2 (S : Sto) (i : Nat) (p o : Ob) : Sto := S.set i p ++ [o]
theorem cut_len (xs : List T) (a b : Option Int) : (cutT xs a b).length ≤ xs.length := by
  unfold cutT
  rw [List.length_take, List.length_drop]
  omega
theorem idx_in {xs : List T} {d : Int} (h0 : 0 ≤ d) (h1 : d < xs.length) (S : Sto) : ∃ t ∈ xs, idxF (.lst xs) (.int d) S = some t := by
  have hd : d.toNat < xs.length := by omega
  refine ⟨xs[d.toNat], List.getElem_mem hd, ?_⟩
  simp only [idxF, Sto.seq, L2.atI, L2.ixN]
  rw [if_pos h0, if_pos h1]
  simp [hd]
end H
namespace TL
open PySem PySem.Spec L2
def PoM (Q : T → Sto → Prop) (X : Exn → Sto → Prop) : RE → Prop
  | some (.ok t, S) => Q t S
  | some (.err x, S) => X x S
  | none => False
structure Po (Q : T → Sto → Prop) (X : Exn → Sto → Prop) (o : RE) : Prop where
  g : PoM Q X o
def WE (e : E) (l : Lo) (S : Sto) (Q : T → Sto → Prop) (X : Exn → Sto → Prop) : Prop := Po Q X (ev e l S)
def WA (e : E) (l : Lo) (S : Sto) (Q : List T → Sto → Prop) (X : Exn → Sto → Prop) : Prop := Po (fun t S => ∃ ts, t = .lst ts ∧ Q ts S) X (ev e l S)
def WR (nw : Bool) (o : Option Raw) (S : Sto) (Q : T → Sto → Prop) : Prop := match o with
  | some (.val t) => nw = false ∧ Q t S
  | some (.fresh ts) => if nw = true then Q (.ref S.length) (S ++ [.lst ts]) else Q (.lst ts) S
  | none => False
structure Wc (keep : Bool) (F : FnS) (ts : List T) (S : Sto) (Q : T → Sto → Prop) (X : Exn → Sto → Prop) : Prop where
  po : Po Q X (callK keep S (F ts S))
def PoSM (Q : Lo → Sto → Prop) (R : T → Sto → Prop) (X : Exn → Lo → Sto → Prop) : RS → Prop
  | some (.nx l, S) => Q l S
  | some (.rt t, S) => R t S
  | some (.er x l, S) => X x l S
  | none => False
structure PoS (Q : Lo → Sto → Prop) (R : T → Sto → Prop) (X : Exn → Lo → Sto → Prop) (o : RS) : Prop where
  g : PoSM Q R X o
def WS (s : Sm) (l : Lo) (S : Sto) (Q : Lo → Sto → Prop) (R : T → Sto → Prop) (X : Exn → Lo → Sto → Prop) : Prop := PoS Q R X (ex s l S)
section
variable {l : Lo} {S : Sto} {Q Q' : T → Sto → Prop} {X X' : Exn → Sto → Prop}
theorem Po.mono (hq : ∀ t S, Q t S → Q' t S) (hx : ∀ x S, X x S → X' x S) : ∀ {o : RE}, Po Q X o → Po Q' X' o
  | some (.ok t, S), h => ⟨hq t S h.g⟩
  | some (.err x, S), h => ⟨hx x S h.g⟩
  | none, h => ⟨h.g⟩
theorem po_bnd {o : RE} {k : T → Sto → RE} (h : Po (fun t S => Po Q X (k t S)) X o) : Po Q X (bnd o k) := by
  cases o with
  | none => (first | exact h | exact ⟨h⟩ | exact (h).g | exact ⟨(h).g⟩)
  | some r => obtain ⟨r, S⟩ := r; cases r <;> (first | exact h | exact ⟨h⟩ | exact (h).g | exact ⟨(h).g⟩)
theorem wr_out {nw : Bool} {o : Option Raw} (h : WR nw o S Q) : Po Q X (outK nw o S) := by
  unfold WR at h
  unfold outK
  cases o with
  | none => (first | exact h | exact ⟨h⟩ | exact (h).g | exact ⟨(h).g⟩)
  | some r =>
    cases r with
    | val t => obtain ⟨rfl, h⟩ := h; (first | exact h | exact ⟨h⟩ | exact (h).g | exact ⟨(h).g⟩)
    | fresh ts => cases nw <;> (first | exact h | exact ⟨h⟩ | exact (h).g | exact ⟨(h).g⟩)
theorem we_var {i : Nat} {t : T} (h : l[i]? = some (some t)) (q : Q t S) : WE (.var i) l S Q X := by unfold WE; rw [ev_var, h]; (first | exact q | exact ⟨q⟩ | exact (q).g | exact ⟨(q).g⟩)
theorem we_gc {x : Str} {t : T} (q : Q t S) : WE (.gc x t) l S Q X := ⟨q⟩
theorem we_int {i : Int} (q : Q (.int i) S) : WE (.int i) l S Q X := ⟨q⟩
theorem we_str {i : Str} (q : Q (.str i) S) : WE (.str i) l S Q X := ⟨q⟩
theorem we_bl {i : Bool} (q : Q (.bl i) S) : WE (.bl i) l S Q X := ⟨q⟩
theorem we_non (q : Q .non S) : WE .non l S Q X := ⟨q⟩
theorem we_bin {nw : Bool} {op : Operator} {a b : E} (h : WE a l S (fun x S1 => WE b l S1 (fun y S2 => WR nw (binF op x y S2) S2 Q) X) X) : WE (.bin nw op a b) l S Q X := by
  unfold WE; rw [ev_bin]
  exact po_bnd (h.mono (fun x S1 h => po_bnd (h.mono (fun y S2 h => wr_out h) fun _ _ h => h)) fun _ _ h => h)
theorem we_neg {a : E} (h : WE a l S (fun x S1 => ∃ i, x = .int i ∧ Q (.int (-i)) S1) X) : WE (.neg a) l S Q X := by
  unfold WE; rw [ev_neg]
  exact po_bnd (h.mono (fun x S1 h => by obtain ⟨i, rfl, h⟩ := h; exact ⟨h⟩) fun _ _ h => h)
theorem we_not {a : E} (h : WE a l S (fun x S1 => ∃ i, T.bl i = x ∧ Q (.bl (!i)) S1) X) : WE (.not a) l S Q X := by
  unfold WE; rw [ev_not]
  exact po_bnd (h.mono (fun x S1 h => by obtain ⟨i, rfl, h⟩ := h; exact ⟨h⟩) fun _ _ h => h)
theorem po_outB {o : Option Bool} (h : ∃ b, o = some b ∧ Q (.bl b) S) : Po Q X (outB o S) := by obtain ⟨b, rfl, h⟩ := h; (first | exact h | exact ⟨h⟩ | exact (h).g | exact ⟨(h).g⟩)
theorem we_cmp {op : CmpOp} {a b : E} (h : WE a l S (fun x S1 => WE b l S1 (fun y S2 => ∃ c, cmpB op x y S2 = some c ∧ Q (.bl c) S2) X) X) : WE (.cmp op a b) l S Q X := by
  unfold WE; rw [ev_cmp]
  exact po_bnd (h.mono (fun x S1 h => po_bnd (h.mono (fun y S2 h => po_outB h) fun _ _ h => h)) fun _ _ h => h)
theorem we_chain {p q : CmpOp} {a b c : E} (h : WE a l S (fun x S1 => WE b l S1 (fun y S2 => ∃ d, cmpB p x y S2 = some d ∧ (d = true → WE c l S2 (fun z S3 => ∃ e, cmpB q y z S3 = some e ∧ Q (.bl e) S3) X) ∧ (d = false → Q (.bl false) S2)) X) X) : WE (.chain p q a b c) l S Q X := by
  unfold WE; rw [ev_chain]
  refine po_bnd (h.mono (fun x S1 h => po_bnd (h.mono (fun y S2 h => ?_) fun _ _ h => h)) fun _ _ h => h)
  obtain ⟨d, e, h1, h2⟩ := h
  rw [e]
  cases d with
  | true => exact po_bnd ((h1 rfl).mono (fun z S3 h => po_outB h) fun _ _ h => h)
  | false => (first | exact h2 rfl | exact ⟨h2 rfl⟩ | exact (h2 rfl).g | exact ⟨(h2 rfl).g⟩)
theorem we_inr {ng : Bool} {a args : E} (h : WE a l S (fun x S1 => WA args l S1 (fun ts S2 => ∃ i lo hi, x = .int i ∧ rngBounds ts = some (lo, hi) ∧ (-(2 ^ 62) ≤ lo ∧ lo < 2 ^ 62 ∧ -(2 ^ 62) ≤ hi ∧ hi < 2 ^ 62) ∧ Q (.bl (if ng then !decide (lo ≤ i ∧ i < hi) else decide (lo ≤ i ∧ i < hi))) S2) X) X) : WE (.inr ng a args) l S Q X := by
  unfold WE; rw [ev_inr]
  refine po_bnd (h.mono (fun x S1 h => po_bnd (h.mono (fun y S2 h => ?_) fun _ _ h => h)) fun _ _ h => h)
  obtain ⟨ts, rfl, i, lo, hi, rfl, e, b, q⟩ := h
  rw [lstK_l, e]
  unfold inrK
  dsimp only
  rw [if_pos b]
  (first | exact q | exact ⟨q⟩ | exact (q).g | exact ⟨(q).g⟩)
theorem po_tst {o : RE} {f g : Sto → RE} (h : Po (fun t S => ∃ c, t = .bl c ∧ (c = true → Po Q X (f S)) ∧ (c = false → Po Q X (g S))) X o) : Po Q X (tstE o f g) := by
  cases o with
  | none => (first | exact h | exact ⟨h⟩ | exact (h).g | exact ⟨(h).g⟩)
  | some r =>
    obtain ⟨r, S⟩ := r
    cases r with
    | err x => (first | exact h | exact ⟨h⟩ | exact (h).g | exact ⟨(h).g⟩)
    | ok t =>
      obtain ⟨c, rfl, h1, h2⟩ := h
      cases c with
      | true => (first | exact h1 rfl | exact ⟨h1 rfl⟩ | exact (h1 rfl).g | exact ⟨(h1 rfl).g⟩)
      | false => (first | exact h2 rfl | exact ⟨h2 rfl⟩ | exact (h2 rfl).g | exact ⟨(h2 rfl).g⟩)
theorem we_and {a b : E} (h : WE a l S (fun t S1 => ∃ c, t = .bl c ∧ (c = true → WE b l S1 Q X) ∧ (c = false → Q (.bl false) S1)) X) : WE (.and a b) l S Q X := by
  unfold WE; rw [ev_and]; exact po_tst (h.mono (fun t S z => by obtain ⟨c, e, z1, z2⟩ := z; exact ⟨c, e, z1, fun y => ⟨z2 y⟩⟩) fun _ _ h => h)
theorem we_or {a b : E} (h : WE a l S (fun t S1 => ∃ c, t = .bl c ∧ (c = true → Q (.bl true) S1) ∧ (c = false → WE b l S1 Q X)) X) : WE (.or a b) l S Q X := by
  unfold WE; rw [ev_or]; exact po_tst (h.mono (fun t S z => by obtain ⟨c, e, z1, z2⟩ := z; exact ⟨c, e, fun y => ⟨z1 y⟩, z2⟩) fun _ _ h => h)
theorem we_one {a : E} (h : WE a l S Q X) : WE (.one a) l S Q X := by unfold WE; rw [ev_one]; (first | exact h | exact ⟨h⟩ | exact (h).g | exact ⟨(h).g⟩)
theorem we_ite {c a b : E} (h : WE c l S (fun t S1 => ∃ c, t = .bl c ∧ (c = true → WE a l S1 Q X) ∧ (c = false → WE b l S1 Q X)) X) : WE (.ite c a b) l S Q X := by
  unfold WE; rw [ev_ite]; exact po_tst h
theorem wa_nil {Q : List T → Sto → Prop} (h : Q [] S) : WA .nil l S Q X := ⟨[], rfl, h⟩
theorem wa_cons {a r : E} {Q : List T → Sto → Prop} (h : WE a l S (fun t S1 => WA r l S1 (fun ts S2 => Q (t :: ts) S2) X) X) : WA (.cons a r) l S Q X := by
  unfold WA; rw [ev_cons]
  refine po_bnd (h.mono (fun x S1 h => po_bnd (h.mono (fun y S2 h => ?_) fun _ _ h => h)) fun _ _ h => h)
  obtain ⟨ts, rfl, q⟩ := h
  rw [lstK_l]
  exact ⟨_, rfl, q⟩
theorem po_lst {o : RE} {k : List T → Sto → RE} (h : Po (fun t S => ∃ ts, t = .lst ts ∧ Po Q X (k ts S)) X o) : Po Q X (bnd o fun t S1 => lstK t fun ts => k ts S1) := by
  refine po_bnd (h.mono (fun x S1 h => ?_) fun _ _ h => h)
  obtain ⟨ts, rfl, q⟩ := h
  rw [lstK_l]
  (first | exact q | exact ⟨q⟩ | exact (q).g | exact ⟨(q).g⟩)
theorem we_tup {a : E} (h : WA a l S (fun ts S1 => ts.length ≤ LIM ∧ Q (.tup ts) S1) X) : WE (.tup a) l S Q X := by
  unfold WE; rw [ev_tup]
  refine po_lst (h.mono (fun x S1 h => ?_) fun _ _ h => h)
  obtain ⟨ts, rfl, h1, q⟩ := h
  refine ⟨ts, rfl, ?_⟩
  rw [if_pos h1]
  (first | exact q | exact ⟨q⟩ | exact (q).g | exact ⟨(q).g⟩)
theorem we_lst {nw : Bool} {a : E} (h : WA a l S (fun ts S1 => ts.length ≤ LIM ∧ WR nw (some (.fresh ts)) S1 Q) X) : WE (.lst nw a) l S Q X := by
  unfold WE; rw [ev_lst]
  refine po_lst (h.mono (fun x S1 h => ?_) fun _ _ h => h)
  obtain ⟨ts, rfl, h1, q⟩ := h
  refine ⟨ts, rfl, ?_⟩
  rw [if_pos h1]
  (first | exact wr_out q | exact ⟨wr_out q⟩ | exact (wr_out q).g | exact ⟨(wr_out q).g⟩)
theorem we_dnewK {nw : Bool} (h : if nw = true then Q (.ref S.length) (S ++ [.dK []]) else Q (.dK []) S) : WE (.dnew false nw) l S Q X := by
  unfold WE; rw [ev_dnew]
  cases nw <;> (first | exact h | exact ⟨h⟩ | exact (h).g | exact ⟨(h).g⟩)
theorem we_idx {a b : E} (h : WE a l S (fun x S1 => WE b l S1 (fun y S2 => ∃ t, idxF x y S2 = some t ∧ Q t S2) X) X) : WE (.idx a b) l S Q X := by
  unfold WE; rw [ev_idx]
  refine po_bnd (h.mono (fun x S1 h => po_bnd (h.mono (fun y S2 h => ?_) fun _ _ h => h)) fun _ _ h => h)
  obtain ⟨t, e, q⟩ := h
  rw [e]
  (first | exact q | exact ⟨q⟩ | exact (q).g | exact ⟨(q).g⟩)
theorem we_call {keep : Bool} {x : Str} {F : FnS} {args : E} (h : WA args l S (fun ts S1 => Wc keep F ts S1 Q X) X) : WE (.call keep x F args) l S Q X := by
  unfold WE; rw [ev_call]
  refine po_lst (h.mono (fun x S1 h => ?_) fun _ _ h => h)
  obtain ⟨ts, rfl, q⟩ := h
  exact ⟨ts, rfl, q.po⟩
theorem we_bi {nw : Bool} {b : Bi} {args : E} (h : WA args l S (fun ts S1 => WR nw (biF b ts S1) S1 Q) X) : WE (.bi nw b args) l S Q X := by
  unfold WE; rw [ev_bi]
  refine po_lst (h.mono (fun x S1 h => ?_) fun _ _ h => h)
  obtain ⟨ts, rfl, q⟩ := h
  exact ⟨ts, rfl, wr_out q⟩
theorem we_isi {a : E} {ty : String} (h : WE a l S (fun x S1 => ∃ b, isiF ty x S1 = some b ∧ Q (.bl b) S1) X) : WE (.isi a ty) l S Q X := by
  unfold WE; rw [ev_isi]
  refine po_bnd (h.mono (fun x S1 h => ?_) fun _ _ h => h)
  obtain ⟨b, e, q⟩ := h
  rw [e]
  (first | exact q | exact ⟨q⟩ | exact (q).g | exact ⟨(q).g⟩)
theorem we_lenset {a : E} (h : WE a l S (fun x S1 => ∃ i, lenSetF x = some i ∧ Q (.int i) S1) X) : WE (.lenset a) l S Q X := by
  unfold WE; rw [ev_lenset]
  refine po_bnd (h.mono (fun x S1 h => ?_) fun _ _ h => h)
  obtain ⟨i, e, q⟩ := h
  rw [e]
  exact ⟨q⟩
theorem we_seq {a : E} (h : WE a l S (fun x S1 => Q (.tup [.int 0, x]) S1) X) : WE (.seq a) l S Q X := by
  unfold WE; rw [ev_seq]
  exact po_bnd (h.mono (fun x S1 h => ⟨h⟩) fun _ _ h => h)
theorem we_rng {args : E} (h : WA args l S (fun ts S1 => ∃ xs, rngF ts = some xs ∧ Q (.tup [.non, .lst xs]) S1) X) : WE (.rng args) l S Q X := by
  unfold WE; rw [ev_rng]
  refine po_lst (h.mono (fun x S1 h => ?_) fun _ _ h => h)
  obtain ⟨ts, rfl, xs, e, q⟩ := h
  refine ⟨ts, rfl, ?_⟩
  rw [e, rngK_some]
  (first | exact q | exact ⟨q⟩ | exact (q).g | exact ⟨(q).g⟩)
theorem we_enum {a : E} (h : WE a l S (fun x S1 => Q (.tup [.bl false, x]) S1) X) : WE (.enum a) l S Q X := by
  unfold WE; rw [ev_enum]
  exact po_bnd (h.mono (fun x S1 h => ⟨h⟩) fun _ _ h => h)
theorem we_zip {a b : E} (h : WE a l S (fun x S1 => WE b l S1 (fun y S2 => Q (.tup [.bl true, x, y]) S2) X) X) : WE (.zip a b) l S Q X := by
  unfold WE; rw [ev_zip]
  exact po_bnd (h.mono (fun x S1 h => po_bnd (h.mono (fun y S2 h => ⟨h⟩) fun _ _ h => h)) fun _ _ h => h)
theorem we_meth {m : Mt} {o args : E} (h : WE o l S (fun x S1 => mtTy m x S1 = true ∧ WA args l S1 (fun ts S2 => ∃ t S3, mtF m x ts S2 = some (t, S3) ∧ Q t S3) X) X) : WE (.meth m o args) l S Q X := by
  unfold WE; rw [ev_meth]
  refine po_bnd (h.mono (fun x S1 h => ?_) fun _ _ h => h)
  obtain ⟨h1, h2⟩ := h
  rw [if_pos h1]
  refine po_lst (h2.mono (fun y S2 h => ?_) fun _ _ h => h)
  obtain ⟨ts, rfl, t, S3, e, q⟩ := h
  refine ⟨ts, rfl, ?_⟩
  rw [e, mtK_some]
  (first | exact q | exact ⟨q⟩ | exact (q).g | exact ⟨(q).g⟩)
theorem compL_inv {tg : Tg} {cond elt : SE} {src : T} {items : List T} {l0 : Lo} (P : Nat → List T → Sto → Prop) (ok : ∀ k acc S, P k acc S → okSrc src items S = true)
    (turn : ∀ (k : Nat) (t : T) (acc : List T) (S : Sto), items[k]? = some t → P k acc S → ∃ l1, asgTg tg t l0 = some l1 ∧ ∃ b S1, cond l1 S = some (.ok (.bl b), S1) ∧ (b = true → ∃ v S2, elt l1 S1 = some (.ok v, S2) ∧ P (k + 1) (acc ++ [v]) S2) ∧ (b = false → P (k + 1) acc S1)) :
    ∀ (n k : Nat) (acc : List T) (S : Sto), k + n = items.length → P k acc S → ∃ vs S', compL tg cond elt src items l0 (items.drop k) S = some (vs, S') ∧ P items.length (acc ++ vs) S' := by
  intro n
  induction n with
  | zero =>
    intro k acc S hk p
    have e : items.drop k = [] := List.drop_eq_nil_of_le (by omega)
    have : k = items.length := by omega
    subst this
    refine ⟨[], S, ?_, by rw [List.append_nil]; exact p⟩
    rw [e]
    simp only [compL]
    rw [if_pos (ok _ _ _ p)]
  | succ n ih =>
    intro k acc S hk p
    have hlt : k < items.length := by omega
    rw [List.drop_eq_getElem_cons hlt]
    obtain ⟨l1, e1, b, S1, e2, h1, h2⟩ := turn k items[k] acc S (List.getElem?_eq_getElem hlt) p
    simp only [compL]
    rw [if_pos (ok _ _ _ p), e1]
    dsimp only
    rw [e2]
    cases b with
    | true =>
      obtain ⟨v, S2, e3, p3⟩ := h1 rfl
      obtain ⟨vs, S', e4, p4⟩ := ih (k + 1) (acc ++ [v]) S2 (by omega) p3
      refine ⟨v :: vs, S', ?_, by simpa using p4⟩
      dsimp only
      rw [e3]
      dsimp only
      rw [e4]
    | false =>
      obtain ⟨vs, S', e4, p4⟩ := ih (k + 1) acc S1 (by omega) (h2 rfl)
      exact ⟨vs, S', e4, p4⟩
def NoX : Exn → Sto → Prop := fun _ _ => False
theorem po_get {Q : T → Sto → Prop} {o : RE} (h : Po Q NoX o) : ∃ t S, o = some (.ok t, S) ∧ Q t S := by
  cases o with
  | none => exact h.g.elim
  | some r =>
    obtain ⟨r, S1⟩ := r
    cases r with
    | ok u => exact ⟨u, S1, rfl, h.g⟩
    | err x => exact h.g.elim
theorem we_comp {nw : Bool} {own : List (Str × Nat)} {tg : Tg} {it elt : E} (P : Nat → List T → Sto → Prop) (h : WE it l S (fun d S1 => ∃ items, srcItems d S1 = some items ∧ items.length ≤ LIM ∧ P 0 [] S1 ∧ (∀ k acc S, P k acc S → okSrc d items S = true) ∧
    (∀ (k : Nat) (t : T) (acc : List T) (S : Sto), items[k]? = some t → P k acc S → ∃ l1, asgTg tg t (wipeL l (own.map (·.2))) = some l1 ∧ WE elt l1 S (fun v S2 => P (k + 1) (acc ++ [v]) S2) NoX) ∧
    (∀ acc S, P items.length acc S → WR nw (some (.fresh acc)) S Q)) X) : WE (.comp nw own tg it .nop elt) l S Q X := by
  unfold WE; rw [ev_comp]
  refine po_bnd (h.mono (fun d S1 h => ?_) fun _ _ h => h)
  obtain ⟨items, e, hl, p0, ok, turn, fin⟩ := h
  unfold compK
  rw [e]
  dsimp only
  rw [if_pos hl]
  obtain ⟨vs, S', e4, p4⟩ := compL_inv (tg := tg) (cond := condE true (ev .nop)) (elt := ev elt) (src := d) (items := items) (l0 := wipeL l (own.map (·.2))) P ok (fun k t acc S hk p => by
    obtain ⟨l1, e1, w⟩ := turn k t acc S hk p
    obtain ⟨v, S2, e2, q2⟩ := po_get w
    exact ⟨l1, e1, true, S, rfl, fun _ => ⟨v, S2, e2, q2⟩, fun z => by cases z⟩) items.length 0 [] S1 (by omega) p0
  rw [List.drop_zero] at e4
  have e5 : compL tg (condE E.nop.isNop (ev .nop)) (ev elt) d items (wipeL l (own.map (·.2))) items S1 = some (vs, S') := e4
  rw [e5]
  exact wr_out (fin _ _ (by simpa using p4))
theorem we_compC {nw : Bool} {own : List (Str × Nat)} {tg : Tg} {it c elt : E} (hc : c.isNop = false) (P : Nat → List T → Sto → Prop) (h : WE it l S (fun d S1 => ∃ items, srcItems d S1 = some items ∧ items.length ≤ LIM ∧ P 0 [] S1 ∧ (∀ k acc S, P k acc S → okSrc d items S = true) ∧
    (∀ (k : Nat) (t : T) (acc : List T) (S : Sto), items[k]? = some t → P k acc S → ∃ l1, asgTg tg t (wipeL l (own.map (·.2))) = some l1 ∧ WE c l1 S (fun v S2 => ∃ b, v = .bl b ∧ (b = true → WE elt l1 S2 (fun v S3 => P (k + 1) (acc ++ [v]) S3) NoX) ∧ (b = false → P (k + 1) acc S2)) NoX) ∧
    (∀ acc S, P items.length acc S → WR nw (some (.fresh acc)) S Q)) X) : WE (.comp nw own tg it c elt) l S Q X := by
  unfold WE; rw [ev_comp]
  refine po_bnd (h.mono (fun d S1 h => ?_) fun _ _ h => h)
  obtain ⟨items, e, hl, p0, ok, turn, fin⟩ := h
  unfold compK
  rw [e]
  dsimp only
  rw [if_pos hl]
  obtain ⟨vs, S', e4, p4⟩ := compL_inv (tg := tg) (cond := condE c.isNop (ev c)) (elt := ev elt) (src := d) (items := items) (l0 := wipeL l (own.map (·.2))) P ok (fun k t acc S hk p => by
    obtain ⟨l1, e1, w⟩ := turn k t acc S hk p
    obtain ⟨v, S2, e2, b, rfl, h1, h2⟩ := po_get w
    refine ⟨l1, e1, b, S2, ?_, fun hb => ?_, h2⟩
    · unfold condE
      rw [hc]
      exact e2
    · obtain ⟨v, S3, e3, q3⟩ := po_get (h1 hb)
      exact ⟨v, S3, e3, q3⟩) items.length 0 [] S1 (by omega) p0
  rw [List.drop_zero] at e4
  rw [e4]
  exact wr_out (fin _ _ (by simpa using p4))
def WPt (e : E) (l : Lo) (S : Sto) (Q : Option Int → Sto → Prop) (X : Exn → Sto → Prop) : Prop := Po (fun t S1 => ∃ i, partF t = some i ∧ Q i S1) X (partE e.isNop (ev e) l S)
theorem wpt_nop {Q : Option Int → Sto → Prop} (h : Q none S) : WPt .nop l S Q X := ⟨none, rfl, h⟩
theorem wpt_e {e : E} {Q : Option Int → Sto → Prop} (hn : e.isNop = false) (h : WE e l S (fun t S1 => ∃ i, t = .int i ∧ Q (some i) S1) X) : WPt e l S Q X := by
  unfold WPt partE
  rw [hn]
  simp only [Bool.false_eq_true, if_false]
  rw [bind_app]
  refine po_bnd (Po.mono (fun t S1 h => ?_) (fun _ _ h => h) h)
  obtain ⟨i, rfl, q⟩ := h
  exact ⟨some i, rfl, q⟩
theorem we_sl {nw : Bool} {a lo hi : E} (h : WE a l S (fun x S1 => WPt lo l S1 (fun i S2 => WPt hi l S2 (fun j S3 => WR nw (slF x i j S3) S3 Q) X) X) X) : WE (.sl nw a lo hi) l S Q X := by
  unfold WE
  simp only [ev]
  rw [bind_app]
  refine po_bnd (Po.mono (fun x S1 h => ?_) (fun _ _ h => h) h)
  rw [bind_app]
  refine po_bnd (Po.mono (fun t S2 h => ?_) (fun _ _ h => h) h)
  obtain ⟨i, e1, h⟩ := h
  rw [bind_app]
  refine po_bnd (Po.mono (fun u S3 h => ?_) (fun _ _ h => h) h)
  obtain ⟨j, e2, h⟩ := h
  rw [e1, e2]
  show Po Q X (outR nw (slF x i j S3) l S3)
  rw [out_app]
  exact wr_out h
theorem we_rev {nw : Bool} {a : E} (h : WE a l S (fun x S1 => WR nw (revF x S1) S1 Q) X) : WE (.rev nw a) l S Q X := by
  unfold WE; rw [ev_rev]
  exact po_bnd (h.mono (fun x S1 h => wr_out h) fun _ _ h => h)
theorem wr_val {t : T} (h : Q t S) : WR false (some (.val t)) S Q := ⟨rfl, h⟩
theorem wr_of {nw : Bool} {o : Option Raw} {r : Raw} (e : o = some r) (h : WR nw (some r) S Q) : WR nw o S Q := by rw [e]; (first | exact h | exact ⟨h⟩ | exact (h).g | exact ⟨(h).g⟩)
theorem wr_new {ts : List T} (h : Q (.ref S.length) (S ++ [.lst ts])) : WR true (some (.fresh ts)) S Q := h
theorem wr_frz {ts : List T} (h : Q (.lst ts) S) : WR false (some (.fresh ts)) S Q := h
theorem wf_keep {F : FnS} {ts : List T} {t : T} {S' : Sto} (e : F ts S = some (.ok t, S')) (q : Q t S') : Wc true F ts S Q X := by
  refine ⟨?_⟩; unfold callK; rw [if_pos rfl, e]; (first | exact q | exact ⟨q⟩ | exact (q).g | exact ⟨(q).g⟩)
theorem wf_frz {F : FnS} {ts : List T} {t : T} {S' : Sto} (e : frzR S.length (F ts S) = some (.ok t, S')) (q : Q t S') : Wc false F ts S Q X := by
  refine ⟨?_⟩; unfold callK; rw [if_neg (by decide), e]; (first | exact q | exact ⟨q⟩ | exact (q).g | exact ⟨(q).g⟩)
end
theorem br_t {A B : Prop} (a : A) : ∃ c, T.bl true = .bl c ∧ (c = true → A) ∧ (c = false → B) := ⟨true, rfl, fun _ => a, fun z => by cases z⟩
theorem br_f {A B : Prop} (b : B) : ∃ c, T.bl false = .bl c ∧ (c = true → A) ∧ (c = false → B) := ⟨false, rfl, fun z => by (cases z), fun _ => b⟩
theorem br_d {A B p : Prop} [Decidable p] (h1 : p → A) (h2 : ¬p → B) : ∃ c, T.bl (decide p) = .bl c ∧ (c = true → A) ∧ (c = false → B) := ⟨_, rfl, fun h => h1 (of_decide_eq_true h), fun h => h2 (of_decide_eq_false h)⟩
section
variable {S : Sto} {i j : Int} {Q : T → Sto → Prop}
theorem wr_add (h : Q (.int (i + j)) S) : WR false (binF .Add (.int i) (.int j) S) S Q := by rw [b_add]; exact ⟨rfl, h⟩
theorem wr_sub (h : Q (.int (i - j)) S) : WR false (binF .Sub (.int i) (.int j) S) S Q := by rw [b_sub]; exact ⟨rfl, h⟩
theorem wr_mul (c : i.natAbs.log2 + j.natAbs.log2 < 1000000) (h : Q (.int (i * j)) S) : WR false (binF .Mult (.int i) (.int j) S) S Q := by rw [b_mul, if_pos c]; exact ⟨rfl, h⟩
theorem wr_mod (c : 0 < j) (h : Q (.int (i % j)) S) : WR false (binF .Mod (.int i) (.int j) S) S Q := by rw [b_mod, if_pos c]; exact ⟨rfl, h⟩
theorem wr_fdiv (c : 0 < j ∧ j.natAbs.log2 < 9000) (h : Q (.int (i / j)) S) : WR false (binF .FloorDiv (.int i) (.int j) S) S Q := by rw [b_fdiv, if_pos c]; exact ⟨rfl, h⟩
theorem wr_pow (c : 0 ≤ j ∧ j ≤ 1000000 ∧ i.natAbs < 2 ^ 64) (h : Q (.int (i ^ j.toNat)) S) : WR false (binF .Pow (.int i) (.int j) S) S Q := by rw [b_pow, if_pos c]; exact ⟨rfl, h⟩
theorem wr_mull (c : decide (i.natAbs.log2 + j.natAbs.log2 < 1000000) = true) (h : Q (.int (i * j)) S) : WR false (binF .Mult (.int i) (.int j) S) S Q := wr_mul (of_decide_eq_true c) h
theorem wr_modl (c : decide (0 < j) = true) (h : Q (.int (i % j)) S) : WR false (binF .Mod (.int i) (.int j) S) S Q := wr_mod (of_decide_eq_true c) h
theorem wr_fdivl (c : decide (0 < j ∧ j.natAbs.log2 < 9000) = true) (h : Q (.int (i / j)) S) : WR false (binF .FloorDiv (.int i) (.int j) S) S Q := wr_fdiv (of_decide_eq_true c) h
theorem wr_powl (c : decide (0 ≤ j ∧ j ≤ 1000000 ∧ i.natAbs < 2 ^ 64) = true) (h : Q (.int (i ^ j.toNat)) S) : WR false (binF .Pow (.int i) (.int j) S) S Q := wr_pow (of_decide_eq_true c) h
theorem lim_c {n : Nat} {P : Prop} (h : Nat.ble n LIM = true) (p : P) : n ≤ LIM ∧ P := ⟨Nat.le_of_ble_eq_true h, p⟩
theorem ex_bl {b : Bool} {P : Bool → Prop} (h : P b) : ∃ i, T.bl i = .bl b ∧ P i := ⟨b, rfl, h⟩
theorem ex_int {b : Int} {P : Int → Prop} (h : P b) : ∃ i, T.int b = .int i ∧ P i := ⟨b, rfl, h⟩
theorem wr_abs (h : Q (.int (if i < 0 then -i else i)) S) : WR false (biF .abs [.int i] S) S Q := ⟨rfl, h⟩
theorem wr_max2 (h : Q (.int (if j > i then j else i)) S) : WR false (biF .max2 [.int i, .int j] S) S Q := ⟨rfl, h⟩
theorem wr_min2 (h : Q (.int (if j < i then j else i)) S) : WR false (biF .min2 [.int i, .int j] S) S Q := ⟨rfl, h⟩
theorem wr_int (h : Q (.int i) S) : WR false (biF .int [.int i] S) S Q := ⟨rfl, h⟩
theorem wr_intb {b : Bool} (h : Q (.int (if b = true then 1 else 0)) S) : WR false (biF .int [.bl b] S) S Q := ⟨rfl, h⟩
theorem wr_lent {xs : List T} (h : Q (.int xs.length) S) : WR false (biF .len [.tup xs] S) S Q := ⟨rfl, h⟩
theorem wr_lenl {xs : List T} (h : Q (.int xs.length) S) : WR false (biF .len [.lst xs] S) S Q := ⟨rfl, h⟩
theorem wr_lenr {k : Nat} {xs : List T} (e : S[k]? = some (.lst xs)) (h : Q (.int xs.length) S) : WR false (biF .len [.ref k] S) S Q := by
  have : biF .len [.ref k] S = some (.val (.int xs.length)) := by
    simp only [biF, lenF, Sto.seq, e]
  rw [this]
  exact ⟨rfl, h⟩
theorem wr_slt {xs : List T} {a b : Option Int} (h : Q (.tup (cutT xs a b)) S) : WR false (slF (.tup xs) a b S) S Q := ⟨rfl, h⟩
theorem wr_sll {xs : List T} {a b : Option Int} (h : Q (.lst (cutT xs a b)) S) : WR false (slF (.lst xs) a b S) S Q := h
theorem wr_slc {ns : List Int} {a b : Option Int} (h : Q (.lst (cutT (ns.map T.int) a b)) S) : WR false (slF (.scr ns) a b S) S Q := h
theorem wr_revt {xs : List T} (h : Q (.tup xs.reverse) S) : WR false (revF (.tup xs) S) S Q := ⟨rfl, h⟩
theorem wr_lstl {xs : List T} (h : Q (.lst xs) S) : WR false (biF .list [.lst xs] S) S Q := h
theorem wr_lstt {xs : List T} (h : Q (.lst xs) S) : WR false (biF .list [.tup xs] S) S Q := h
theorem wr_catl {xs ys : List T} (c : xs.length + ys.length ≤ LIM) (h : Q (.lst (xs ++ ys)) S) : WR false (binF .Add (.lst xs) (.lst ys) S) S Q := by
  have : binF .Add (.lst xs) (.lst ys) S = if xs.length + ys.length ≤ LIM then some (.fresh (xs ++ ys)) else none := by
    have : binF .Add (.lst xs) (.lst ys) S = catF (.lst xs) (.lst ys) S := by
      cases xs <;> rfl
    rw [this]
    simp [catF, Sto.items, guardR]
  rw [this, if_pos c]
  (first | exact h | exact ⟨h⟩ | exact (h).g | exact ⟨(h).g⟩)
theorem wr_all {xs : List T} {bs : List Bool} (e : T.bools xs = some bs) (h : Q (.bl (bs.all id)) S) : WR false (biF .all [.lst xs] S) S Q := by
  have : biF .all [.lst xs] S = some (.val (.bl (bs.all id))) := by
    simp only [biF, allF, Sto.lseq, Sto.seq, Option.bind_some, e]
  rw [this]
  exact ⟨rfl, h⟩
theorem wr_tupl {xs : List T} (h : Q (.tup xs) S) : WR false (biF .tuple [.lst xs] S) S Q := ⟨rfl, h⟩
theorem wr_tupt {xs : List T} (h : Q (.tup xs) S) : WR false (biF .tuple [.tup xs] S) S Q := ⟨rfl, h⟩
theorem wr_tupr {k : Nat} {xs : List T} (e : S[k]? = some (.lst xs)) (h : Q (.tup xs) S) : WR false (biF .tuple [.ref k] S) S Q := by
  have : biF .tuple [.ref k] S = some (.val (.tup xs)) := by
    simp only [biF, tupleF, Sto.seq, e, Option.map_some]
  rw [this]
  exact ⟨rfl, h⟩
theorem ce_lt {P : Bool → Prop} (h : P (decide (i < j))) : ∃ c, cmpB .Lt (.int i) (.int j) S = some c ∧ P c := ⟨_, c_lt _ _ _, h⟩
theorem ce_le {P : Bool → Prop} (h : P (decide (i ≤ j))) : ∃ c, cmpB .LtE (.int i) (.int j) S = some c ∧ P c := ⟨_, c_le _ _ _, h⟩
theorem ce_gt {P : Bool → Prop} (h : P (decide (j < i))) : ∃ c, cmpB .Gt (.int i) (.int j) S = some c ∧ P c := ⟨_, c_gt _ _ _, h⟩
theorem ce_ge {P : Bool → Prop} (h : P (decide (j ≤ i))) : ∃ c, cmpB .GtE (.int i) (.int j) S = some c ∧ P c := ⟨_, c_ge _ _ _, h⟩
theorem ce_eq {P : Bool → Prop} (h : P (decide (i = j))) : ∃ c, cmpB .Eq (.int i) (.int j) S = some c ∧ P c := ⟨_, c_eq _ _ _, h⟩
theorem ce_ne {P : Bool → Prop} (h : P (!decide (i = j))) : ∃ c, cmpB .NotEq (.int i) (.int j) S = some c ∧ P c := ⟨_, c_ne _ _ _, h⟩
end
section
variable {l : Lo} {S : Sto} {Q Q' : Lo → Sto → Prop} {R R' : T → Sto → Prop} {X X' : Exn → Lo → Sto → Prop}
theorem PoS.mono (hq : ∀ t S, Q t S → Q' t S) (hr : ∀ t S, R t S → R' t S) (hx : ∀ x l S, X x l S → X' x l S) : ∀ {o : RS}, PoS Q R X o → PoS Q' R' X' o
  | some (.nx l, S), h => ⟨hq l S h.g⟩
  | some (.rt t, S), h => ⟨hr t S h.g⟩
  | some (.er x l, S), h => ⟨hx x l S h.g⟩
  | none, h => ⟨h.g⟩
theorem ws_nil (h : Q l S) : WS .nil l S Q R X := ⟨h⟩
theorem ws_skip (h : Q l S) : WS .skip l S Q R X := ⟨h⟩
theorem pos_thn {o : RS} {k : Lo → Sto → RS} (h : PoS (fun l S => PoS Q R X (k l S)) R X o) : PoS Q R X (thn o k) := by
  cases o with
  | none => (first | exact h | exact ⟨h⟩ | exact (h).g | exact ⟨(h).g⟩)
  | some r => obtain ⟨r, S⟩ := r; cases r <;> (first | exact h | exact ⟨h⟩ | exact (h).g | exact ⟨(h).g⟩)
theorem ws_seq {a b : Sm} (h : WS a l S (fun l1 S1 => WS b l1 S1 Q R X) R X) : WS (.seq a b) l S Q R X := by
  unfold WS; rw [ex_seq]; exact pos_thn h
theorem pos_bndS {e : E} {k : T → Sto → RS} (h : WE e l S (fun t S1 => PoS Q R X (k t S1)) (fun x S1 => X x l S1)) : PoS Q R X (bndS l (ev e l S) k) := by
  unfold WE at h
  cases q : ev e l S with
  | none => rw [q] at h; (first | exact h | exact ⟨h⟩ | exact (h).g | exact ⟨(h).g⟩)
  | some r => obtain ⟨r, S⟩ := r; rw [q] at h; cases r <;> (first | exact h | exact ⟨h⟩ | exact (h).g | exact ⟨(h).g⟩)
theorem ws_expr {e : E} (h : WE e l S (fun _ S1 => Q l S1) (fun x S1 => X x l S1)) : WS (.expr e) l S Q R X := by
  unfold WS; rw [ex_expr]; exact pos_bndS (h.mono (fun t S1 h => ⟨h⟩) fun _ _ h => h)
theorem ws_asg {tg : Tg} {e : E} (h : WE e l S (fun t S1 => ∃ l', asgTg tg t l = some l' ∧ Q l' S1) (fun x S1 => X x l S1)) : WS (.asg tg e) l S Q R X := by
  unfold WS; rw [ex_asg]
  refine pos_bndS (h.mono (fun t S1 h => ?_) fun _ _ h => h)
  obtain ⟨l', e, q⟩ := h
  rw [e]
  (first | exact q | exact ⟨q⟩ | exact (q).g | exact ⟨(q).g⟩)
theorem ws_set {i : Nat} {e : E} (h : WE e l S (fun t S1 => Q (l.set i (some t)) S1) (fun x S1 => X x l S1)) : WS (.asg (.name i) e) l S Q R X :=
  ws_asg (h.mono (fun t S1 h => ⟨_, rfl, h⟩) fun _ _ h => h)
theorem ws_par {i j : Nat} {e : E} (h : WA e l S (fun ts S1 => ∃ x y, ts = [x, y] ∧ Q ((l.set i (some x)).set j (some y)) S1) (fun x S1 => X x l S1)) : WS (.par i j e) l S Q R X := by
  unfold WS; rw [ex_par]
  refine pos_bndS (h.mono (fun t S1 h => ?_) fun _ _ h => h)
  obtain ⟨ts, rfl, x, y, rfl, q⟩ := h
  (first | exact q | exact ⟨q⟩ | exact (q).g | exact ⟨(q).g⟩)
theorem ws_setI {a b e : E} (h : WE e l S (fun v S1 => WE a l S1 (fun x S2 => WE b l S2 (fun y S3 => ∃ S', putI v x y S3 = some S' ∧ Q l S') (fun x S1 => X x l S1)) (fun x S1 => X x l S1)) (fun x S1 => X x l S1)) : WS (.setI a b e) l S Q R X := by
  unfold WS; rw [ex_setI]
  refine pos_bndS (h.mono (fun v S1 h => pos_bndS (h.mono (fun x S2 h => pos_bndS (h.mono (fun y S3 h => ?_) fun _ _ h => h)) fun _ _ h => h)) fun _ _ h => h)
  obtain ⟨S', e, q⟩ := h
  rw [e]
  (first | exact q | exact ⟨q⟩ | exact (q).g | exact ⟨(q).g⟩)
theorem ws_ret {e : E} (h : WE e l S R (fun x S1 => X x l S1)) : WS (.ret e) l S Q R X := by
  unfold WS; rw [ex_ret]; exact pos_bndS (h.mono (fun t S1 h => ⟨h⟩) fun _ _ h => h)
theorem ws_retN (h : R .non S) : WS .retN l S Q R X := by
  unfold WS; rw [ex_retN]; (first | exact h | exact ⟨h⟩ | exact (h).g | exact ⟨(h).g⟩)
theorem ws_ite {c : E} {a b : Sm} (h : WE c l S (fun t S1 => ∃ c, t = .bl c ∧ (c = true → WS a l S1 Q R X) ∧ (c = false → WS b l S1 Q R X)) (fun x S1 => X x l S1)) : WS (.ite c a b) l S Q R X := by
  unfold WS; rw [ex_ite]
  unfold WE at h
  cases q : ev c l S with
  | none => rw [q] at h; (first | exact h | exact ⟨h⟩ | exact (h).g | exact ⟨(h).g⟩)
  | some r =>
    obtain ⟨r, S⟩ := r
    rw [q] at h
    cases r with
    | err x => (first | exact h | exact ⟨h⟩ | exact (h).g | exact ⟨(h).g⟩)
    | ok t =>
      obtain ⟨c, rfl, h1, h2⟩ := h
      rw [tstS_ok]
      cases c with
      | true => (first | exact h1 rfl | exact ⟨h1 rfl⟩ | exact (h1 rfl).g | exact ⟨(h1 rfl).g⟩)
      | false => (first | exact h2 rfl | exact ⟨h2 rfl⟩ | exact (h2 rfl).g | exact ⟨(h2 rfl).g⟩)
theorem ws_raise {c : Str} {nms : List Str} {args : E} (h : WA args l S (fun ts S1 => allInt ts = true ∧ ts.length = nms.length ∧ X ⟨c, nms.zip ts⟩ l S1) (fun x S1 => X x l S1)) : WS (.raise c nms args) l S Q R X := by
  unfold WS
  show PoS Q R X (bindS (ev args) (raiseK c nms) l S)
  unfold bindS
  unfold WA at h
  cases q : ev args l S with
  | none => rw [q] at h; (first | exact h | exact ⟨h⟩ | exact (h).g | exact ⟨(h).g⟩)
  | some r =>
    obtain ⟨r, S⟩ := r
    rw [q] at h
    cases r with
    | err x => (first | exact h | exact ⟨h⟩ | exact (h).g | exact ⟨(h).g⟩)
    | ok t =>
      obtain ⟨ts, rfl, h1, h2, h3⟩ := h
      show PoS Q R X (raiseK c nms (.lst ts) l S)
      simp only [raiseK]
      rw [if_pos ⟨h1, h2⟩]
      (first | exact h3 | exact ⟨h3⟩ | exact (h3).g | exact ⟨(h3).g⟩)
theorem ws_tr {body : Sm} {i : Nat} {suite : HS} (h : WS body l S Q R (fun x l1 S1 => (kindW x.cls).isSome = true ∧ i < l1.length ∧ PoS (fun l2 S2 => Q (l2.set i none) S2) R (fun _ _ _ => False) (exH x suite (l1.set i none) S1))) : WS (.tr body i suite) l S Q R X := by
  unfold WS
  show PoS Q R X (tryK i (fun x => exH x suite) (ex body l S))
  unfold WS at h
  cases q : ex body l S with
  | none => rw [q] at h; (first | exact h | exact ⟨h⟩ | exact (h).g | exact ⟨(h).g⟩)
  | some r =>
    obtain ⟨r, S⟩ := r
    rw [q] at h
    cases r with
    | nx l1 => (first | exact h | exact ⟨h⟩ | exact (h).g | exact ⟨(h).g⟩)
    | rt t => (first | exact h | exact ⟨h⟩ | exact (h).g | exact ⟨(h).g⟩)
    | er x l1 =>
      obtain ⟨h1, h2, h3⟩ := h
      unfold tryK
      dsimp only
      rw [if_pos (by simp [h1, h2])]
      cases e : exH x suite (l1.set i none) S with
      | none => rw [e] at h3; (first | exact h3 | exact ⟨h3⟩ | exact (h3).g | exact ⟨(h3).g⟩)
      | some r => obtain ⟨r, S2⟩ := r; rw [e] at h3; cases r <;> (first | exact h3 | exact ⟨h3⟩ | exact (h3).g | exact ⟨(h3).g⟩)
theorem ws_loop {tg : Tg} {it : E} {body : Sm} (P : Nat → Lo → Sto → Prop) (h : WE it l S (fun d S1 => ∃ items, srcItems d S1 = some items ∧ P 0 l S1 ∧ (∀ k l S, P k l S → okSrc d items S = true) ∧
    (∀ (k : Nat) (t : T) (l : Lo) (S : Sto), items[k]? = some t → P k l S → ∃ l1, asgTg tg t l = some l1 ∧ WS body l1 S (fun l2 S2 => P (k + 1) l2 S2) R X) ∧ (∀ l S, P items.length l S → Q l S)) (fun x S1 => X x l S1)) : WS (.loop tg it body) l S Q R X := by
  unfold WS
  show PoS Q R X (bindS (ev it) _ l S)
  unfold bindS
  unfold WE at h
  cases q : ev it l S with
  | none => rw [q] at h; (first | exact h | exact ⟨h⟩ | exact (h).g | exact ⟨(h).g⟩)
  | some r =>
    obtain ⟨r, S⟩ := r
    rw [q] at h
    cases r with
    | err x => (first | exact h | exact ⟨h⟩ | exact (h).g | exact ⟨(h).g⟩)
    | ok d =>
      obtain ⟨items, e, p0, ok, turn, fin⟩ := h
      show PoS Q R X (match srcItems d S with
        | some items => loopL tg (ex body) d items items l S
        | none => none)
      rw [e]
      dsimp only
      have key : ∀ (n k : Nat) (l : Lo) (S : Sto), k + n = items.length → P k l S → PoS Q R X (loopL tg (ex body) d items (items.drop k) l S) := by
        intro n
        induction n with
        | zero =>
          intro k l S hk p
          have : items.drop k = [] := List.drop_eq_nil_of_le (by omega)
          rw [this]
          simp only [loopL]
          rw [if_pos (ok k l S p)]
          have : k = items.length := by omega
          subst this
          (first | exact fin l S p | exact ⟨fin l S p⟩ | exact (fin l S p).g | exact ⟨(fin l S p).g⟩)
        | succ n ih =>
          intro k l S hk p
          have hlt : k < items.length := by omega
          rw [List.drop_eq_getElem_cons hlt]
          simp only [loopL]
          rw [if_pos (ok k l S p)]
          obtain ⟨l1, e1, w⟩ := turn k items[k] l S (List.getElem?_eq_getElem hlt) p
          rw [e1]
          dsimp only
          unfold WS at w
          unfold thenS
          cases q : ex body l1 S with
          | none => rw [q] at w; (first | exact w | exact ⟨w⟩ | exact (w).g | exact ⟨(w).g⟩)
          | some r =>
            obtain ⟨r, S2⟩ := r
            rw [q] at w
            cases r with
            | nx l2 => exact ih (k + 1) l2 S2 (by omega) w.g
            | rt t => (first | exact w | exact ⟨w⟩ | exact (w).g | exact ⟨(w).g⟩)
            | er x l2 => (first | exact w | exact ⟨w⟩ | exact (w).g | exact ⟨(w).g⟩)
      have := key items.length 0 l S (by omega) p0
      rw [List.drop_zero] at this
      exact this
end
theorem fn_ws {n : Nat} {body : Sm} {ts : List T} {S : Sto} {Q : T → Sto → Prop} {X : Exn → Sto → Prop} (h : WS body (ts.map some ++ List.replicate (n - ts.length) none) S (fun _ S1 => Q .non S1) Q (fun x _ S1 => X x S1)) : Po Q X (fnS n body ts S) := by
  unfold WS at h
  unfold fnS
  cases q : ex body (ts.map some ++ List.replicate (n - ts.length) none) S with
  | none => rw [q] at h; (first | exact h | exact ⟨h⟩ | exact (h).g | exact ⟨(h).g⟩)
  | some r => obtain ⟨r, S1⟩ := r; rw [q] at h; cases r <;> (first | exact h | exact ⟨h⟩ | exact (h).g | exact ⟨(h).g⟩)
theorem wc_fn {F : FnS} {ts : List T} {S : Sto} {Q : T → Sto → Prop} {X : Exn → Sto → Prop} (h : Po Q X (F ts S)) : Wc true F ts S Q X := by
  refine ⟨?_⟩
  unfold callK
  rw [if_pos rfl]
  (first | exact h | exact ⟨h⟩ | exact (h).g | exact ⟨(h).g⟩)
section
variable {l : Lo} {S : Sto} {Q : T → Sto → Prop} {X : Exn → Sto → Prop}
theorem we_callV {keep : Bool} {tbl : List (Addr × Str × FnS)} {fe args : E} (h : WE fe l S (fun t S1 => ∃ F, pickT tbl t = some F ∧ WA args l S1 (fun ts S2 => Wc keep F ts S2 Q X) X) X) : WE (.callV keep tbl fe args) l S Q X := by
  unfold WE
  simp only [ev]
  rw [bind_app]
  refine po_bnd (Po.mono (fun t S1 h => ?_) (fun _ _ h => h) h)
  obtain ⟨F, e, h⟩ := h
  rw [e]
  exact (we_call (x := "") h : WE (.call keep "" F args) l S1 Q X)
theorem we_sset {nw : Bool} {a : E} (h : WE a l S (fun x S1 => WR nw (ssetF x S1) S1 Q) X) : WE (.sset nw a) l S Q X := by
  unfold WE
  simp only [ev]
  rw [bind_app]
  refine po_bnd (Po.mono (fun t S1 h => ?_) (fun _ _ h => h) h)
  rw [out_app]
  exact wr_out h
theorem we_trng {a : E} (h : WE a l S (fun x S1 => ∃ n, x = .int n ∧ (-1000000 ≤ n ∧ n ≤ 1000000) ∧ Q (.tup (intRange 0 n)) S1) X) : WE (.trng a) l S Q X := by
  unfold WE
  simp only [ev]
  rw [bind_app]
  refine po_bnd (Po.mono (fun t S1 h => ?_) (fun _ _ h => h) h)
  obtain ⟨n, rfl, hn, q⟩ := h
  dsimp only
  rw [if_pos hn]
  exact ⟨q⟩
theorem we_dlit {k v : E} (h : WE k l S (fun x S1 => WE v l S1 (fun y S2 => ∃ q, T.key x = some q ∧ Q (.ref S2.length) (S2 ++ [.dK [(q, y)]])) NoX) NoX) : WE (.dlit k v) l S Q X := by
  obtain ⟨x, S1, e1, h⟩ := po_get h
  obtain ⟨y, S2, e2, q, e3, h⟩ := po_get h
  refine ⟨?_⟩
  have : ev (.dlit k v) l S = some (.ok (.ref S2.length), S2 ++ [.dK [(q, y)]]) := by
    simp only [ev, e1, e2, e3]
  rw [this]
  exact h
theorem we_dget {o k : E} (h : WE o l S (fun x S1 => (S1.dict x).isSome = true ∧ WE k l S1 (fun y S2 => ∃ d r, S2.dict x = some d ∧ d.look y = some r ∧ Q (r.getD .non) S2) X) X) : WE (.dget o k) l S Q X := by
  unfold WE
  simp only [ev]
  rw [bind_app]
  refine po_bnd (Po.mono (fun t S1 h => ?_) (fun _ _ h => h) h)
  obtain ⟨h1, h⟩ := h
  rw [if_pos h1, bind_app]
  refine po_bnd (Po.mono (fun y S2 h => ?_) (fun _ _ h => h) h)
  obtain ⟨d, r, e1, e2, q⟩ := h
  simp only [e1, e2]
  exact ⟨q⟩
end
end TL
namespace MR
section
variable (E : Int → Int → Int → Prop)
inductive Wk : Int → List Int → Int → Int → Prop
  | nil (a : Int) : Wk a [] a 0
  | cons {a c b w s : Int} {l : List Int} : E a c w → Wk c l b s → Wk a (c :: l) b (w + s)
def RgS (a : Int) (t : List Int) (s : Int) : Prop := Wk E a (t ++ [a]) a s ∧ (a :: t).Nodup ∧ ∀ x ∈ t, a < x
end
variable {E : Int → Int → Int → Prop}
theorem Wk.app {c t : Int} {m : List Int} : ∀ {l : List Int} {a b s : Int}, Wk E a l b s → Wk E b m c t → Wk E a (l ++ m) c (s + t)
  | _, _, _, _, .nil a, g => by simpa using g
  | _, _, _, _, .cons e h, g => by
    have := Wk.cons e (Wk.app h g)
    rw [← Int.add_assoc] at this
    exact this
theorem Wk.split : ∀ (l : List Int) {m : List Int} {a c u : Int}, Wk E a (l ++ m) c u → ∃ b s t, Wk E a l b s ∧ Wk E b m c t ∧ u = s + t
  | [], m, a, c, u, h => ⟨a, 0, u, .nil a, h, by omega⟩
  | x :: l, m, a, c, u, h => by
    cases h with
    | cons e h =>
      obtain ⟨b, s, t, h1, h2, rfl⟩ := Wk.split l h
      exact ⟨b, _, t, .cons e h1, h2, by omega⟩
theorem Wk.nil_inv {a b s : Int} (h : Wk E a [] b s) : b = a ∧ s = 0 := by cases h; exact ⟨rfl, rfl⟩
theorem Wk.one_inv {a b c s : Int} (h : Wk E a [c] b s) : b = c ∧ E a c s := by
  cases h with
  | cons e h => obtain ⟨rfl, rfl⟩ := h.nil_inv; exact ⟨rfl, by simpa using e⟩
theorem Wk.mem {P : Int → Prop} (hE : ∀ a b w, E a b w → P b) : ∀ {l : List Int} {a b s : Int}, Wk E a l b s → ∀ x ∈ l, P x
  | _, _, _, _, .nil a, x, hx => by cases hx
  | _, _, _, _, .cons e h, x, hx => by
    rcases List.mem_cons.mp hx with rfl | hx
    · exact hE _ _ _ e
    · exact Wk.mem hE h x hx
theorem nd_len {N : Nat} {l : List Int} (nd : l.Nodup) (h : ∀ x ∈ l, 0 ≤ x ∧ x < (N : Int)) : l.length ≤ N := by
  have key : ∀ (N : Nat) (l : List Nat), l.Nodup → (∀ x ∈ l, x < N) → l.length ≤ N := by
    intro N
    induction N with
    | zero => intro l _ h; cases l with | nil => simp | cons a l => exact absurd (h a (by simp)) (by omega)
    | succ N ih =>
      intro l nd h
      have h1 := ih (l.erase N) (nd.erase N) fun x hx => by
        have hx' := (nd.mem_erase_iff).mp hx
        have := h x hx'.2
        omega
      have h2 := List.length_erase (a := N) (l := l)
      split at h2 <;> omega
  have nd2 : (l.map Int.toNat).Nodup := by
    rw [List.Nodup, List.pairwise_map]
    refine List.Pairwise.imp_of_mem (fun {a b} ha hb hab => ?_) nd
    have := h a ha
    have := h b hb
    omega
  have := key N _ nd2 fun x hx => by
    obtain ⟨y, hy, rfl⟩ := List.mem_map.mp hx
    have := h y hy
    omega
  rwa [List.length_map] at this
structure Gr (N : Nat) (E : Int → Int → Int → Prop) : Prop where
  pl : ∀ a b w, E a b w → (0 ≤ a ∧ a < (N : Int)) ∧ 0 ≤ b ∧ b < (N : Int)
  fn : ∀ a b w w', E a b w → E a b w' → w = w'
def To (N : Nat) (E : Int → Int → Int → Prop) (k : Nat) (v s : Int) : Prop := ∃ a l, 0 ≤ a ∧ a < (N : Int) ∧ l.length = k ∧ Wk E a l v s
structure Dt (N : Nat) (E : Int → Int → Int → Prop) (D : Nat → Int → Option Int) : Prop where
  to : ∀ k v s, 0 ≤ v → v < (N : Int) → D k v = some s → To N E k v s
  le : ∀ k v s t, 0 ≤ v → v < (N : Int) → D k v = some s → To N E k v t → s ≤ t
  no : ∀ k v t, 0 ≤ v → v < (N : Int) → D k v = none → ¬ To N E k v t
theorem Dt.ex {N : Nat} {D : Nat → Int → Option Int} (d : Dt N E D) {k : Nat} {v t : Int} (h0 : 0 ≤ v) (h1 : v < (N : Int)) (h : To N E k v t) : ∃ s, D k v = some s ∧ s ≤ t := by
  cases e : D k v with
  | none => exact absurd h (d.no k v t h0 h1 e)
  | some s => exact ⟨s, rfl, d.le k v s t h0 h1 e h⟩
def lists (N : Nat) : Nat → List (List Int)
  | 0 => [[]]
  | k + 1 => [] :: (List.range N).flatMap fun (i : Nat) => (lists N k).map fun l => (i : Int) :: l
abbrev A3 := Int × Int × Int
def Le (g f : Int → Option Int) : Prop := ∀ v x, f v = some x → ∃ y, g v = some y ∧ y ≤ x
theorem Le.refl (f : Int → Option Int) : Le f f := fun v x h => ⟨x, h, Int.le_refl _⟩
theorem Le.trans {f g h : Int → Option Int} (a : Le h g) (b : Le g f) : Le h f := fun v x e => by
  obtain ⟨y, e1, l1⟩ := b v x e
  obtain ⟨z, e2, l2⟩ := a v y e1
  exact ⟨z, e2, Int.le_trans l2 l1⟩
def EA (ar : List A3) (a b w : Int) : Prop := (a, b, w) ∈ ar
def Fm (ar : List A3) (f0 : Int → Option Int) (v x : Int) : Prop := ∃ a l u s, f0 a = some u ∧ Wk (EA ar) a l v s ∧ x = u + s
structure Lst (ar : List A3) (f0 f : Int → Option Int) : Prop where
  fm : ∀ v y, f v = some y → Fm ar f0 v y
  le : ∀ v x, Fm ar f0 v x → ∃ y, f v = some y ∧ y ≤ x
theorem Lst.step {ar : List A3} {f0 f : Int → Option Int} (h : Lst ar f0 f) {a b w x : Int} (e : (a, b, w) ∈ ar) (hx : f a = some x) : ∃ y, f b = some y ∧ y ≤ x + w := by
  obtain ⟨c, l, u, s, h1, h2, rfl⟩ := h.fm a x hx
  refine h.le b _ ⟨c, l ++ [b], u, s + (w + 0), h1, h2.app (.cons e (.nil _)), by omega⟩
theorem Wk.imp {E F : Int → Int → Int → Prop} (h : ∀ a b w, E a b w → F a b w) : ∀ {l : List Int} {a b s : Int}, Wk E a l b s → Wk F a l b s
  | _, _, _, _, .nil a => .nil a
  | _, _, _, _, .cons e hw => .cons (h _ _ _ e) (Wk.imp h hw)
theorem RgS.imp {E F : Int → Int → Int → Prop} (h : ∀ a b w, E a b w → F a b w) {a s : Int} {t : List Int} (r : RgS E a t s) : RgS F a t s := ⟨r.1.imp h, r.2⟩
def Sc (E : Int → Int → Int → Prop) (p q : Int) (a b v : Int) : Prop := ∃ w, E a b w ∧ v = w * q - p
theorem Wk.sc {E : Int → Int → Int → Prop} (p q : Int) : ∀ {l : List Int} {a b s : Int}, Wk E a l b s → Wk (Sc E p q) a l b (s * q - p * (l.length : Int))
  | _, _, _, _, .nil a => by simpa using Wk.nil a
  | _, _, _, _, .cons (w := w) (s := s) (l := l) e hw => by
    have h := Wk.cons (E := Sc E p q) ⟨w, e, rfl⟩ (Wk.sc p q hw)
    have e : w * q - p + (s * q - p * (l.length : Int)) = (w + s) * q - p * ((l.length : Int) + 1) := by
      rw [Int.add_mul, Int.mul_add]; omega
    rw [e] at h
    simpa using h
theorem RgS.sc {E : Int → Int → Int → Prop} (p q : Int) {a s : Int} {t : List Int} (h : RgS E a t s) : RgS (Sc E p q) a t (s * q - p * ((t.length : Int) + 1)) := by
  refine ⟨?_, h.2⟩
  have := Wk.sc p q h.1
  simpa using this
end MR
namespace TL
open PySem PySem.Spec L2
section
variable {l : Lo} {S : Sto}
variable {Q : T → Sto → Prop} {X : Exn → Sto → Prop}
theorem we_compE {nw : Bool} {own : List (Str × Nat)} {tg : Tg} {it elt : E} (h : WE it l S (fun d S1 => ∃ (items : List T) (P : Nat → List T → Sto → Prop), srcItems d S1 = some items ∧ items.length ≤ LIM ∧ P 0 [] S1 ∧ (∀ k acc S, P k acc S → okSrc d items S = true) ∧
    (∀ (k : Nat) (t : T) (acc : List T) (S : Sto), items[k]? = some t → P k acc S → ∃ l1, asgTg tg t (wipeL l (own.map (·.2))) = some l1 ∧ WE elt l1 S (fun v S2 => P (k + 1) (acc ++ [v]) S2) NoX) ∧
    (∀ acc S, P items.length acc S → WR nw (some (.fresh acc)) S Q)) X) : WE (.comp nw own tg it .nop elt) l S Q X := by
  cases q : ev it l S with
  | none => unfold WE at h; rw [q] at h; exact h.g.elim
  | some r =>
    obtain ⟨r, S1⟩ := r
    unfold WE at h
    rw [q] at h
    cases r with
    | err x =>
      refine we_comp (fun _ _ _ => False) ?_
      unfold WE
      rw [q]
      exact ⟨h.g⟩
    | ok d =>
      obtain ⟨items, P, h1⟩ := h.g
      refine we_comp P ?_
      unfold WE
      rw [q]
      exact ⟨⟨items, h1⟩⟩
theorem we_compCE {nw : Bool} {own : List (Str × Nat)} {tg : Tg} {it c elt : E} (hc : c.isNop = false) (h : WE it l S (fun d S1 => ∃ (items : List T) (P : Nat → List T → Sto → Prop), srcItems d S1 = some items ∧ items.length ≤ LIM ∧ P 0 [] S1 ∧ (∀ k acc S, P k acc S → okSrc d items S = true) ∧
    (∀ (k : Nat) (t : T) (acc : List T) (S : Sto), items[k]? = some t → P k acc S → ∃ l1, asgTg tg t (wipeL l (own.map (·.2))) = some l1 ∧ WE c l1 S (fun v S2 => ∃ b, v = .bl b ∧ (b = true → WE elt l1 S2 (fun v S3 => P (k + 1) (acc ++ [v]) S3) NoX) ∧ (b = false → P (k + 1) acc S2)) NoX) ∧
    (∀ acc S, P items.length acc S → WR nw (some (.fresh acc)) S Q)) X) : WE (.comp nw own tg it c elt) l S Q X := by
  cases q : ev it l S with
  | none => unfold WE at h; rw [q] at h; exact h.g.elim
  | some r =>
    obtain ⟨r, S1⟩ := r
    unfold WE at h
    rw [q] at h
    cases r with
    | err x =>
      refine we_compC hc (fun _ _ _ => False) ?_
      unfold WE
      rw [q]
      exact ⟨h.g⟩
    | ok d =>
      obtain ⟨items, P, h1⟩ := h.g
      refine we_compC hc P ?_
      unfold WE
      rw [q]
      exact ⟨⟨items, h1⟩⟩
theorem we_mapL {α : Type} {nw : Bool} {own : List (Str × Nat)} {tg : Tg} {it elt : E} (h : WE it l S (fun d S1 => ∃ (xs : List α) (f g : α → T), srcItems d S1 = some (xs.map f) ∧ xs.length ≤ LIM ∧ okSrc d (xs.map f) S1 = true ∧
    (∀ x ∈ xs, ∃ l1, asgTg tg (f x) (wipeL l (own.map (·.2))) = some l1 ∧ WE elt l1 S1 (fun v S2 => v = g x ∧ S2 = S1) NoX) ∧ WR nw (some (.fresh (xs.map g))) S1 Q) X) : WE (.comp nw own tg it .nop elt) l S Q X := by
  refine we_compE (Po.mono (fun d S1 h => ?_) (fun _ _ h => h) h)
  obtain ⟨xs, f, g, h1, h2, h3, h4, h5⟩ := h
  refine ⟨_, fun k acc S' => S1 = S' ∧ acc = (xs.take k).map g, h1, by rw [List.length_map]; exact h2, ⟨rfl, by simp⟩, fun k acc S' z => by rw [← z.1]; exact h3, fun k t acc S' hk z => ?_, fun acc S' z => ?_⟩
  · obtain ⟨rfl, rfl⟩ := z
    rw [List.getElem?_map] at hk
    cases hx : xs[k]? with
    | none => rw [hx] at hk; cases hk
    | some x =>
      rw [hx] at hk
      cases hk
      obtain ⟨l1, e1, w⟩ := h4 x (List.mem_of_getElem? hx)
      refine ⟨l1, e1, Po.mono (fun v S2 z => ?_) (fun _ _ h => h) w⟩
      dsimp only
      rw [List.take_add_one, hx]
      exact ⟨z.2.symm, by simp [z.1]⟩
  · obtain ⟨rfl, rfl⟩ := z
    rw [List.length_map, List.take_length]
    exact h5
theorem we_filL {α : Type} {nw : Bool} {own : List (Str × Nat)} {tg : Tg} {it c elt : E} (hc : c.isNop = false) (h : WE it l S (fun d S1 => ∃ (xs : List α) (f g : α → T) (p : α → Bool), srcItems d S1 = some (xs.map f) ∧ xs.length ≤ LIM ∧ okSrc d (xs.map f) S1 = true ∧
    (∀ x ∈ xs, ∃ l1, asgTg tg (f x) (wipeL l (own.map (·.2))) = some l1 ∧ WE c l1 S1 (fun v S2 => v = .bl (p x) ∧ S2 = S1 ∧ (p x = true → WE elt l1 S1 (fun v S2 => v = g x ∧ S2 = S1) NoX)) NoX) ∧ WR nw (some (.fresh ((xs.filter p).map g))) S1 Q) X) : WE (.comp nw own tg it c elt) l S Q X := by
  refine we_compCE hc (Po.mono (fun d S1 h => ?_) (fun _ _ h => h) h)
  obtain ⟨xs, f, g, p, h1, h2, h3, h4, h5⟩ := h
  refine ⟨_, fun k acc S' => S1 = S' ∧ acc = ((xs.take k).filter p).map g, h1, by rw [List.length_map]; exact h2, ⟨rfl, by simp⟩, fun k acc S' z => by rw [← z.1]; exact h3, fun k t acc S' hk z => ?_, fun acc S' z => ?_⟩
  · obtain ⟨rfl, rfl⟩ := z
    rw [List.getElem?_map] at hk
    cases hx : xs[k]? with
    | none => rw [hx] at hk; cases hk
    | some x =>
      rw [hx] at hk
      cases hk
      obtain ⟨l1, e1, w⟩ := h4 x (List.mem_of_getElem? hx)
      refine ⟨l1, e1, Po.mono (fun v S2 z => ?_) (fun _ _ h => h) w⟩
      obtain ⟨rfl, rfl, z⟩ := z
      refine ⟨_, rfl, fun hp => ?_, fun hp => ?_⟩
      · refine Po.mono (fun v S3 z => ?_) (fun _ _ h => h) (z hp)
        dsimp only
        rw [List.take_add_one, hx, List.filter_append]
        exact ⟨z.2.symm, by simp [z.1, hp]⟩
      · dsimp only
        rw [List.take_add_one, hx, List.filter_append]
        exact ⟨rfl, by simp [hp]⟩
  · obtain ⟨rfl, rfl⟩ := z
    rw [List.length_map, List.take_length]
    exact h5
end
theorem br_rT {A B : Prop} {b : Bool} (e : b = true) (a : A) : ∃ c, T.bl b = .bl c ∧ (c = true → A) ∧ (c = false → B) := ⟨b, rfl, (fun _ => a), (fun z => by rw [e] at z; cases z)⟩
theorem br_rF {A B : Prop} {b : Bool} (e : b = false) (h : B) : ∃ c, T.bl b = .bl c ∧ (c = true → A) ∧ (c = false → B) := ⟨b, rfl, (fun z => by rw [e] at z; cases z), (fun _ => h)⟩
theorem we_dnewKf {l : Lo} {S : Sto} {Q : T → Sto → Prop} {X : Exn → Sto → Prop} (h : Q (.dK []) S) : WE (.dnew false false) l S Q X := we_dnewK (by rw [if_neg (by decide)]; exact h)
theorem ix_rfl {a b t : T} {S : Sto} {P : T → Prop} (e : idxF a b S = some t) (p : P t) : ∃ t, idxF a b S = some t ∧ P t := ⟨t, e, p⟩
theorem is_rflT {a b : T} {S : Sto} {P : Bool → Prop} (e : cmpB .Is a b S = some true) (p : P true) : ∃ c, cmpB .Is a b S = some c ∧ P c := ⟨_, e, p⟩
theorem is_rflF {a b : T} {S : Sto} {P : Bool → Prop} (e : cmpB .Is a b S = some false) (p : P false) : ∃ c, cmpB .Is a b S = some c ∧ P c := ⟨_, e, p⟩
theorem isn_rflT {a b : T} {S : Sto} {P : Bool → Prop} (e : cmpB .IsNot a b S = some true) (p : P true) : ∃ c, cmpB .IsNot a b S = some c ∧ P c := ⟨_, e, p⟩
theorem isn_rflF {a b : T} {S : Sto} {P : Bool → Prop} (e : cmpB .IsNot a b S = some false) (p : P false) : ∃ c, cmpB .IsNot a b S = some c ∧ P c := ⟨_, e, p⟩
theorem isi_rflT {a : T} {ty : String} {S : Sto} {P : Bool → Prop} (e : isiF ty a S = some true) (p : P true) : ∃ c, isiF ty a S = some c ∧ P c := ⟨_, e, p⟩
theorem isi_rflF {a : T} {ty : String} {S : Sto} {P : Bool → Prop} (e : isiF ty a S = some false) (p : P false) : ∃ c, isiF ty a S = some c ∧ P c := ⟨_, e, p⟩
section
variable {l : Lo} {S : Sto} {Q Q' : T → Sto → Prop} {X X' : Exn → Sto → Prop}
def strK (t : T) (S : Sto) (k : Str → Sto → RE) : RE := match t with
  | .str z => k z S
  | _ => none
theorem str_app (f : SE) (g : Str → SE) : strE f g l S = bnd (f l S) fun t S1 => strK t S1 fun z S1 => g z l S1 := by
  unfold strE
  rw [bind_app]
  congr 1; funext t S1
  cases t <;> rfl
theorem po_str {f : SE} {g : Str → SE} (h : Po (fun t S1 => ∃ z, t = .str z ∧ Po Q X (g z l S1)) X (f l S)) : Po Q X (strE f g l S) := by
  rw [str_app]
  refine po_bnd (h.mono (fun t S1 h => ?_) fun _ _ h => h)
  obtain ⟨z, rfl, q⟩ := h
  exact q
theorem ev_sseq (a : E) : ev (.sseq a) l S = strE (ev a) (fun z => if z.length ≤ LIM then retE (.tup [.non, .lst (chT z)]) else noneE) l S := by simp only [ev]
theorem ev_join (o a : E) : ev (.join o a) l S = strE (ev o) (fun z => bindE (ev a) fun y => fun l S => strO (joinF z y S) l S) l S := by simp only [ev]
theorem ev_split (o a : E) : ev (.split o a) l S = strE (ev o) (fun z => strE (ev a) fun b => if (b.length == 0) = false ∧ z.length ≤ LIM then retE (.lst ((Txt.split z b).map .str)) else noneE) l S := by simp only [ev]
theorem ev_upp (o : E) : ev (.upp o) l S = strE (ev o) (fun z => if z.length ≤ LIM then retE (.str (Txt.upper z)) else noneE) l S := by simp only [ev]
theorem we_sseq {a : E} (h : WE a l S (fun x S1 => ∃ z, x = .str z ∧ z.length ≤ LIM ∧ Q (.tup [.non, .lst (chT z)]) S1) X) : WE (.sseq a) l S Q X := by
  unfold WE; rw [ev_sseq]
  refine po_str (Po.mono (fun t S1 h => ?_) (fun _ _ h => h) h)
  obtain ⟨z, rfl, hl, q⟩ := h
  refine ⟨z, rfl, ?_⟩
  rw [if_pos hl]
  exact ⟨q⟩
theorem we_join {o a : E} (h : WE o l S (fun x S1 => ∃ z, x = .str z ∧ WE a l S1 (fun y S2 => ∃ w, joinF z y S2 = some w ∧ Q (.str w) S2) X) X) : WE (.join o a) l S Q X := by
  unfold WE; rw [ev_join]
  refine po_str (Po.mono (fun t S1 h => ?_) (fun _ _ h => h) h)
  obtain ⟨z, rfl, h⟩ := h
  refine ⟨z, rfl, ?_⟩
  rw [bind_app]
  refine po_bnd (Po.mono (fun y S2 h => ?_) (fun _ _ h => h) h)
  obtain ⟨w, e, q⟩ := h
  rw [e]
  exact ⟨q⟩
theorem we_split {o a : E} (h : WE o l S (fun x S1 => ∃ z, x = .str z ∧ WE a l S1 (fun y S2 => ∃ b, y = .str b ∧ ((b.length == 0) = false ∧ z.length ≤ LIM) ∧ Q (.lst ((Txt.split z b).map .str)) S2) X) X) : WE (.split o a) l S Q X := by
  unfold WE; rw [ev_split]
  refine po_str (Po.mono (fun t S1 h => ?_) (fun _ _ h => h) h)
  obtain ⟨z, rfl, h⟩ := h
  refine ⟨z, rfl, po_str (Po.mono (fun y S2 h => ?_) (fun _ _ h => h) h)⟩
  obtain ⟨b, rfl, g, q⟩ := h
  refine ⟨b, rfl, ?_⟩
  rw [if_pos g]
  exact ⟨q⟩
theorem we_upp {o : E} (h : WE o l S (fun x S1 => ∃ z, x = .str z ∧ z.length ≤ LIM ∧ Q (.str (Txt.upper z)) S1) X) : WE (.upp o) l S Q X := by
  unfold WE; rw [ev_upp]
  refine po_str (Po.mono (fun t S1 h => ?_) (fun _ _ h => h) h)
  obtain ⟨z, rfl, hl, q⟩ := h
  refine ⟨z, rfl, ?_⟩
  rw [if_pos hl]
  exact ⟨q⟩
theorem wr_intS {z : Str} {n : Int} (hn : PySem.intText? z = some n) (hl : z.length ≤ 640) (h : Q (.int n) S) : WR false (biF .intS [.str z] S) S Q := by
  have : biF .intS [.str z] S = some (.val (.int n)) := by
    show intSF [.str z] S = _
    unfold intSF
    dsimp only
    rw [hn]
    exact if_pos hl
  rw [this]
  exact wr_val h
theorem wr_sls {z : Str} {a b : Option Int} (hl : z.length ≤ LIM) (h : Q (.str (L2.cutS z a b)) S) : WR false (slF (.str z) a b S) S Q := by
  have : slF (.str z) a b S = some (.val (.str (L2.cutS z a b))) := if_pos hl
  rw [this]
  exact wr_val h
theorem wr_cats {x y : Str} (c : x.length + y.length ≤ LIM) (h : Q (.str (x ++ y)) S) : WR false (binF .Add (.str x) (.str y) S) S Q := by
  have : binF .Add (.str x) (.str y) S = some (.val (.str (x ++ y))) := by
    show addF (.str x) (.str y) S = _
    unfold addF guardR
    exact if_pos (decide_eq_true c)
  rw [this]
  exact wr_val h
end
end TL
namespace H
open PySem PySem.Spec L2 TL
local macro_rules | `(tactic| sizeOf_list_dec) => `(tactic| first
  | with_reducible refine we_var (by with_unfolding_all exact rfl) ?_
  | with_reducible (first
  | refine ws_seq ?_ | refine ws_set ?_ | refine we_int ?_ | refine we_call ?_ | refine wa_cons ?_ | refine wa_nil ?_
  | refine we_bin ?_ | refine we_cmp ?_ | refine we_and ?_ | refine we_or ?_ | refine we_one ?_ | refine we_not ?_ | refine we_neg ?_ | refine we_gc ?_ | refine we_str ?_ | refine we_bl ?_ | refine we_non ?_
  | refine we_idx ?_ | refine we_bi ?_ | refine we_isi ?_ | refine we_meth ?_ | refine we_ite ?_ | refine we_seq ?_ | refine we_rng ?_ | refine we_enum ?_ | refine we_zip ?_
  | refine we_sl ?_ | refine we_rev ?_ | refine wpt_nop ?_ | refine we_tup ?_ | refine we_lst ?_ | refine we_chain ?_ | refine we_inr ?_
  | refine ws_nil ?_ | refine ws_ite ?_ | refine ws_ret ?_ | refine ws_expr ?_ | refine ws_setI ?_ | refine ws_raise ?_ | refine ws_retN ?_ | refine ws_skip ?_ | refine ws_asg ?_ | refine ws_par ?_
  | refine wr_add ?_ | refine wr_sub ?_ | refine wr_abs ?_ | refine wr_max2 ?_ | refine wr_min2 ?_ | refine wr_int ?_ | refine wr_intb ?_ | refine wr_lent ?_ | refine wr_lenl ?_ | refine wr_tupl ?_ | refine wr_tupt ?_ | refine wr_slt ?_ | refine wr_sll ?_ | refine wr_slc ?_ | refine wr_revt ?_ | refine wr_lstl ?_ | refine wr_lstt ?_ | refine wr_new ?_ | refine wr_frz ?_
  | refine ce_lt ?_ | refine ce_le ?_ | refine ce_gt ?_ | refine ce_ge ?_ | refine ce_eq ?_ | refine ce_ne ?_ | refine br_t ?_ | refine br_f ?_ | refine ex_bl ?_ | refine ex_int ?_)
  | ((with_reducible refine wpt_e ?_ ?_); exact rfl)
  | ((with_reducible refine lim_c ?_ ?_); exact rfl)
  | ((with_reducible refine wr_powl ?_ ?_); exact rfl)
  | ((with_reducible refine wr_mull ?_ ?_); exact rfl)
  | ((with_reducible refine wr_fdivl ?_ ?_); exact rfl)
  | ((with_reducible refine wr_modl ?_ ?_); exact rfl))
def B__law_web_of : Sm := (.seq (.asg (.name 2) (.bin false .Add (.int 1) (.call true "_law_draw" F__law_draw (.cons (.var 0) (.cons (.var 1) .nil)))))
  (.seq (.asg (.name 3) (.idx (.lst false (.cons (.int 3) (.cons (.int 8) (.cons (.int 40) (.cons (.bin false .Pow (.int 10) (.int 12)) (.cons (.bin false .Mult (.int 2) (.bin false .Pow (.int 10) (.int 30))) .nil)))))) (.call true "_law_draw" F__law_draw (.cons (.var 0) (.cons (.int 5) .nil)))))
  (.seq (.asg (.name 4) (.bin false .Add (.int 1) (.call true "_law_draw" F__law_draw (.cons (.var 0) (.cons (.int 4) .nil)))))
  (.seq (.asg (.name 5) (.lst true .nil))
  (.seq (.loop (.name 6) (.rng (.cons (.var 2) .nil)) (.seq (.loop (.name 7) (.rng (.cons (.var 2) .nil)) (.seq (.ite (.and (.cmp .Lt (.call true "_law_draw" F__law_draw (.cons (.var 0) (.cons (.int 6) .nil))) (.var 4)) (.one (.cmp .Lt (.bi false .len (.cons (.var 5) .nil)) (.int 14)))) (.seq (.expr (.meth .append (.var 5) (.cons (.tup (.cons (.var 6) (.cons (.var 7) (.cons (.bin false .Sub (.call true "_law_draw" F__law_draw (.cons (.var 0) (.cons (.var 3) .nil))) (.bin false .FloorDiv (.var 3) (.int 2))) .nil)))) .nil)))
  .nil) .nil)
  .nil))
  .nil))
  (.seq (.ret (.tup (.cons (.var 2) (.cons (.bi false .tuple (.cons (.var 5) .nil)) .nil))))
  .nil))))))
def F__law_web_of : FnS := fnS 8 B__law_web_of
def IsPen (p : Ob) : Prop := ∃ a b c, p = pen a b c
theorem draw_wf {S : Sto} {i : Nat} {p : Ob} {m : Int} {Q : T → Sto → Prop} {X : Exn → Sto → Prop} (h : S[i]? = some p) (hp : IsPen p) (hm : 0 < m) (hl : m.natAbs.log2 < 9000) (q : ∀ p' d, IsPen p' → 0 ≤ d → d < m → Q (.int d) (S.set i p')) : Wc true F__law_draw [.ref i, .int m] S Q X := by
  obtain ⟨a, b, c, rfl⟩ := hp
  obtain ⟨a', c', d, e, h0, h1⟩ := draw_ex h hm hl
  exact wf_keep e (q _ d ⟨_, _, _, rfl⟩ h0 h1)
theorem small2 {m : Int} (h : 0 < m) (h2 : m < 2 ^ 200) : m.natAbs.log2 < 9000 := by
  have := log2_lt (n := m.natAbs) (k := 200) (by omega) (by decide)
  omega
theorem rng_ok {n : Int} (h0 : 0 ≤ n) (h1 : n < 2 ^ 60) : rngF [.int n] = some (intRange 0 n) := by
  simp only [rngF, rngBounds]
  rw [if_pos ⟨by omega, by omega, by omega, by omega⟩]
theorem rng_at {n : Int} {k : Nat} {t : T} (h : (intRange 0 n)[k]? = some t) : t = .int k ∧ (k : Int) < n := by
  unfold intRange at h
  rw [List.getElem?_map] at h
  cases e : (List.range (n - 0).toNat)[k]? with
  | none => rw [e] at h; cases h
  | some j =>
    rw [e] at h
    obtain ⟨h1, h2⟩ := List.getElem?_eq_some_iff.mp e
    rw [List.getElem_range] at h2
    subst h2
    rw [List.length_range] at h1
    cases h
    exact ⟨by simp, by omega⟩
abbrev Ar := Int × Int × Int
def arT (x : Ar) : T := .tup [.int x.1, .int x.2.1, .int x.2.2]
def ltA (x y : Ar) : Prop := x.1 < y.1 ∨ (x.1 = y.1 ∧ x.2.1 < y.2.1)
structure WebO (most n : Int) (l : List Ar) : Prop where
  n1 : 1 ≤ n
  n2 : n ≤ most
  len : l.length ≤ 14
  ok : ∀ x ∈ l, 0 ≤ x.1 ∧ x.1 < n ∧ 0 ≤ x.2.1 ∧ x.2.1 < n ∧ -(10 ^ 30) ≤ x.2.2 ∧ x.2.2 ≤ 10 ^ 30
  ord : l.Pairwise ltA
def webT (n : Int) (l : List Ar) : T := .tup [.int n, .tup (l.map arT)]
def S3 (S : Sto) (i : Nat) (p : Ob) (l : List Ar) : Sto := S.set i p ++ [.lst (l.map arT)]
theorem s3_pen {S : Sto} {i : Nat} {p : Ob} {l : List Ar} (h : i < S.length) : (S3 S i p l)[i]? = some p := by
  unfold S3
  rw [List.getElem?_append_left (by simpa using h)]
  exact List.getElem?_set_self h
theorem s3_own {S : Sto} {i : Nat} {p : Ob} {l : List Ar} : (S3 S i p l)[S.length]? = some (.lst (l.map arT)) := by
  unfold S3
  rw [List.getElem?_append_right (by simp)]
  simp
theorem s3_set {S : Sto} {i : Nat} {p q : Ob} {l : List Ar} (h : i < S.length) : (S3 S i p l).set i q = S3 S i q l := by
  unfold S3
  rw [List.set_append_left _ _ (by simpa using h), List.set_set]
theorem s3_push {S : Sto} {i : Nat} {p : Ob} {l : List Ar} {x : Ar} : (S3 S i p l).set S.length (.lst (l.map arT ++ [arT x])) = S3 S i p (l ++ [x]) := by
  unfold S3
  rw [List.set_append_right _ _ (by simp)]
  simp
structure Wo (n : Int) (a b : Int) (l : List Ar) : Prop where
  len : l.length ≤ 14
  ok : ∀ x ∈ l, 0 ≤ x.1 ∧ x.1 < n ∧ 0 ≤ x.2.1 ∧ x.2.1 < n ∧ -(10 ^ 30) ≤ x.2.2 ∧ x.2.2 ≤ 10 ^ 30
  ord : l.Pairwise ltA
  lt : ∀ x ∈ l, x.1 < a ∨ (x.1 = a ∧ x.2.1 < b)
def lo9 (i : Nat) (most n w z : Int) (d : Nat) (x6 x7 : Option T) : Lo := [some (.ref i), some (.int most), some (.int n), some (.int w), some (.int z), some (.ref d), x6, x7]
theorem wo_next {n a b : Int} {l : List Ar} (h : Wo n a b l) : Wo n a (b + 1) l := ⟨h.len, h.ok, h.ord, fun x hx => by have := h.lt x hx; omega⟩
theorem wo_row {n a b : Int} {l : List Ar} (h : Wo n a b l) : Wo n (a + 1) 0 l := ⟨h.len, h.ok, h.ord, fun x hx => by have := h.lt x hx; omega⟩
theorem wo_put {n a b v : Int} {l : List Ar} (h : Wo n a b l) (ha : 0 ≤ a ∧ a < n) (hb : 0 ≤ b ∧ b < n) (hl : l.length < 14) (hv : -(10 ^ 30) ≤ v ∧ v ≤ 10 ^ 30) : Wo n a (b + 1) (l ++ [(a, b, v)]) := by
  refine ⟨by simp; omega, fun x hx => ?_, ?_, fun x hx => ?_⟩
  · rcases List.mem_append.mp hx with hx | hx
    · exact h.ok x hx
    · simp at hx; subst hx; exact ⟨ha.1, ha.2, hb.1, hb.2, hv.1, hv.2⟩
  · rw [List.pairwise_append]
    refine ⟨h.ord, by simp, fun x hx y hy => ?_⟩
    simp at hy
    subst hy
    have := h.lt x hx
    unfold ltA
    dsimp only
    omega
  · rcases List.mem_append.mp hx with hx | hx
    · have := h.lt x hx; omega
    · simp at hx; subst hx; dsimp only; omega
set_option maxHeartbeats 4000000 in
theorem web_of_po {S : Sto} {i : Nat} {p : Ob} {most : Int} (h : S[i]? = some p) (hp : IsPen p) (hm : 0 < most) (hm2 : most ≤ 100) :
    Po (fun t S' => ∃ p' n l, IsPen p' ∧ WebO most n l ∧ t = webT n l ∧ S' = S3 S i p' l) NoX (F__law_web_of [.ref i, .int most] S) := by
  have hi : i < S.length := (List.getElem?_eq_some_iff.mp h).1
  have g : ∀ p', (S.set i p')[i]? = some p' := fun p' => List.getElem?_set_self hi
  refine fn_ws ?_
  unfold B__law_web_of
  repeat' sizeOf_list_dec
  refine draw_wf h hp hm (small2 hm (by omega)) fun p1 d1 hp1 d10 d11 => ?_
  generalize hn : 1 + d1 = n
  have hn1 : 1 ≤ n ∧ n ≤ most := by omega
  repeat' sizeOf_list_dec
  rw [hn]
  refine draw_wf (g p1) hp1 (by decide) (small2 (by decide) (by decide)) fun p2 d2 hp2 d20 d21 => ?_
  rw [List.set_set]
  have hw : ∃ w : Int, idxF (T.lst [T.int 3, T.int 8, T.int 40, T.int (10 ^ Int.toNat 12), T.int (2 * 10 ^ Int.toNat 30)]) (.int d2) (S.set i p2) = some (.int w) ∧ 3 ≤ w ∧ w ≤ 2 * 10 ^ 30 := by
    have : d2 = 0 ∨ d2 = 1 ∨ d2 = 2 ∨ d2 = 3 ∨ d2 = 4 := by omega
    rcases this with rfl | rfl | rfl | rfl | rfl
    · exact ⟨3, rfl, by decide, by decide⟩
    · exact ⟨8, rfl, by decide, by decide⟩
    · exact ⟨40, rfl, by decide, by decide⟩
    · exact ⟨10 ^ 12, rfl, by decide, by decide⟩
    · exact ⟨2 * 10 ^ 30, rfl, by decide, by decide⟩
  obtain ⟨w, ew, w3, w4⟩ := hw
  refine ⟨_, ew, ?_⟩
  repeat' sizeOf_list_dec
  refine draw_wf (g p2) hp2 (by decide) (small2 (by decide) (by decide)) fun p3 d3 hp3 d30 d31 => ?_
  rw [List.set_set]
  repeat' sizeOf_list_dec
  generalize hz : 1 + d3 = z
  refine ws_loop (fun k l S' => ∃ p' ar x6 x7, IsPen p' ∧ Wo n k 0 ar ∧ l = lo9 i most n w z S.length x6 x7 ∧ S' = S3 S i p' ar) ?_
  repeat' sizeOf_list_dec
  refine ⟨_, rng_ok (n := n) (by omega) (by omega), _, rfl, ⟨p3, [], none, none, hp3, ⟨by simp, by simp, by simp, by simp⟩, by subst hn hz; simp [lo9, List.length_set], by simp [S3]⟩, fun _ _ _ _ => rfl, ?_, ?_⟩
  · rintro k t l S' hk ⟨p', ar, x6, x7, hp', wo, rfl, rfl⟩
    obtain ⟨rfl, hkn⟩ := rng_at hk
    refine ⟨_, rfl, ?_⟩
    repeat' sizeOf_list_dec
    refine ws_loop (fun j l S' => ∃ p' ar x7, IsPen p' ∧ Wo n k j ar ∧ l = lo9 i most n w z S.length (some (.int k)) x7 ∧ S' = S3 S i p' ar) ?_
    repeat' sizeOf_list_dec
    refine ⟨_, rng_ok (n := n) (by omega) (by omega), _, rfl, ⟨p', ar, x7, hp', wo, rfl, rfl⟩, fun _ _ _ _ => rfl, ?_, ?_⟩
    · rintro j t l S' hj ⟨p', ar, x7, hp', wo, rfl, rfl⟩
      obtain ⟨rfl, hjn⟩ := rng_at hj
      refine ⟨_, rfl, ?_⟩
      repeat' sizeOf_list_dec
      refine draw_wf (s3_pen hi) hp' (by decide) (small2 (by decide) (by decide)) fun p4 d4 hp4 d40 d41 => ?_
      rw [s3_set hi]
      repeat' sizeOf_list_dec
      
      refine br_d (fun h1 => ?_) (fun h1 => ?_)
      · repeat' sizeOf_list_dec
        refine wr_lenr s3_own ?_
        rw [List.length_map]
        repeat' sizeOf_list_dec
        
        
        refine br_d (fun h2 => ?_) (fun h2 => ?_)
        · repeat' sizeOf_list_dec
          refine ⟨by simp only [mtTy, s3_own], ?_⟩
          repeat' sizeOf_list_dec
          refine draw_wf (s3_pen hi) hp4 (by omega) (small2 (by omega) (by omega)) fun p5 d5 hp5 d50 d51 => ?_
          rw [s3_set hi]
          repeat' sizeOf_list_dec
          have hl : (ar.map arT).length < LIM := by rw [List.length_map]; unfold LIM; omega
          have hap : mtF .append (.ref S.length) [.tup [.int k, .int j, .int (d5 - w / 2)]] (S3 S i p5 ar) = some (.non, S3 S i p5 (ar ++ [((k : Int), (j : Int), d5 - w / 2)])) := by
            simp only [mtF, s3_own, hl, if_true]
            rw [← s3_push]
            rfl
          refine ⟨_, _, hap, ?_⟩
          repeat' sizeOf_list_dec
          refine ⟨p5, _, _, hp5, wo_put wo (by omega) (by omega) (by omega) (by omega), rfl, rfl⟩
        · repeat' sizeOf_list_dec
          exact ⟨p4, ar, _, hp4, wo_next wo, rfl, rfl⟩
      · repeat' sizeOf_list_dec
        exact ⟨p4, ar, _, hp4, wo_next wo, rfl, rfl⟩
    · rintro l S' ⟨p', ar, x7, hp', wo, rfl, rfl⟩
      repeat' sizeOf_list_dec
      exact ⟨p', ar, _, x7, hp', wo_row wo, rfl, rfl⟩
  · rintro l S' ⟨p', ar, x6, x7, hp', wo, rfl, rfl⟩
    repeat' sizeOf_list_dec
    refine wr_tupr s3_own ?_
    repeat' sizeOf_list_dec
    · exact ⟨p', n, ar, hp', ⟨hn1.1, hn1.2, wo.len, wo.ok, wo.ord⟩, rfl, rfl⟩
def Pens (S : Sto) : Prop := ∀ o ∈ S, IsPen o
theorem pens_nil : Pens [] := fun o h => by cases h
theorem pens_put {S : Sto} {i : Nat} {p : Ob} (h : Pens S) (hp : IsPen p) : Pens (S.set i p) := fun o ho => by
  rcases List.mem_or_eq_of_mem_set ho with h1 | h1
  · exact h o h1
  · rw [h1]; exact hp
theorem pens_add {S : Sto} {p : Ob} (h : Pens S) (hp : IsPen p) : Pens (S ++ [p]) := fun o ho => by
  rcases List.mem_append.mp ho with h1 | h1
  · exact h o h1
  · simp at h1; rw [h1]; exact hp
theorem pens_und {S : Sto} (h : Pens S) (n : Nat) : S.all (Ob.und n) = true := by
  rw [List.all_eq_true]
  intro o ho
  obtain ⟨a, b, c, rfl⟩ := h o ho
  rfl
mutual
def noRef : T → Bool
  | .tup xs => noRefs xs
  | .lst xs => noRefs xs
  | .dK _ => false
  | .dT _ => false
  | .ref _ => false
  | .scr _ => false
  | .fn _ => false
  | _ => true
def noRefs : List T → Bool
  | [] => true
  | t :: r => noRef t && noRefs r
end
mutual
theorem frz_pl (lo : Nat) (f : Nat → Option T) : ∀ t : T, noRef t = true → T.frzW lo f t = some t
  | .non, _ | .bl _, _ | .int _, _ | .str _, _ => by simp [T.frzW]
  | .tup xs, h => by
    have := frzs_pl lo f xs (by simpa [noRef] using h)
    simp [T.frzW, this]
  | .lst xs, h => by
    have := frzs_pl lo f xs (by simpa [noRef] using h)
    simp [T.frzW, this]
  | .dK kvs, h => by cases h
  | .dT kvs, h => by cases h
  | .ref _, h => by cases h
  | .scr _, h => by cases h
  | .fn _, h => by cases h
theorem frzs_pl (lo : Nat) (f : Nat → Option T) : ∀ ts : List T, noRefs ts = true → T.frzWs lo f ts = some ts
  | [], _ => by simp [T.frzWs]
  | t :: ts, h => by
    simp only [noRefs, Bool.and_eq_true] at h
    have h1 := frz_pl lo f t h.1
    have h2 := frzs_pl lo f ts h.2
    simp [T.frzWs, h1, h2]
end
theorem wf_frzP {F : FnS} {ts : List T} {S : Sto} {Q : T → Sto → Prop} {X : Exn → Sto → Prop} (h : Po (fun t S' => noRef t = true ∧ Pens (S'.take S.length) ∧ Q t (S'.take S.length)) NoX (F ts S)) : Wc false F ts S Q X := by
  cases e : F ts S with
  | none => rw [e] at h; exact h.g.elim
  | some r =>
    obtain ⟨r, S'⟩ := r
    rw [e] at h
    cases r with
    | err x => exact h.g.elim
    | ok t =>
      obtain ⟨h1, h2, q⟩ := h
      refine wf_frz (t := t) (S' := S'.take S.length) ?_ q
      rw [e]
      simp only [frzR, pens_und h2, if_true]
      rw [frz_pl _ _ _ h1]
      rfl
theorem noRefs_map {α : Type} (f : α → T) (h : ∀ x, noRef (f x) = true) : ∀ l : List α, noRefs (l.map f) = true
  | [] => rfl
  | x :: l => by simp [noRefs, h x, noRefs_map f h l]
theorem noRef_web (n : Int) (l : List Ar) : noRef (webT n l) = true := by
  simp [webT, noRef, noRefs, noRefs_map arT (fun x => rfl) l]
theorem s3_take {S : Sto} {i : Nat} {p : Ob} {l : List Ar} : (S3 S i p l).take S.length = S.set i p := by
  unfold S3
  rw [List.take_append_of_le_length (by simp), List.take_of_length_le (by simp)]
theorem web_of_wf {S : Sto} {i : Nat} {p : Ob} {most : Int} {Q : T → Sto → Prop} {X : Exn → Sto → Prop} (hS : Pens S) (h : S[i]? = some p) (hm : 0 < most) (hm2 : most ≤ 100) (q : ∀ p' n l, IsPen p' → WebO most n l → Q (webT n l) (S.set i p')) :
    Wc false F__law_web_of [.ref i, .int most] S Q X := by
  refine wf_frzP (Po.mono (fun t S' z => ?_) (fun _ _ h => h) (web_of_po h (hS p (List.mem_of_getElem? h)) hm hm2))
  obtain ⟨p', n, l, hp', w, rfl, rfl⟩ := z
  rw [s3_take]
  exact ⟨noRef_web n l, pens_put hS hp', q p' n l hp' w⟩
theorem pen_of_wf {S : Sto} {x : Int} {Q : T → Sto → Prop} {X : Exn → Sto → Prop} (q : ∀ p, IsPen p → Q (.ref S.length) (S ++ [p])) : Wc true F__law_pen_of [.int x] S Q X := by
  obtain ⟨a, b, c, e⟩ := pen_of_ex x S
  exact wf_keep e (q _ ⟨_, _, _, rfl⟩)
mutual
def dat : T → PyData
  | .non => .none
  | .bl b => .bool b
  | .int i => .int i
  | .str s => .str s
  | .tup xs => .tuple (dats xs)
  | .lst xs => .list (dats xs)
  | _ => .none
def dats : List T → List PyData
  | [] => []
  | t :: r => dat t :: dats r
end
mutual
theorem toD_dat (f : Nat → Option PyData) : ∀ t : T, noRef t = true → T.toD f t = some (dat t)
  | .non, _ | .bl _, _ | .int _, _ | .str _, _ => by simp [T.toD, dat]
  | .tup xs, h => by
    have := toDs_dat f xs (by simpa [noRef] using h)
    simp [T.toD, this, dat]
  | .lst xs, h => by
    have := toDs_dat f xs (by simpa [noRef] using h)
    simp [T.toD, this, dat]
  | .dK _, h | .dT _, h | .ref _, h | .scr _, h | .fn _, h => by cases h
theorem toDs_dat (f : Nat → Option PyData) : ∀ ts : List T, noRefs ts = true → T.toDs f ts = some (dats ts)
  | [], _ => by simp [T.toDs, dats]
  | t :: ts, h => by
    simp only [noRefs, Bool.and_eq_true] at h
    have h1 := toD_dat f t h.1
    have h2 := toDs_dat f ts h.2
    simp [T.toDs, h1, h2, dats]
end
mutual
theorem dat_refl : ∀ t : T, PyData.eqv (dat t) (dat t) = true
  | .non | .bl _ | .int _ | .str _ | .dK _ | .dT _ | .ref _ | .scr _ | .fn _ => by simp [dat, PyData.eqv]
  | .tup xs => by simp [dat, PyData.eqv, dats_refl xs]
  | .lst xs => by simp [dat, PyData.eqv, dats_refl xs]
theorem dats_refl : ∀ ts : List T, PyData.eqvAll (dats ts) (dats ts) = true
  | [] => by simp [dats, PyData.eqvAll]
  | t :: ts => by simp [dats, PyData.eqvAll, dat_refl t, dats_refl ts]
end
theorem eqD_dat {a b : T} (S : Sto) (ha : noRef a = true) (hb : noRef b = true) (hd : min (dat a).depth (dat b).depth ≤ 60) : eqD a b S = some (PyData.eqv (dat a) (dat b)) := by
  simp [eqD, Sto.toD, toD_dat _ a ha, toD_dat _ b hb, hd]
theorem ce_refl {a : T} {S : Sto} {P : Bool → Prop} (ha : noRef a = true) (hd : (dat a).depth ≤ 60) (h : P true) : ∃ c, cmpB .Eq a a S = some c ∧ P c := by
  refine ⟨true, ?_, h⟩
  show eqD a a S = _
  rw [eqD_dat S ha ha (by omega), dat_refl]
theorem cn_refl {a : T} {S : Sto} {P : Bool → Prop} (ha : noRef a = true) (hd : (dat a).depth ≤ 60) (h : P false) : ∃ c, cmpB .NotEq a a S = some c ∧ P c := by
  refine ⟨false, ?_, h⟩
  show (eqD a a S).map _ = _
  rw [eqD_dat S ha ha (by omega), dat_refl]
  rfl
theorem depth_map {α : Type} (f : α → T) (k : Nat) (h : ∀ x, (dat (f x)).depth ≤ k) : ∀ l : List α, PyData.depthAll (dats (l.map f)) ≤ k
  | [] => by simp [dats, PyData.depthAll]
  | x :: l => by
    have := depth_map f k h l
    have := h x
    simp only [List.map_cons, dats, PyData.depthAll]
    omega
theorem lawW_wf {t : T} {S : Sto} {Q : T → Sto → Prop} {X : Exn → Sto → Prop} (h : pl t = true) (q : Q (.bl (isW t)) S) : Wc true F__law_whole [t] S Q X := wf_keep (law_whole_eq t S h) q
def ob : Option Int → T
  | none => .non
  | some i => .int i
abbrev Rw := List (Option Int)
def entB : T → Bool
  | .non => true
  | .int _ => true
  | _ => false
def rowB (n : Int) : T → Bool
  | .tup xs => decide ((xs.length : Int) = n) && xs.all entB
  | _ => false
def gt (r : Rw) (k : Int) : Option Int := r.getD k.toNat none
mutual
theorem und_mono {lo hi : Nat} (h : lo ≤ hi) : ∀ t : T, T.und lo t = true → T.und hi t = true
  | .non, _ | .bl _, _ | .int _, _ | .str _, _ | .scr _, _ | .fn _, _ => rfl
  | .tup xs, e => by simpa [T.und] using unds_mono h xs (by simpa [T.und] using e)
  | .lst xs, e => by simpa [T.und] using unds_mono h xs (by simpa [T.und] using e)
  | .dK xs, e => by simpa [T.und] using undK_mono h xs (by simpa [T.und] using e)
  | .dT xs, e => by simpa [T.und] using undT_mono h xs (by simpa [T.und] using e)
  | .ref i, e => by simp [T.und] at e ⊢; omega
theorem unds_mono {lo hi : Nat} (h : lo ≤ hi) : ∀ ts : List T, T.unds lo ts = true → T.unds hi ts = true
  | [], _ => rfl
  | t :: ts, e => by
    simp only [T.unds, Bool.and_eq_true] at e ⊢
    exact ⟨und_mono h t e.1, unds_mono h ts e.2⟩
theorem undK_mono {lo hi : Nat} (h : lo ≤ hi) : ∀ ts : List (L2.Key × T), T.undK lo ts = true → T.undK hi ts = true
  | [], _ => rfl
  | (_, t) :: ts, e => by
    simp only [T.undK, Bool.and_eq_true] at e ⊢
    exact ⟨und_mono h t e.1, undK_mono h ts e.2⟩
theorem undT_mono {lo hi : Nat} (h : lo ≤ hi) : ∀ ts : List (List L2.Key × T), T.undT lo ts = true → T.undT hi ts = true
  | [], _ => rfl
  | (_, t) :: ts, e => by
    simp only [T.undT, Bool.and_eq_true] at e ⊢
    exact ⟨und_mono h t e.1, undT_mono h ts e.2⟩
end
theorem ob_mono {lo hi : Nat} (h : lo ≤ hi) {o : Ob} (e : Ob.und lo o = true) : Ob.und hi o = true := by
  cases o with
  | lst xs => exact unds_mono h xs e
  | dK xs => exact undK_mono h xs e
  | dT xs => exact undT_mono h xs e
def Cl (S : Sto) : Prop := S.all (Ob.und S.length) = true
theorem cl_pens {S : Sto} (h : Pens S) : Cl S := pens_und h _
theorem cl_app {S : Sto} {o : Ob} (h : Cl S) (hx : Ob.und (S.length + 1) o = true) : Cl (S ++ [o]) := by
  unfold Cl at h ⊢
  rw [List.all_append, Bool.and_eq_true]
  rw [List.all_eq_true] at h ⊢
  refine ⟨fun o ho => ob_mono (by simp) (h o ho), ?_⟩
  simpa using hx
theorem cl_und {S : Sto} (h : Cl S) {n : Nat} (hn : S.length ≤ n) : S.all (Ob.und n) = true := by
  unfold Cl at h
  rw [List.all_eq_true] at h ⊢
  exact fun o ho => ob_mono hn (h o ho)
theorem wf_frzC {F : FnS} {ts : List T} {S : Sto} {Q : T → Sto → Prop} {X : Exn → Sto → Prop} (h : Po (fun t S' => noRef t = true ∧ Cl (S'.take S.length) ∧ Q t (S'.take S.length)) NoX (F ts S)) : Wc false F ts S Q X := by
  cases e : F ts S with
  | none => rw [e] at h; exact h.g.elim
  | some r =>
    obtain ⟨r, S'⟩ := r
    rw [e] at h
    cases r with
    | err x => exact h.g.elim
    | ok t =>
      obtain ⟨h1, h2, q⟩ := h
      refine wf_frz (t := t) (S' := S'.take S.length) ?_ q
      rw [e]
      have h3 := cl_und h2 (n := S.length) (by rw [List.length_take]; omega)
      simp only [frzR, h3, if_true]
      rw [frz_pl _ _ _ h1]
      rfl
theorem wf_frzL {F : FnS} {ts : List T} {S : Sto} {Q : T → Sto → Prop} {X : Exn → Sto → Prop} (h : Po (fun t S' => ∃ k xs, t = .ref k ∧ S.length ≤ k ∧ S'[k]? = some (.lst xs) ∧ noRefs xs = true ∧ Cl (S'.take S.length) ∧ Q (.lst xs) (S'.take S.length)) NoX (F ts S)) : Wc false F ts S Q X := by
  cases e : F ts S with
  | none => rw [e] at h; exact h.g.elim
  | some r =>
    obtain ⟨r, S'⟩ := r
    rw [e] at h
    cases r with
    | err x => exact h.g.elim
    | ok t =>
      obtain ⟨k, xs, rfl, hk, ek, hx, h2, q⟩ := h
      refine wf_frz (t := .lst xs) (S' := S'.take S.length) ?_ q
      rw [e]
      have h3 := cl_und h2 (n := S.length) (by rw [List.length_take]; omega)
      simp only [frzR, h3, if_true, T.frzW]
      rw [if_neg (by omega)]
      simp only [Sto.frzI, ek, frzs_pl _ _ xs hx, Option.map_some]
theorem own_at (S : Sto) (o : Ob) : (S ++ [o])[S.length]? = some o := by simp
theorem own_set (S : Sto) (o p : Ob) : (S ++ [o]).set S.length p = S ++ [p] := by
  rw [List.set_append_right _ _ (by simp)]
  simp
structure WebU (U n : Int) (l : List Ar) : Prop where
  n1 : 1 ≤ n
  n2 : n ≤ 100
  len : l.length ≤ 100
  ok : ∀ x ∈ l, 0 ≤ x.1 ∧ x.1 < n ∧ 0 ≤ x.2.1 ∧ x.2.1 < n ∧ -U ≤ x.2.2 ∧ x.2.2 ≤ U
  ord : l.Pairwise ltA
abbrev WebG (n : Int) (l : List Ar) : Prop := WebU (10 ^ 30) n l
theorem WebO.g {most n : Int} {l : List Ar} (w : WebO most n l) (hm : most ≤ 100) : WebG n l where
  n1 := w.n1
  n2 := by have := w.n2; omega
  len := by have := w.len; omega
  ok := w.ok
  ord := w.ord
def upd (r s : Rw) (x : Ar) : Rw := match gt r x.1 with
  | none => s
  | some i => match gt s x.2.1 with
    | none => s.set x.2.1.toNat (some (i + x.2.2))
    | some j => if i + x.2.2 < j then s.set x.2.1.toNat (some (i + x.2.2)) else s
def led (n : Int) (ar : List Ar) (r : Rw) : Rw := ar.foldl (upd r) (List.replicate n.toNat none)
def r0k (k : Nat) (place : Int) : Rw := (List.range k).map fun (j : Nat) => if (j : Int) = place then some 0 else none
def r0 (n place : Int) : Rw := r0k n.toNat place
def ledN (n : Int) (ar : List Ar) (r : Rw) : Nat → Rw
  | 0 => r
  | k + 1 => led n ar (ledN n ar r k)
def rowsF (n : Int) (ar : List Ar) (r : Rw) (k : Nat) : List Rw := (List.range (k + 1)).map (ledN n ar r)
theorem rowsF_length (n : Int) (ar : List Ar) (r : Rw) (k : Nat) : (rowsF n ar r k).length = k + 1 := by simp [rowsF]
theorem rowsF_at {n : Int} {ar : List Ar} {r : Rw} {k j : Nat} (h : j ≤ k) : (rowsF n ar r k)[j]? = some (ledN n ar r j) := by
  unfold rowsF
  rw [List.getElem?_map, List.getElem?_range (by omega)]
  rfl
def en (B : List Rw) (k p : Nat) : Option Int := (B.getD k []).getD p none
def cell (B : List Rw) (r : Rw) (p k : Nat) : Option Int := match r.getD k none, en B k p with
  | some a, some b => some (a + b)
  | _, _ => none
def TabV (S : Sto) (t : T) (vs : List T) : Prop := t = .lst vs ∨ ∃ j, t = .ref j ∧ S[j]? = some (.lst vs)
def neK (x y : Ar) : Prop := ¬(x.1 = y.1 ∧ x.2.1 = y.2.1)
def KD (d : List Ar) : Prop := d.Pairwise neK
def isK (a b : Int) (x : Ar) : Bool := decide (x.1 = a ∧ x.2.1 = b)
def wo (ar : List Ar) (a b : Int) : Option Int := (ar.find? (isK a b)).map (·.2.2)
theorem wo_of {ar : List Ar} (hk : KD ar) {a b w : Int} (h : (a, b, w) ∈ ar) : wo ar a b = some w := by
  unfold wo
  induction ar with
  | nil => cases h
  | cons x ar ih =>
    obtain ⟨h1, h2⟩ := List.pairwise_cons.mp hk
    rw [List.find?_cons]
    rcases List.mem_cons.mp h with rfl | h'
    · simp [isK]
    · have : isK a b x = false := decide_eq_false (h1 _ h')
      rw [this]
      exact ih h2 h'
theorem kd_ord {ar : List Ar} (h : ar.Pairwise ltA) : KD ar := h.imp fun {x y} h z => by
  unfold ltA at h
  omega
theorem ce_pair {a b c d : Int} {S : Sto} {P : Bool → Prop} (p : P (decide (a = c ∧ b = d))) : ∃ e, cmpB .Eq (.tup [.int a, .int b]) (.tup [.int c, .int d]) S = some e ∧ P e := by
  refine ⟨_, ?_, p⟩
  have e0 : cmpB .Eq (.tup [.int a, .int b]) (.tup [.int c, .int d]) S = eqD (.tup [.int a, .int b]) (.tup [.int c, .int d]) S := by unfold cmpB; rfl
  rw [e0, eqD_dat S rfl rfl (by simp [dat, dats, PyData.depth, PyData.depthAll])]
  simp [dat, dats, PyData.eqv, PyData.eqvAll]
  by_cases h1 : a = c <;> by_cases h2 : b = d <;> simp [h1, h2]
def non (ar : List Ar) : List Ar := ar.filter fun x => !decide (x.1 = x.2.1)
theorem rng2_ok {lo hi : Int} (h0 : -(2 ^ 60) ≤ lo) (h1 : lo < 2 ^ 60) (h2 : -(2 ^ 60) ≤ hi) (h3 : hi < 2 ^ 60) : rngF [.int lo, .int hi] = some (intRange lo hi) := by
  simp only [rngF, rngBounds]
  rw [if_pos ⟨by omega, by omega, by omega, by omega⟩]
theorem rng2_at {lo hi : Int} {k : Nat} {t : T} (h : (intRange lo hi)[k]? = some t) : t = .int (lo + k) ∧ lo + (k : Int) < hi := by
  unfold intRange at h
  rw [List.getElem?_map] at h
  cases e : (List.range (hi - lo).toNat)[k]? with
  | none => rw [e] at h; cases h
  | some j =>
    rw [e] at h
    have hl := (List.getElem?_eq_some_iff.mp e).1
    rw [List.length_range] at hl
    rw [List.getElem?_range hl] at e
    cases e
    cases h
    exact ⟨rfl, by omega⟩
def Sb (k : Nat) (i : Int) : Prop := i.natAbs < 2 ^ k
theorem sb_mono {a b : Nat} {i : Int} (h : a ≤ b) (hi : Sb a i) : Sb b i := Nat.lt_of_lt_of_le hi (Nat.pow_le_pow_right (by decide) h)
theorem sb_le {a : Nat} {i j : Int} (hj : Sb a j) (h : i.natAbs ≤ j.natAbs) : Sb a i := Nat.lt_of_le_of_lt h hj
def gd (a b : Int) : Int := (Int.gcd a b : Int)
theorem gd_pos {a b : Int} (h : b ≠ 0) : 0 < gd a b := by
  unfold gd
  have := Int.gcd_pos_of_ne_zero_right a h
  omega
def ab (i : Int) : Int := if i < 0 then -i else i
def frP (t b : Int) : Int × Int := (t / gd t b, b / gd t b)
def fracT (p : Int × Int) : T := .tup [.int p.1, .int p.2]
def Fr (p : Int × Int) : Prop := 0 < p.2 ∧ gd p.1 p.2 = 1
theorem gd_dvd_l (a b : Int) : gd a b ∣ a := Int.gcd_dvd_left ..
theorem gd_dvd_r (a b : Int) : gd a b ∣ b := Int.gcd_dvd_right ..
theorem frP_fr {t b : Int} (hb : 0 < b) : Fr (frP t b) := by
  have hg := gd_pos (a := t) (show b ≠ 0 by omega)
  obtain ⟨x, hx⟩ := gd_dvd_l t b
  obtain ⟨y, hy⟩ := gd_dvd_r t b
  refine ⟨?_, ?_⟩
  · show 0 < b / gd t b
    exact Int.ediv_pos_of_pos_of_dvd hb (by omega) (gd_dvd_r t b)
  · show gd (t / gd t b) (b / gd t b) = 1
    have : Int.gcd (t / (Int.gcd t b : Int)) (b / (Int.gcd t b : Int)) = 1 := by
      have := Int.gcd_ediv_gcd_ediv_gcd (i := t) (j := b) (by unfold gd at hg; omega)
      exact this
    unfold gd at *
    rw [this]
    rfl
theorem frP_sb {k : Nat} {t b : Int} (st : Sb k t) (sb : Sb k b) (hb : 0 < b) : Sb k (frP t b).1 ∧ Sb k (frP t b).2 :=
  ⟨sb_le st (Int.natAbs_ediv_le_natAbs t _), sb_le sb (Int.natAbs_ediv_le_natAbs b _)⟩
def isF : T → Bool
  | .tup [.int a, .int b] => decide (0 < b) && decide (gd a b = 1)
  | _ => false
def Ent (k : Nat) (t : T) : Prop := noRef t = true ∧ ∀ a b, t = .tup [.int a, .int b] → Sb k a ∧ Sb k b
theorem isF_of {t : T} (h : isF t = true) : ∃ p, t = fracT p ∧ Fr p := by
  unfold isF at h
  split at h
  · rename_i a b
    simp only [Bool.and_eq_true, decide_eq_true_eq] at h
    exact ⟨(a, b), rfl, h⟩
  · cases h
def Sp (k : Nat) (p : Int × Int) : Prop := Sb k p.1 ∧ Sb k p.2
def numB (n : Int) : T → Bool
  | .tup xs => decide ((xs.length : Int) = n) && xs.all isF
  | _ => false
def Nm (k : Nat) (t : T) : Prop := (noRef t = true ∨ t = .dK []) ∧ ∀ xs, t = .tup xs → xs.length ≤ 900 ∧ ∀ x ∈ xs, Ent k x
theorem numB_of {k : Nat} {n : Int} {t : T} (hn : Nm k t) (h : numB n t = true) : ∃ ps : List (Int × Int), t = .tup (ps.map fracT) ∧ (ps.length : Int) = n ∧ ∀ p ∈ ps, Fr p ∧ Sp k p := by
  unfold numB at h
  split at h
  · rename_i xs
    simp only [Bool.and_eq_true, decide_eq_true_eq, List.all_eq_true] at h
    have key : ∀ xs : List T, (∀ x ∈ xs, isF x = true) → (∀ x ∈ xs, Ent k x) → ∃ ps : List (Int × Int), xs = ps.map fracT ∧ ∀ p ∈ ps, Fr p ∧ Sp k p := by
      intro xs
      induction xs with
      | nil => intro _ _; exact ⟨[], rfl, fun p hp => by cases hp⟩
      | cons x xs ih =>
        intro h1 h2
        obtain ⟨p, rfl, hp⟩ := isF_of (h1 x List.mem_cons_self)
        obtain ⟨ps, rfl, hps⟩ := ih (fun y hy => h1 y (List.mem_cons_of_mem _ hy)) fun y hy => h2 y (List.mem_cons_of_mem _ hy)
        refine ⟨p :: ps, rfl, fun q hq => ?_⟩
        rcases List.mem_cons.mp hq with rfl | hq
        · exact ⟨hp, (h2 _ List.mem_cons_self).2 _ _ rfl⟩
        · exact hps q hq
    obtain ⟨ps, rfl, hps⟩ := key xs h.2 (hn.2 xs rfl).2
    exact ⟨ps, rfl, by rw [← h.1, List.length_map], hps⟩
  · cases h
def pt (ps : List (Int × Int)) (i : Int) : Int × Int := ps.getD i.toNat (0, 1)
end H
namespace H
open PySem PySem.Spec L2 TL MR
local macro_rules | `(tactic| sizeOf_list_dec) => `(tactic| first
  | with_reducible refine we_var (by with_unfolding_all exact rfl) ?_
  | with_reducible (first
  | refine ws_seq ?_ | refine ws_set ?_ | refine we_int ?_ | refine we_call ?_ | refine wa_cons ?_ | refine wa_nil ?_
  | refine we_bin ?_ | refine we_cmp ?_ | refine we_and ?_ | refine we_or ?_ | refine we_one ?_ | refine we_not ?_ | refine we_neg ?_ | refine we_gc ?_ | refine we_str ?_ | refine we_bl ?_ | refine we_non ?_
  | refine we_idx ?_ | refine we_bi ?_ | refine we_isi ?_ | refine we_meth ?_ | refine we_ite ?_ | refine we_seq ?_ | refine we_rng ?_ | refine we_enum ?_ | refine we_zip ?_
  | refine we_sl ?_ | refine we_rev ?_ | refine wpt_nop ?_ | refine we_tup ?_ | refine we_lst ?_ | refine we_chain ?_ | refine we_inr ?_
  | refine ws_nil ?_ | refine ws_ite ?_ | refine ws_ret ?_ | refine ws_expr ?_ | refine ws_setI ?_ | refine ws_raise ?_ | refine ws_retN ?_ | refine ws_skip ?_ | refine ws_asg ?_ | refine ws_par ?_
  | refine wr_add ?_ | refine wr_sub ?_ | refine wr_abs ?_ | refine wr_max2 ?_ | refine wr_min2 ?_ | refine wr_int ?_ | refine wr_intb ?_ | refine wr_lent ?_ | refine wr_lenl ?_ | refine wr_tupl ?_ | refine wr_tupt ?_ | refine wr_slt ?_ | refine wr_sll ?_ | refine wr_slc ?_ | refine wr_revt ?_ | refine wr_lstl ?_ | refine wr_lstt ?_ | refine wr_new ?_ | refine wr_frz ?_
  | refine ce_lt ?_ | refine ce_le ?_ | refine ce_gt ?_ | refine ce_ge ?_ | refine ce_eq ?_ | refine ce_ne ?_ | refine br_t ?_ | refine br_f ?_ | refine ex_bl ?_ | refine ex_int ?_)
  | ((with_reducible refine wpt_e ?_ ?_); exact rfl)
  | ((with_reducible refine lim_c ?_ ?_); exact rfl)
  | ((with_reducible refine wr_powl ?_ ?_); exact rfl)
  | ((with_reducible refine wr_mull ?_ ?_); exact rfl)
  | ((with_reducible refine wr_fdivl ?_ ?_); exact rfl)
  | ((with_reducible refine wr_modl ?_ ?_); exact rfl))
def wayT (w : List Int) : T := .tup (w.map T.int)
def IsRing (ar : List Ar) (r : List Int) (s : Int) : Prop := ∃ a t, r = a :: t ∧ RgS (EA ar) a t s
theorem WebU.gr {U : Int} {n : Int} {ar : List Ar} (w : WebU U n ar) : Gr n.toNat (EA ar) := by
  have hn := w.n1
  refine ⟨fun a b v h => ?_, fun a b v v' h h' => ?_⟩
  · have := w.ok _ h
    dsimp only at this
    have e : ((n.toNat : Nat) : Int) = n := by omega
    rw [e]
    omega
  · have h1 := wo_of (kd_ord w.ord) h
    have h2 := wo_of (kd_ord w.ord) h'
    rw [h1] at h2
    exact Option.some.inj h2
theorem wk_last {E : Int → Int → Int → Prop} : ∀ {t : List Int} {a b s : Int}, Wk E a t b s → (a :: t)[t.length]? = some b
  | _, _, _, _, .nil a => rfl
  | _, _, _, _, .cons e h => by
    have := wk_last h
    simpa using this
theorem ring_rng {U : Int} {n : Int} {ar : List Ar} (w : WebU U n ar) {r : List Int} {s : Int} (h : IsRing ar r s) : ∀ i ∈ r, 0 ≤ i ∧ i < n := by
  have hn := w.n1
  obtain ⟨a, t, rfl, h⟩ := h
  intro i hi
  have e : ((n.toNat : Nat) : Int) = n := by omega
  have := Wk.mem (P := fun x => 0 ≤ x ∧ x < (n.toNat : Int)) (fun a b w' e => (w.gr.pl a b w' e).2) h.1 i (by simp at hi ⊢; rcases hi with rfl | hi; exact .inr rfl; exact .inl hi)
  rw [e] at this
  exact this
theorem ring_len {U : Int} {n : Int} {ar : List Ar} (w : WebU U n ar) {r : List Int} {s : Int} (h : IsRing ar r s) : 0 < r.length ∧ r.length ≤ n.toNat := by
  have hr := ring_rng w h
  obtain ⟨a, t, rfl, h⟩ := h
  exact ⟨by simp, nd_len h.2.1 fun x hx => by have := hr x hx; omega⟩
theorem ne_nilR {S : Sto} {j : Nat} {xs : List T} (e : S[j]? = some (.lst xs)) (hx : noRefs xs = true) {P : Bool → Prop} (p : P (!xs.isEmpty)) : ∃ c, cmpB .NotEq (.ref j) (.lst []) S = some c ∧ P c := by
  refine ⟨_, ?_, p⟩
  have e0 : cmpB .NotEq (.ref j) (.lst []) S = (eqD (.ref j) (.lst []) S).map (!·) := by unfold cmpB; rfl
  have e1 : S.toD (.ref j) = some (dat (.lst xs)) := by
    have h1 : S.toD (.ref j) = S.refD 4 j := rfl
    have h2 : S.refD 4 j = T.toD (S.refD 3) (.lst xs) := by
      simp only [Sto.refD, e, T.toD]
    rw [h1, h2]
    exact toD_dat _ _ hx
  have e2 : S.toD (.lst []) = some (.list []) := rfl
  rw [e0]
  unfold eqD
  rw [e1, e2]
  have hd : min (dat (.lst xs)).depth (PyData.list []).depth ≤ 60 := by
    have : (PyData.list []).depth = 1 := rfl
    omega
  dsimp only
  rw [decide_eq_true hd]
  cases xs <;> simp [dat, dats, PyData.eqv, PyData.eqvAll]
def St2 (S : Sto) (f ws : List (List Int)) : Sto := S ++ [.lst (f.map wayT), .lst (ws.map wayT)]
theorem wk_vals {E : Int → Int → Int → Prop} : ∀ {t : List Int} {a b s : Int}, Wk E a t b s → ∃ ws : List Int, ws.length = t.length ∧ ws.sum = s ∧ ∀ k, k < t.length → ∃ u v x, (a :: t)[k]? = some u ∧ t[k]? = some v ∧ ws[k]? = some x ∧ E u v x
  | _, _, _, _, .nil a => ⟨[], rfl, rfl, fun k hk => absurd hk (by simp)⟩
  | _, _, _, _, .cons (a := a) (c := c) (w := w) e h => by
    obtain ⟨ws, h1, h2, h3⟩ := wk_vals h
    refine ⟨w :: ws, by simp [h1], by simp [h2], fun k hk => ?_⟩
    cases k with
    | zero => exact ⟨a, c, w, rfl, rfl, rfl, e⟩
    | succ k =>
      obtain ⟨u, v, x, z1, z2, z3, z4⟩ := h3 k (by simpa using hk)
      exact ⟨u, v, x, by simpa using z1, by simpa using z2, by simpa using z3, z4⟩
def prv (r : List Int) (k : Nat) : Option Int := if k = 0 then r[r.length - 1]? else r[k - 1]?
structure RV (ar : List Ar) (r : List Int) (s : Int) (ws : List Int) : Prop where
  len : ws.length = r.length
  sum : ws.sum = s
  at' : ∀ k, k < r.length → ∃ u v x, prv r k = some u ∧ r[k]? = some v ∧ ws[k]? = some x ∧ (u, v, x) ∈ ar
theorem ring_vals {ar : List Ar} {r : List Int} {s : Int} (h : IsRing ar r s) : ∃ ws, RV ar r s ws := by
  obtain ⟨a, t, rfl, h⟩ := h
  obtain ⟨b, s1, s2, h1, h2, rfl⟩ := Wk.split _ h.1
  obtain ⟨_, e⟩ := h2.one_inv
  obtain ⟨ws, z1, z2, z3⟩ := wk_vals h1
  refine ⟨s2 :: ws, by simp [z1], by simp [z2]; omega, fun k hk => ?_⟩
  cases k with
  | zero => exact ⟨b, a, s2, by simpa [prv] using wk_last h1, rfl, rfl, e⟩
  | succ k =>
    obtain ⟨u, v, x, y1, y2, y3, y4⟩ := z3 k (by simpa using hk)
    exact ⟨u, v, x, by simpa [prv] using y1, by simpa using y2, by simpa using y3, y4⟩
theorem sum_sbU {U : Nat} : ∀ xs : List Int, (∀ x ∈ xs, x.natAbs ≤ U) → xs.sum.natAbs ≤ xs.length * U
  | [], _ => by simp
  | x :: xs, h => by
    have h1 := sum_sbU xs fun y hy => h y (List.mem_cons_of_mem _ hy)
    have h2 := h x List.mem_cons_self
    rw [List.sum_cons, List.length_cons, Nat.add_mul, Nat.one_mul]
    omega
theorem ring_sbU {k : Nat} {U n : Int} {ar : List Ar} {r : List Int} {s : Int} (hU : U ≤ 2 ^ k) (w : WebU U n ar) (h : IsRing ar r s) : Sb (k + 8) s := by
  have hn2 := w.n2
  obtain ⟨ws, v⟩ := ring_vals h
  have hl := ring_len w h
  have hk : ((2 ^ k : Nat) : Int) = 2 ^ k := by simp
  have := sum_sbU (U := 2 ^ k) ws fun x hx => by
    obtain ⟨k, hk⟩ := List.mem_iff_getElem?.mp hx
    have hkl := (List.getElem?_eq_some_iff.mp hk).1
    rw [v.len] at hkl
    obtain ⟨u, b, y, _, _, e3, e4⟩ := v.at' k hkl
    rw [hk] at e3
    cases e3
    have := w.ok _ e4
    dsimp only at this
    omega
  rw [v.sum, v.len] at this
  unfold Sb
  rw [Nat.pow_add]
  have h4 : r.length * 2 ^ k ≤ 100 * 2 ^ k := Nat.mul_le_mul_right _ (by omega)
  have h5 : 0 < 2 ^ k := Nat.pow_pos (by decide)
  have e : (2 : Nat) ^ 8 = 256 := by decide
  rw [e]
  omega
theorem ring_sb {n : Int} {ar : List Ar} {r : List Int} {s : Int} (w : WebG n ar) (h : IsRing ar r s) : Sb 108 s := ring_sbU (k := 100) (by decide) w h
theorem frP_val {t b : Int} (hb : 0 < b) : (frP t b).1 * b = (frP t b).2 * t := by
  obtain ⟨u, hu⟩ := gd_dvd_l t b
  obtain ⟨v, hv⟩ := gd_dvd_r t b
  have hg := gd_pos (a := t) (b := b) (by omega)
  show t / gd t b * b = b / gd t b * t
  have e1 : t / gd t b = u := by
    conv => lhs; lhs; rw [hu]
    exact Int.mul_ediv_cancel_left u (by omega)
  have e2 : b / gd t b = v := by
    conv => lhs; lhs; rw [hv]
    exact Int.mul_ediv_cancel_left v (by omega)
  rw [e1, e2]
  conv => lhs; rw [hv]
  conv => rhs; rw [hu]
  generalize gd t b = g
  rw [Int.mul_left_comm, Int.mul_left_comm v, Int.mul_comm u v]
structure LMr (ar : List Ar) (R : List Int → Prop) (o : Option (Int × Int)) : Prop where
  no : o = none → ∀ r s, R r → ¬ IsRing ar r s
  fr : ∀ p, o = some p → Fr p
  ex : ∀ p, o = some p → ∃ r s, R r ∧ IsRing ar r s ∧ p.1 * (r.length : Int) = p.2 * s
  le : ∀ p, o = some p → ∀ r s, R r → IsRing ar r s → p.1 * (r.length : Int) ≤ p.2 * s
theorem coprime_eq {p q : Int × Int} (hp : Fr p) (hq : Fr q) (h : p.1 * q.2 = q.1 * p.2) : p = q := by
  have e1 : frP (p.1 * q.2) (p.2 * q.2) = p := by
    obtain ⟨a, b⟩ := p
    have hg : gd (a * q.2) (b * q.2) = q.2 := by
      unfold gd
      rw [Int.gcd_mul_right]
      have h1 : (Int.gcd a b : Int) = 1 := hp.2
      have h2 : Int.gcd a b = 1 := by omega
      rw [h2]
      have := hq.1
      omega
    unfold frP
    dsimp only
    rw [hg, Int.mul_ediv_cancel _ (by have := hq.1; omega), Int.mul_ediv_cancel _ (by have := hq.1; omega)]
  have e2 : frP (q.1 * p.2) (q.2 * p.2) = q := by
    obtain ⟨a, b⟩ := q
    have hg : gd (a * p.2) (b * p.2) = p.2 := by
      unfold gd
      rw [Int.gcd_mul_right]
      have h1 : (Int.gcd a b : Int) = 1 := hq.2
      have h2 : Int.gcd a b = 1 := by omega
      rw [h2]
      have := hp.1
      omega
    unfold frP
    dsimp only
    rw [hg, Int.mul_ediv_cancel _ (by have := hp.1; omega), Int.mul_ediv_cancel _ (by have := hp.1; omega)]
  rw [← e1, h, Int.mul_comm p.2 q.2]
  exact e2
theorem LMr.spU {k : Nat} {U n : Int} {ar : List Ar} {R : List Int → Prop} {p : Int × Int} (hU : U ≤ 2 ^ k) (w : WebU U n ar) (h : LMr ar R (some p)) : Sp (k + 8) p := by
  have hn2 := w.n2
  obtain ⟨r, s, _, h2, h3⟩ := h.ex p rfl
  have hf := h.fr p rfl
  have hl := ring_len w h2
  have hs := ring_sbU hU w h2
  have hl2 : Sb (k + 8) (r.length : Int) := sb_mono (a := 8) (by omega) (by
    unfold Sb
    have e : (2 : Nat) ^ 8 = 256 := by decide
    omega)
  have e : frP s (r.length : Int) = p := coprime_eq (frP_fr (by omega)) hf (by
    have h4 := frP_val (t := s) (b := (r.length : Int)) (by omega)
    have h5 : 0 < (r.length : Int) := by omega
    refine Int.eq_of_mul_eq_mul_right (Int.ne_of_gt h5) ?_
    rw [Int.mul_right_comm, h4, Int.mul_right_comm p.1, h3]
    ac_rfl)
  have := frP_sb hs hl2 (by omega)
  rw [e] at this
  exact this
theorem LMr.sp {n : Int} {ar : List Ar} {R : List Int → Prop} {p : Int × Int} (w : WebG n ar) (h : LMr ar R (some p)) : Sp 108 p := LMr.spU (k := 100) (by decide) w h
theorem LMr.of {ar : List Ar} {R R' : List Int → Prop} {o : Option (Int × Int)} (h : LMr ar R o) (e : ∀ r s, IsRing ar r s → (R r ↔ R' r)) : LMr ar R' o :=
  ⟨fun z r s h1 h2 => h.no z r s ((e r s h2).mpr h1) h2, h.fr, fun p z => by
    obtain ⟨r, s, h1, h2, h3⟩ := h.ex p z
    exact ⟨r, s, (e r s h2).mp h1, h2, h3⟩, fun p z r s h1 h2 => h.le p z r s ((e r s h2).mpr h1) h2⟩
end H
namespace H
open PySem PySem.Spec L2 TL MR
local macro_rules | `(tactic| sizeOf_list_dec) => `(tactic| first
  | with_reducible refine we_var (by with_unfolding_all exact rfl) ?_
  | with_reducible (first
  | refine ws_seq ?_ | refine ws_set ?_ | refine we_int ?_ | refine we_call ?_ | refine we_callV ?_ | refine we_trng ?_ | refine we_sset ?_ | refine we_dlit ?_ | refine we_dget ?_ | refine wa_cons ?_ | refine wa_nil ?_
  | refine we_bin ?_ | refine we_cmp ?_ | refine we_and ?_ | refine we_or ?_ | refine we_one ?_ | refine we_not ?_ | refine we_neg ?_ | refine we_gc ?_ | refine we_str ?_ | refine we_bl ?_ | refine we_non ?_
  | refine we_idx ?_ | refine we_bi ?_ | refine we_isi ?_ | refine we_meth ?_ | refine we_ite ?_ | refine we_seq ?_ | refine we_rng ?_ | refine we_enum ?_ | refine we_zip ?_
  | refine we_dnewKf ?_ | refine we_lenset ?_ | refine we_sl ?_ | refine we_rev ?_ | refine wpt_nop ?_ | refine we_tup ?_ | refine we_lst ?_ | refine we_chain ?_ | refine we_inr ?_
  | refine ws_nil ?_ | refine ws_ite ?_ | refine ws_ret ?_ | refine ws_expr ?_ | refine ws_setI ?_ | refine ws_raise ?_ | refine ws_retN ?_ | refine ws_skip ?_ | refine ws_asg ?_ | refine ws_par ?_
  | refine wr_add ?_ | refine wr_sub ?_ | refine wr_abs ?_ | refine wr_max2 ?_ | refine wr_min2 ?_ | refine wr_int ?_ | refine wr_intb ?_ | refine wr_lent ?_ | refine wr_lenl ?_ | refine wr_tupl ?_ | refine wr_tupt ?_ | refine wr_slt ?_ | refine wr_sll ?_ | refine wr_slc ?_ | refine wr_revt ?_ | refine wr_lstl ?_ | refine wr_lstt ?_ | refine wr_new ?_ | refine wr_frz ?_
  | refine ce_lt ?_ | refine ce_le ?_ | refine ce_gt ?_ | refine ce_ge ?_ | refine ce_eq ?_ | refine ce_ne ?_ | refine br_t ?_ | refine br_f ?_ | refine ex_bl ?_ | refine ex_int ?_)
  | ((with_reducible refine wpt_e ?_ ?_); exact rfl)
  | ((with_reducible refine lim_c ?_ ?_); exact rfl)
  | ((with_reducible refine wr_powl ?_ ?_); exact rfl)
  | ((with_reducible refine wr_mull ?_ ?_); exact rfl)
  | ((with_reducible refine wr_fdivl ?_ ?_); exact rfl)
  | ((with_reducible refine wr_modl ?_ ?_); exact rfl)
  | with_reducible refine br_rT (by with_unfolding_all exact rfl) ?_
  | with_reducible refine br_rF (by with_unfolding_all exact rfl) ?_
  | with_reducible refine ix_rfl (by with_unfolding_all exact rfl) ?_
  | ((with_reducible refine is_rflT ?_ ?_); · with_unfolding_all exact rfl)
  | ((with_reducible refine is_rflF ?_ ?_); · with_unfolding_all exact rfl)
  | ((with_reducible refine isn_rflT ?_ ?_); · with_unfolding_all exact rfl)
  | ((with_reducible refine isn_rflF ?_ ?_); · with_unfolding_all exact rfl)
  | ((with_reducible refine isi_rflT ?_ ?_); · with_unfolding_all exact rfl)
  | ((with_reducible refine isi_rflF ?_ ?_); · with_unfolding_all exact rfl)
  | fail)
theorem ap_own {S : Sto} {j : Nat} {xs : List T} {t : T} (e : S[j]? = some (.lst xs)) (hl : xs.length < 1000000) {P : T → Sto → Prop} (p : P .non (S.set j (.lst (xs ++ [t])))) : ∃ u S3, mtF .append (.ref j) [t] S = some (u, S3) ∧ P u S3 := by
  refine ⟨_, _, ?_, p⟩
  simp only [mtF, e]
  rw [if_pos (by unfold LIM; exact hl)]
theorem ap_ty {S : Sto} {j : Nat} {xs : List T} {A : Prop} (e : S[j]? = some (.lst xs)) (h : A) : mtTy .append (.ref j) S = true ∧ A := ⟨by simp only [mtTy, e], h⟩
def NumsOf (n : Int) (t : T) (ps : List (Int × Int)) : Prop := numB n t = true → t = .tup (ps.map fracT) ∧ (ps.length : Int) = n ∧ ∀ p ∈ ps, Fr p ∧ Sp 900 p
theorem numsOf {n : Int} {t : T} (h : Nm 900 t) : ∃ ps, NumsOf n t ps := by
  by_cases c : numB n t = true
  · obtain ⟨ps, h1, h2, h3⟩ := numB_of h c
    exact ⟨ps, fun _ => ⟨h1, h2, h3⟩⟩
  · exact ⟨[], fun z => absurd z c⟩
theorem bools_map {α : Type} (f : α → Bool) (l : List α) : T.bools (l.map fun x => T.bl (f x)) = some (l.map f) := by
  induction l with
  | nil => rfl
  | cons x l ih => simp [T.bools, ih]
theorem wr_allm {α : Type} {f : α → Bool} {l : List α} {S : Sto} {Q : T → Sto → Prop} (q : Q (.bl (l.all f)) S) : WR false (biF .all [.lst (l.map fun x => T.bl (f x))] S) S Q := by
  refine wr_all (bools_map f l) ?_
  rw [List.all_map]
  exact q
def Fk (ar : List Ar) (r : Rw) (k : Nat) (v x : Int) : Prop := ∃ a l u s, 0 ≤ a ∧ gt r a = some u ∧ l.length = k ∧ Wk (EA ar) a l v s ∧ x = u + s
def zr (n : Int) : Rw := List.replicate n.toNat (some 0)
def Dk (n : Int) (ar : List Ar) (k : Nat) (v : Int) : Option Int := gt (ledN n ar (zr n) k) v
theorem rowsL {n : Int} {ar : List Ar} {r : Rw} {k : Nat} {j : Int} {f : Rw → T} {S : Sto} (h0 : 0 ≤ j) (h1 : j.toNat ≤ k) : idxF (.lst ((rowsF n ar r k).map f)) (.int j) S = some (f (ledN n ar r j.toNat)) := by
  simp only [idxF, Sto.seq, L2.atI, L2.ixN, List.length_map, rowsF_length]
  rw [if_pos h0, if_pos (by omega)]
  simp only [Option.bind_some, List.getElem?_map, rowsF_at h1]
  rfl
def fk (n : Int) (ar : List Ar) (v d : Int) (k : Nat) : Int × Int := frP (d - (Dk n ar k v).getD 0) (n - k)
theorem rngL {n : Int} (h : 0 ≤ n) : intRange 0 n = (List.range n.toNat).map fun (k : Nat) => T.int (k : Int) := by
  unfold intRange
  rw [show (n - 0).toNat = n.toNat by omega]
  apply List.map_congr_left
  intro a _
  simp
theorem idx0L (t : T) (r : List T) (S : Sto) : idxF (.lst (t :: r)) (.int 0) S = some t := by
  simp only [idxF, Sto.seq, L2.atI, L2.ixN]
  rw [if_pos (by omega), if_pos (by simp)]
  rfl
theorem cut_from (xs : List T) (j : Nat) : cutT xs (some (j : Int)) none = xs.drop j := by
  simp only [cutT, HT.sIx_nat, HT.sIx_none]
  by_cases h : j ≤ xs.length
  · rw [Nat.min_eq_left h, List.take_of_length_le (by simp)]
  · rw [Nat.min_eq_right (by omega), List.drop_eq_nil_of_le (Nat.le_refl _), List.drop_eq_nil_of_le (by omega)]
    simp
theorem cut_to (xs : List T) (j : Nat) : cutT xs none (some (j : Int)) = xs.take j := by
  simp only [cutT, HT.sIx_nat, HT.sIx_none, List.drop_zero, Nat.sub_zero]
  by_cases h : j ≤ xs.length
  · rw [Nat.min_eq_left h]
  · rw [Nat.min_eq_right (by omega), List.take_of_length_le (Nat.le_refl _), List.take_of_length_le (by omega)]
def hasB (ar : List Ar) (a b : Int) : Bool := ar.any (isK a b)
def f1 (place : Int) (a : Int) : Option Int := if a = place then some 0 else none
variable {E : Int → Int → Int → Prop}
def pr (r : List Int) : List Ar := (List.range r.length).map fun k => ((prv r k).getD 0, (r[k]?).getD 0, 0)
def inB (lo hi : Int) : T → Bool
  | .int i => decide (lo ≤ i ∧ i ≤ hi)
  | _ => false
theorem cn_pair {a b c d : Int} {S : Sto} {P : Bool → Prop} (p : P (!decide (a = c ∧ b = d))) : ∃ e, cmpB .NotEq (.tup [.int a, .int b]) (.tup [.int c, .int d]) S = some e ∧ P e := by
  obtain ⟨e, h, hp⟩ := ce_pair (P := fun c => P (!c)) (a := a) (b := b) (c := c) (d := d) (S := S) p
  refine ⟨!e, ?_, hp⟩
  have e0 : cmpB .NotEq (.tup [.int a, .int b]) (.tup [.int c, .int d]) S = (cmpB .Eq (.tup [.int a, .int b]) (.tup [.int c, .int d]) S).map (!·) := by unfold cmpB; rfl
  rw [e0, h]
  rfl
def Rc (l : List Ar) (a b : Int) : Prop := ∃ t s, Wk (EA l) a t b s
structure IsG (l : List Ar) (p : Int) (g : List Int) : Prop where
  nd : g.Nodup
  srt : g.Pairwise (· ≤ ·)
  mem : ∀ b, b ∈ g ↔ Rc l p b ∧ Rc l b p
structure IsC (l : List Ar) (p : Int) (c : List Int) : Prop where
  nd : c.Nodup
  srt : c.Pairwise (· ≤ ·)
  mem : ∀ b, b ∈ c ↔ Rc l p b
theorem IsC.g {l : List Ar} {p : Int} {c : List Int} {f : Int → Bool} (h : IsC l p c) (hf : ∀ b ∈ c, f b = true ↔ Rc l b p) : IsG l p (c.filter f) :=
  ⟨h.nd.filter _, h.srt.filter _, fun b => by
    rw [List.mem_filter]
    constructor
    · rintro ⟨h1, h2⟩
      exact ⟨(h.mem b).mp h1, (hf b h1).mp h2⟩
    · rintro ⟨h1, h2⟩
      have := (h.mem b).mpr h1
      exact ⟨this, (hf b this).mpr h2⟩⟩
def arO : T → Ar
  | .tup [.int a, .int b, .int c] => (a, b, c)
  | _ => (0, 0, 0)
def fa (n : Int) : List Ar → List T → Option Nat
  | _, [] => none
  | l, x :: xs => if arrowB n x = false ∨ hasB l (arO x).1 (arO x).2.1 = true ∨ l.length = 24 then some l.length else fa n (l ++ [arO x]) xs
theorem enumT_at : ∀ (xs : List T) (i k : Nat), (enumT i xs)[k]? = (xs[k]?).map fun x => .tup [.int ((i + k : Nat) : Int), x]
  | [], _, _ => rfl
  | x :: xs, i, 0 => rfl
  | x :: xs, i, k + 1 => by
    show (enumT (i + 1) xs)[k]? = _
    rw [enumT_at xs (i + 1) k, List.getElem?_cons_succ, show i + 1 + k = i + (k + 1) by omega]
theorem enumT_len : ∀ (xs : List T) (i : Nat), (enumT i xs).length = xs.length
  | [], _ => rfl
  | x :: xs, i => by show (enumT (i + 1) xs).length + 1 = _; rw [enumT_len xs]; rfl
structure Srt (n : Int) (l l' : List Ar) : Prop where
  web : WebG n l'
  perm : l'.Perm l
  eq : ∀ (v : T) (S : Sto), TabV S v (l.map arT) → biF .sorted [v] S = some (.fresh (l'.map arT))
abbrev Q4 := Ar × Int
def fW (f : Q4 → Int) (L : List Q4) : List Ar := L.map fun q => (q.1.1, q.1.2.1, f q)
def arL (L : List Q4) : List Ar := L.map (·.1)
def swL (L : List Q4) : List Ar := fW (·.2) L
def spT (L : List Q4) : T := .tup ((L.map (·.2)).map T.int)
structure Spn (n : Int) (L : List Q4) : Prop where
  web : WebG n (arL L)
  sp : ∀ q ∈ L, 1 ≤ q.2 ∧ q.2 ≤ 1000
theorem Spn.len {n : Int} {L : List Q4} (h : Spn n L) : L.length ≤ 100 := by
  have := h.web.len
  unfold arL at this
  rw [List.length_map] at this
  exact this
theorem Spn.ok {n : Int} {L : List Q4} (h : Spn n L) {q : Q4} (hq : q ∈ L) : 0 ≤ q.1.1 ∧ q.1.1 < n ∧ 0 ≤ q.1.2.1 ∧ q.1.2.1 < n ∧ -(10 ^ 30) ≤ q.1.2.2 ∧ q.1.2.2 ≤ 10 ^ 30 := h.web.ok _ (List.mem_map.mpr ⟨q, hq, rfl⟩)
theorem fw_walk {f : Q4 → Int} {L : List Q4} : ∀ {t : List Int} {a b s : Int}, Wk (EA (fW f L)) a t b s → ∃ qs : List Q4, (∀ q ∈ qs, q ∈ L) ∧ qs.length = t.length ∧ s = (qs.map f).sum ∧ ∀ g : Q4 → Int, Wk (EA (fW g L)) a t b (qs.map g).sum
  | _, _, _, _, .nil a => ⟨[], by simp, rfl, rfl, fun g => .nil a⟩
  | _, _, _, _, .cons e hw => by
    obtain ⟨qs, h1, h2, h3, h4⟩ := fw_walk hw
    obtain ⟨q, hq, e2⟩ := List.mem_map.mp e
    cases e2
    refine ⟨q :: qs, fun x hx => ?_, by simp [h2], by simp [h3], fun g => ?_⟩
    · rcases List.mem_cons.mp hx with rfl | hx
      · exact hq
      · exact h1 x hx
    · rw [List.map_cons, List.sum_cons]
      exact .cons (List.mem_map.mpr ⟨q, hq, rfl⟩) (h4 g)
theorem fw_ring {f : Q4 → Int} {L : List Q4} {r : List Int} {s : Int} (h : IsRing (fW f L) r s) : ∃ qs : List Q4, (∀ q ∈ qs, q ∈ L) ∧ qs.length = r.length ∧ s = (qs.map f).sum ∧ ∀ g : Q4 → Int, IsRing (fW g L) r (qs.map g).sum := by
  obtain ⟨a, t, rfl, h1, h2⟩ := h
  obtain ⟨qs, g1, g2, g3, g4⟩ := fw_walk h1
  exact ⟨qs, g1, by simpa using g2, g3, fun g => ⟨a, t, rfl, g4 g, h2⟩⟩
def RS (L : List Q4) (r : List Int) (s t : Int) : Prop := IsRing (arL L) r s ∧ IsRing (swL L) r t
theorem RS.pos {n : Int} {L : List Q4} (h : Spn n L) {r : List Int} {s t : Int} (hr : RS L r s t) : 0 < t ∧ t ≤ 100000 := by
  obtain ⟨qs, h1, h2, h3, _⟩ := fw_ring (f := (·.2)) hr.2
  have hl := ring_len h.web hr.1
  have hn := h.web.n2
  have key : ∀ qs : List Q4, (∀ q ∈ qs, q ∈ L) → (qs.length : Int) ≤ (qs.map (·.2)).sum ∧ (qs.map (·.2)).sum ≤ 1000 * (qs.length : Int) := fun qs => by
    induction qs with
    | nil => intro _; simp
    | cons q qs ih =>
      intro hq
      have := ih fun x hx => hq x (List.mem_cons_of_mem _ hx)
      have := h.sp q (hq q (by simp))
      simp only [List.map_cons, List.sum_cons, List.length_cons]
      omega
  have := key qs h1
  omega
theorem RS.sb {n : Int} {L : List Q4} (h : Spn n L) {r : List Int} {s t : Int} (hr : RS L r s t) : Sb 108 s ∧ Sb 108 t := by
  have := hr.pos h
  refine ⟨ring_sb h.web hr.1, sb_mono (a := 17) (by decide) ?_⟩
  unfold Sb
  have e : (2 : Nat) ^ 17 = 131072 := by decide
  omega
structure LRr (L : List Q4) (R : List Int → Prop) (o : Option (Int × Int)) : Prop where
  no : o = none → ∀ r s t, R r → ¬ RS L r s t
  fr : ∀ p, o = some p → Fr p
  ex : ∀ p, o = some p → ∃ r s t, R r ∧ RS L r s t ∧ p.1 * t = p.2 * s
  le : ∀ p, o = some p → ∀ r s t, R r → RS L r s t → p.1 * t ≤ p.2 * s
theorem LRr.of {L : List Q4} {R R' : List Int → Prop} {o : Option (Int × Int)} (h : LRr L R o) (e : ∀ r s t, RS L r s t → (R r ↔ R' r)) : LRr L R' o :=
  ⟨fun z r s t h1 h2 => h.no z r s t ((e r s t h2).mpr h1) h2, h.fr, fun p z => by
    obtain ⟨r, s, t, h1, h2, h3⟩ := h.ex p z
    exact ⟨r, s, t, (e r s t h2).mp h1, h2, h3⟩, fun p z r s t h1 h2 => h.le p z r s t ((e r s t h2).mpr h1) h2⟩
theorem frac_is {s t : Int} {p : Int × Int} (ht : 0 < t) (hf : Fr p) (h3 : p.1 * t = p.2 * s) : frP s t = p := coprime_eq (frP_fr ht) hf (by
    have h4 := frP_val (t := s) ht
    refine Int.eq_of_mul_eq_mul_right (Int.ne_of_gt ht) ?_
    rw [Int.mul_right_comm, h4, Int.mul_right_comm p.1, h3]
    ac_rfl)
theorem LRr.sp {n : Int} {L : List Q4} {R : List Int → Prop} {p : Int × Int} (hL : Spn n L) (h : LRr L R (some p)) : Sp 108 p := by
  obtain ⟨r, s, t, _, h2, h3⟩ := h.ex p rfl
  have ht := (h2.pos hL).1
  have sb := h2.sb hL
  rw [← frac_is ht (h.fr p rfl) h3]
  exact frP_sb sb.1 sb.2 ht
end H
namespace K70
open PySem PySem.Spec L2 TL H
def B_rows_shown : Sm := (.seq (.asg (.name 1) (.lst true (.cons (.bin false .Add (.bin false .Add (.bin false .Add (.str "web ") (.bi false .str (.cons (.idx (.var 0) (.int 0)) .nil))) (.str " ")) (.bi false .str (.cons (.bi false .len (.cons (.idx (.var 0) (.int 1)) .nil)) .nil))) .nil)))
  (.seq (.expr (.meth .extend (.var 1) (.cons (.comp false [("arrow", 2)] (.name 2) (.seq (.idx (.var 0) (.int 1))) .nop (.bin false .Add (.str "arrow ") (.join (.str " ") (.comp false [("number", 3)] (.name 3) (.seq (.var 2)) .nop (.bi false .str (.cons (.var 3) .nil)))))) .nil)))
  (.seq (.ret (.var 1))
  .nil)))
def F_rows_shown : FnS := fnS 4 B_rows_shown
def B_web_shown : Sm := (.seq (.ret (.join (.str "\n") (.call false "rows_shown" F_rows_shown (.cons (.var 0) .nil))))
  .nil)
def F_web_shown : FnS := fnS 1 B_web_shown
def B_number_in : Sm := (.seq (.ite (.or (.cmp .Eq (.var 0) (.str "")) (.or (.cmp .Gt (.bi false .len (.cons (.var 0) .nil)) (.gc "MOST_FIGURES" (.int 60))) (.one (.not (.bi false .all (.cons (.comp false [("sign", 1)] (.name 1) (.sseq (.var 0)) .nop (.cmp .In (.var 1) (.gc "FIGURES" (.str "0123456789")))) .nil)))))) (.seq (.ret .non)
  .nil) .nil)
  (.seq (.ite (.and (.cmp .Eq (.idx (.var 0) (.int 0)) (.str "0")) (.one (.cmp .NotEq (.var 0) (.str "0")))) (.seq (.ret .non)
  .nil) .nil)
  (.seq (.ret (.bi false .intS (.cons (.var 0) .nil)))
  .nil)))
def F_number_in : FnS := fnS 2 B_number_in
def B_sizes_in : Sm := (.seq (.asg (.name 1) (.split (.var 0) (.str " ")))
  (.seq (.ite (.or (.cmp .NotEq (.bi false .len (.cons (.var 1) .nil)) (.int 3)) (.one (.cmp .NotEq (.idx (.var 1) (.int 0)) (.str "web")))) (.seq (.ret .non)
  .nil) .nil)
  (.seq (.par 2 3 (.cons (.call true "number_in" F_number_in (.cons (.idx (.var 1) (.int 1)) .nil)) (.cons (.call true "number_in" F_number_in (.cons (.idx (.var 1) (.int 2)) .nil)) .nil)))
  (.seq (.ite (.or (.cmp .Is (.var 2) .non) (.or (.cmp .Is (.var 3) .non) (.or (.not (.chain .LtE .LtE (.int 1) (.var 2) (.gc "MOST_PLACES" (.int 8)))) (.one (.cmp .Gt (.var 3) (.gc "MOST_ARROWS" (.int 24))))))) (.seq (.ret .non)
  .nil) .nil)
  (.seq (.ret (.tup (.cons (.var 2) (.cons (.var 3) .nil))))
  .nil)))))
def F_sizes_in : FnS := fnS 4 B_sizes_in
def B_signed_in : Sm := (.seq (.ite (.cmp .NotEq (.sl false (.var 0) .nop (.int 1)) (.str "-")) (.seq (.ret (.call true "number_in" F_number_in (.cons (.var 0) .nil)))
  .nil) .nil)
  (.seq (.asg (.name 1) (.call true "number_in" F_number_in (.cons (.sl false (.var 0) (.int 1) .nop) .nil)))
  (.seq (.ite (.or (.cmp .Is (.var 1) .non) (.one (.cmp .Eq (.var 1) (.int 0)))) (.seq (.ret .non)
  .nil) .nil)
  (.seq (.ret (.bin false .Sub (.int 0) (.var 1)))
  .nil))))
def F_signed_in : FnS := fnS 2 B_signed_in
def B_arrow_in : Sm := (.seq (.asg (.name 2) (.split (.var 1) (.str " ")))
  (.seq (.ite (.or (.cmp .NotEq (.bi false .len (.cons (.var 2) .nil)) (.int 4)) (.one (.cmp .NotEq (.idx (.var 2) (.int 0)) (.str "arrow")))) (.seq (.ret .non)
  .nil) .nil)
  (.seq (.asg (.name 3) (.tup (.cons (.call true "number_in" F_number_in (.cons (.idx (.var 2) (.int 1)) .nil)) (.cons (.call true "number_in" F_number_in (.cons (.idx (.var 2) (.int 2)) .nil)) (.cons (.call true "signed_in" F_signed_in (.cons (.idx (.var 2) (.int 3)) .nil)) .nil)))))
  (.seq (.ite (.not (.call true "arrow_good" F_arrow_good (.cons (.var 0) (.cons (.var 3) .nil)))) (.seq (.ret .non)
  .nil) .nil)
  (.seq (.ret (.var 3))
  .nil)))))
def F_arrow_in : FnS := fnS 4 B_arrow_in
def B_web_read : Sm := (.seq (.ite (.not (.isi (.var 0) "str")) (.seq (.raise "NoText" ["row"] (.cons (.int 0) .nil))
  .nil) .nil)
  (.seq (.asg (.name 1) (.split (.var 0) (.str "\n")))
  (.seq (.asg (.name 2) (.call true "sizes_in" F_sizes_in (.cons (.idx (.var 1) (.int 0)) .nil)))
  (.seq (.ite (.cmp .Is (.var 2) .non) (.seq (.raise "NoText" ["row"] (.cons (.int 1) .nil))
  .nil) .nil)
  (.seq (.asg (.name 3) (.lst true .nil))
  (.seq (.loop (.tup [4, 5]) (.enum (.sl false (.var 1) (.int 1) .nop)) (.seq (.asg (.name 6) (.call true "arrow_in" F_arrow_in (.cons (.idx (.var 2) (.int 0)) (.cons (.var 5) .nil))))
  (.seq (.ite (.or (.cmp .Is (.var 6) .non) (.or (.and (.cmp .NotEq (.var 3) (.lst false .nil)) (.one (.cmp .LtE (.sl false (.var 6) .nop (.int 2)) (.sl false (.idx (.var 3) (.neg (.int 1))) .nop (.int 2))))) (.one (.cmp .Eq (.bi false .len (.cons (.var 3) .nil)) (.idx (.var 2) (.int 1)))))) (.seq (.raise "NoText" ["row"] (.cons (.bin false .Add (.var 4) (.int 2)) .nil))
  .nil) .nil)
  (.seq (.expr (.meth .append (.var 3) (.cons (.var 6) .nil)))
  .nil))))
  (.seq (.ite (.cmp .Lt (.bi false .len (.cons (.var 3) .nil)) (.idx (.var 2) (.int 1))) (.seq (.raise "NoText" ["row"] (.cons (.bin false .Add (.bi false .len (.cons (.var 1) .nil)) (.int 1)) .nil))
  .nil) .nil)
  (.seq (.ret (.tup (.cons (.idx (.var 2) (.int 0)) (.cons (.bi false .tuple (.cons (.var 3) .nil)) .nil))))
  .nil))))))))
def F_web_read : FnS := fnS 7 B_web_read
def B__law_web_is : Sm := (.seq (.ite (.or (.not (.isi (.var 0) "tuple")) (.or (.cmp .NotEq (.var 0) (.var 1)) (.or (.not (.call true "_law_whole" F__law_whole (.cons (.idx (.var 0) (.int 0)) .nil))) (.one (.not (.isi (.idx (.var 0) (.int 1)) "tuple")))))) (.seq (.ret (.bl false))
  .nil) .nil)
  (.seq (.loop (.name 2) (.seq (.idx (.var 0) (.int 1))) (.seq (.ite (.or (.not (.isi (.var 2) "tuple")) (.one (.not (.bi false .all (.cons (.comp false [("_law_one", 3)] (.name 3) (.seq (.var 2)) .nop (.call true "_law_whole" F__law_whole (.cons (.var 3) .nil))) .nil))))) (.seq (.ret (.bl false))
  .nil) .nil)
  .nil))
  (.seq (.ret (.bl true))
  .nil)))
def F__law_web_is : FnS := fnS 4 B__law_web_is
def B__law_text : Sm := (.seq (.asg (.name 1) (.lst true (.cons (.bin false .Add (.bin false .Add (.bin false .Add (.str "web ") (.bi false .str (.cons (.idx (.var 0) (.int 0)) .nil))) (.str " ")) (.bi false .str (.cons (.bi false .len (.cons (.idx (.var 0) (.int 1)) .nil)) .nil))) .nil)))
  (.seq (.loop (.name 2) (.seq (.idx (.var 0) (.int 1))) (.seq (.expr (.meth .append (.var 1) (.cons (.bin false .Add (.str "arrow ") (.join (.str " ") (.comp false [("_law_number", 3)] (.name 3) (.seq (.var 2)) .nop (.bi false .str (.cons (.var 3) .nil))))) .nil)))
  .nil))
  (.seq (.ret (.join (.str "\n") (.var 1)))
  .nil)))
def F__law_text : FnS := fnS 4 B__law_text
def B__law_right : Sm := (.seq (.asg (.name 1) (.call false "_law_text" F__law_text (.cons (.var 0) .nil)))
  (.seq (.asg (.name 2) (.call true "web_shown" F_web_shown (.cons (.var 0) .nil)))
  (.seq (.ret (.and (.isi (.var 2) "str") (.and (.cmp .Eq (.var 2) (.var 1)) (.one (.call true "_law_web_is" F__law_web_is (.cons (.call false "web_read" F_web_read (.cons (.var 1) .nil)) (.cons (.var 0) .nil)))))))
  .nil)))
def F__law_right : FnS := fnS 3 B__law_right
def B_law : Sm := (.seq (.asg (.name 1) (.tup (.cons (.int 8) (.cons (.bi false .tuple (.cons (.comp false [("_law_k", 6)] (.name 6) (.rng (.cons (.int 24) .nil)) .nop (.tup (.cons (.bin false .FloorDiv (.var 6) (.int 8)) (.cons (.bin false .Mod (.var 6) (.int 8)) (.cons (.bin false .Mult (.bin false .Sub (.var 6) (.int 12)) (.bin false .Pow (.int 10) (.int 28))) .nil))))) .nil)) .nil))))
  (.seq (.asg (.name 2) (.lst false (.cons (.tup (.cons (.int 1) (.cons (.tup .nil) .nil))) (.cons (.tup (.cons (.int 8) (.cons (.tup .nil) .nil))) (.cons (.var 1) (.cons (.tup (.cons (.int 1) (.cons (.tup (.cons (.tup (.cons (.int 0) (.cons (.int 0) (.cons (.bin false .Pow (.int 10) (.int 30)) .nil)))) .nil)) .nil))) (.cons (.tup (.cons (.int 2) (.cons (.tup (.cons (.tup (.cons (.int 1) (.cons (.int 0) (.cons (.bin false .Sub (.int 0) (.bin false .Pow (.int 10) (.int 30))) .nil)))) .nil)) .nil))) .nil)))))))
  (.seq (.loop (.name 3) (.seq (.bin false .Add (.lst false (.cons (.call true "_law_cell_at" F__law_cell_at (.cons (.var 0) (.cons (.int 0) .nil))) .nil)) (.sl false (.var 0) (.int 1) (.int 8)))) (.seq (.asg (.name 4) (.call true "_law_pen_of" F__law_pen_of (.cons (.var 3) .nil)))
  (.seq (.asg (.name 2) (.bin false .Add (.var 2) (.lst false (.cons (.call false "_law_web_of" F__law_web_of (.cons (.var 4) (.cons (.int 8) .nil))) (.cons (.call false "_law_web_of" F__law_web_of (.cons (.var 4) (.cons (.int 5) .nil))) .nil)))))
  .nil)))
  (.seq (.ret (.bi false .all (.cons (.comp false [("_law_web", 5)] (.name 5) (.seq (.bin false .Add (.var 2) (.sl false (.var 2) (.neg (.int 2)) .nop))) .nop (.call true "_law_right" F__law_right (.cons (.var 5) .nil))) .nil)))
  .nil))))
def F_law : FnS := fnS 7 B_law
end K70
namespace K70
open PySem PySem.Spec L2 TL H
local macro_rules | `(tactic| sizeOf_list_dec) => `(tactic| first
  | with_reducible refine we_var (by with_unfolding_all exact rfl) ?_
  | with_reducible (first
  | refine ws_seq ?_ | refine ws_set ?_ | refine we_int ?_ | refine we_call ?_ | refine we_callV ?_ | refine we_trng ?_ | refine we_sset ?_ | refine we_dlit ?_ | refine we_dget ?_ | refine wa_cons ?_ | refine wa_nil ?_
  | refine we_bin ?_ | refine we_cmp ?_ | refine we_and ?_ | refine we_or ?_ | refine we_one ?_ | refine we_not ?_ | refine we_neg ?_ | refine we_gc ?_ | refine we_str ?_ | refine we_bl ?_ | refine we_non ?_
  | refine we_idx ?_ | refine we_bi ?_ | refine we_isi ?_ | refine we_meth ?_ | refine we_ite ?_ | refine we_seq ?_ | refine we_rng ?_ | refine we_enum ?_ | refine we_zip ?_
  | refine we_dnewKf ?_ | refine we_lenset ?_ | refine we_sl ?_ | refine we_rev ?_ | refine wpt_nop ?_ | refine we_tup ?_ | refine we_lst ?_ | refine we_chain ?_ | refine we_inr ?_
  | refine ws_nil ?_ | refine ws_ite ?_ | refine ws_ret ?_ | refine ws_expr ?_ | refine ws_setI ?_ | refine ws_raise ?_ | refine ws_retN ?_ | refine ws_skip ?_ | refine ws_asg ?_ | refine ws_par ?_
  | refine wr_add ?_ | refine wr_sub ?_ | refine wr_abs ?_ | refine wr_max2 ?_ | refine wr_min2 ?_ | refine wr_int ?_ | refine wr_intb ?_ | refine wr_lent ?_ | refine wr_lenl ?_ | refine wr_tupl ?_ | refine wr_tupt ?_ | refine wr_slt ?_ | refine wr_sll ?_ | refine wr_slc ?_ | refine wr_revt ?_ | refine wr_lstl ?_ | refine wr_lstt ?_ | refine wr_new ?_ | refine wr_frz ?_
  | refine ce_lt ?_ | refine ce_le ?_ | refine ce_gt ?_ | refine ce_ge ?_ | refine ce_eq ?_ | refine ce_ne ?_ | refine br_t ?_ | refine br_f ?_ | refine ex_bl ?_ | refine ex_int ?_)
  | ((with_reducible refine wpt_e ?_ ?_); exact rfl)
  | ((with_reducible refine lim_c ?_ ?_); exact rfl)
  | ((with_reducible refine wr_powl ?_ ?_); exact rfl)
  | ((with_reducible refine wr_mull ?_ ?_); exact rfl)
  | ((with_reducible refine wr_fdivl ?_ ?_); exact rfl)
  | ((with_reducible refine wr_modl ?_ ?_); exact rfl)
  | with_reducible refine br_rT (by with_unfolding_all exact rfl) ?_
  | with_reducible refine br_rF (by with_unfolding_all exact rfl) ?_
  | with_reducible refine ix_rfl (by with_unfolding_all exact rfl) ?_
  | ((with_reducible refine is_rflT ?_ ?_); · with_unfolding_all exact rfl)
  | ((with_reducible refine is_rflF ?_ ?_); · with_unfolding_all exact rfl)
  | ((with_reducible refine isn_rflT ?_ ?_); · with_unfolding_all exact rfl)
  | ((with_reducible refine isn_rflF ?_ ?_); · with_unfolding_all exact rfl)
  | ((with_reducible refine isi_rflT ?_ ?_); · with_unfolding_all exact rfl)
  | ((with_reducible refine isi_rflF ?_ ?_); · with_unfolding_all exact rfl)
  | fail)
open PySem.NumText
abbrev cl (x : Str) : List Nat := x.cps.toList
def sT (i : Int) : Str := Str.ofString (toString i)
theorem cl_inj {x y : Str} (h : cl x = cl y) : x = y := Str.ext' (Array.toList_inj.mp h)
theorem cl_app (x y : Str) : cl (x ++ y) = cl x ++ cl y := by simp [cl, Str.cps_append]
theorem cl_len (x : Str) : (cl x).length = x.length := by simp [cl, Str.length]
theorem list_cut {c : Nat} : ∀ {a b s t : List Nat}, c ∉ a → c ∉ b → a ++ c :: s = b ++ c :: t → a = b ∧ s = t
  | [], [], _, _, _, _, h => by simpa using h
  | [], y :: b, _, _, _, hb, h => by
    simp only [List.nil_append, List.cons_append, List.cons.injEq] at h
    exact absurd h.1 (fun e => hb (by simp [e]))
  | x :: a, [], _, _, ha, _, h => by
    simp only [List.nil_append, List.cons_append, List.cons.injEq] at h
    exact absurd h.1 (fun e => ha (by simp [e]))
  | x :: a, y :: b, _, _, ha, hb, h => by
    simp only [List.cons_append, List.cons.injEq] at h
    obtain ⟨e1, e2⟩ := list_cut (fun z => ha (by simp [z])) (fun z => hb (by simp [z])) h.2
    exact ⟨by rw [h.1, e1], e2⟩
theorem join2 (c : Nat) (x y : Str) (r : List Str) : cl (Str.join ⟨#[c]⟩ (x :: y :: r)) = cl x ++ c :: cl (Str.join ⟨#[c]⟩ (y :: r)) := by
  show cl (x ++ ⟨#[c]⟩ ++ Str.join ⟨#[c]⟩ (y :: r)) = _
  rw [cl_app, cl_app, List.append_assoc]
  rfl
theorem join_inj {c : Nat} : ∀ {A B : List Str}, A ≠ [] → B ≠ [] → (∀ p ∈ A, c ∉ cl p) → (∀ p ∈ B, c ∉ cl p) → Str.join ⟨#[c]⟩ A = Str.join ⟨#[c]⟩ B → A = B
  | [], _, h, _, _, _, _ => absurd rfl h
  | _ :: _, [], _, h, _, _, _ => absurd rfl h
  | [x], [y], _, _, _, _, h => by rw [show x = y from h]
  | [x], y :: z :: r, _, _, hA, _, h => by
    have h1 : cl x = _ := (congrArg cl (show x = Str.join ⟨#[c]⟩ (y :: z :: r) from h)).trans (join2 c y z r)
    exact absurd (by rw [h1]; simp) (hA x (by simp))
  | x :: z :: r, [y], _, _, _, hB, h => by
    have h1 : cl y = _ := (congrArg cl (show y = Str.join ⟨#[c]⟩ (x :: z :: r) from h.symm)).trans (join2 c x z r)
    exact absurd (by rw [h1]; simp) (hB y (by simp))
  | x :: x' :: r, y :: y' :: s, _, _, hA, hB, h => by
    have h1 := congrArg cl h
    rw [join2, join2] at h1
    obtain ⟨e1, e2⟩ := list_cut (hA x (by simp)) (hB y (by simp)) h1
    have := join_inj (A := x' :: r) (B := y' :: s) (by simp) (by simp) (fun p hp => hA p (List.mem_cons_of_mem _ hp)) (fun p hp => hB p (List.mem_cons_of_mem _ hp)) (cl_inj e2)
    rw [cl_inj e1, this]
theorem split_ne (x y : Str) : Txt.split x y ≠ [] := by
  unfold Txt.split
  split
  · simp
  · split
    · simp
    · intro h
      have := length_partsBetween x (Builtin.Str.occurrences x y 0 x.length (x.length + 1)) y.length
      rw [h] at this
      simp at this
theorem join_eq (s : Str) (A : List Str) : Txt.join s A = Str.join s A := StrLaws.glued_eq_join s A
theorem split_join {c : Nat} {A : List Str} (h0 : A ≠ []) (h : ∀ p ∈ A, c ∉ cl p) : Txt.split (Txt.join ⟨#[c]⟩ A) ⟨#[c]⟩ = A :=
  join_inj (split_ne _ _) h0 (StrLaws.split_free _ c) h (by rw [StrLaws.join_split, join_eq])
theorem cl_nat (m : Nat) : cl (sT (m : Int)) = (Nat.toDigits 10 m).map Char.toNat := PySem.W.KIN.signs_num m
theorem dig (m : Nat) : AllDigits (cl (sT (m : Int))) := by
  intro c hc
  rw [cl_nat] at hc
  obtain ⟨ch, hch, e⟩ := List.mem_map.mp hc
  rw [← e]
  exact PyProof.Rows.digit_range (Nat.isDigit_of_mem_toDigits (by decide) (by decide) hch)
theorem nat_ne (m : Nat) : cl (sT (m : Int)) ≠ [] := by
  rw [cl_nat]
  intro e
  have h := PySem.toDigits_len_ge 10 m
  rw [List.map_eq_nil_iff.mp e] at h
  exact absurd h (by decide)
theorem nat_len {m : Nat} (h : m < 10 ^ 31) : (cl (sT (m : Int))).length ≤ 31 := by
  rw [cl_nat, List.length_map]
  exact PySem.toDigits_len_pow (by decide) (by decide) h
theorem nat_val (m : Nat) : digitsVal (cl (sT (m : Int))) = m := by
  rw [cl_nat]
  exact PySem.W.KIN.val_back m
theorem nat_reads {m : Nat} (h : m < 10 ^ 31) : PySem.intText? (sT (m : Int)) = some (m : Int) := by
  have hl := nat_len h
  rw [cl_len] at hl
  have e := intText_digits (dig m) (nat_ne m) (by omega)
  rw [nat_val] at e
  exact e
theorem val_lt : ∀ (cs : List Nat) (a : Nat), AllDigits cs → cs.foldl (fun acc c => acc * 10 + (c - 48)) a < (a + 1) * 10 ^ cs.length
  | [], a, _ => by simp
  | c :: cs, a, h => by
    have h1 := h c (by simp)
    have ih := val_lt cs (a * 10 + (c - 48)) fun d hd => h d (by simp [hd])
    rw [List.foldl_cons, List.length_cons, Nat.pow_succ]
    refine Nat.lt_of_lt_of_le ih ?_
    rw [Nat.mul_comm (10 ^ cs.length) 10, ← Nat.mul_assoc]
    exact Nat.mul_le_mul_right _ (by omega)
theorem no_zero {m : Nat} {r : List Nat} (h : cl (sT (m : Int)) = 48 :: r) : r = [] := by
  cases r with
  | nil => rfl
  | cons d r =>
    have hv := nat_val m
    have hd := dig m
    rw [h] at hv hd
    have h1 := val_lt (d :: r) 0 (fun c hc => hd c (by simp at hc ⊢; right; exact hc))
    have h2 : digitsVal (48 :: d :: r) = (d :: r).foldl (fun acc c => acc * 10 + (c - 48)) 0 := rfl
    rw [← h2, hv, Nat.zero_add, Nat.one_mul] at h1
    have h3 := PySem.toDigits_len_pow (b := 10) (k := (d :: r).length) (by decide) (by simp) h1
    have h4 := congrArg List.length h
    rw [cl_nat, List.length_map] at h4
    simp only [List.length_cons] at h3 h4
    omega
theorem cl_neg {m : Nat} (h : 0 < m) : cl (sT (-(m : Int))) = 45 :: cl (sT (m : Int)) := by
  obtain ⟨k, rfl⟩ : ∃ k, m = k + 1 := ⟨m - 1, by omega⟩
  rw [cl_nat]
  show (Str.ofString (toString (Int.negSucc k))).cps.toList = _
  rw [PyProof.Rows.signs_ofString]
  show ("-" ++ Nat.repr (k + 1)).toList.map Char.toNat = _
  rw [String.toList_append, List.map_append, Nat.toList_repr]
  rfl
end K70
namespace K70
open PySem PySem.Spec L2 TL H
local macro_rules | `(tactic| sizeOf_list_dec) => `(tactic| first
  | with_reducible refine we_var (by with_unfolding_all exact rfl) ?_
  | with_reducible (first
  | refine ws_seq ?_ | refine ws_set ?_ | refine we_int ?_ | refine we_call ?_ | refine we_callV ?_ | refine we_trng ?_ | refine we_sset ?_ | refine we_dlit ?_ | refine we_dget ?_ | refine wa_cons ?_ | refine wa_nil ?_
  | refine we_bin ?_ | refine we_cmp ?_ | refine we_and ?_ | refine we_or ?_ | refine we_one ?_ | refine we_not ?_ | refine we_neg ?_ | refine we_gc ?_ | refine we_str ?_ | refine we_bl ?_ | refine we_non ?_
  | refine we_idx ?_ | refine we_bi ?_ | refine we_isi ?_ | refine we_meth ?_ | refine we_ite ?_ | refine we_seq ?_ | refine we_rng ?_ | refine we_enum ?_ | refine we_zip ?_
  | refine we_dnewKf ?_ | refine we_lenset ?_ | refine we_sl ?_ | refine we_rev ?_ | refine wpt_nop ?_ | refine we_tup ?_ | refine we_lst ?_ | refine we_chain ?_ | refine we_inr ?_
  | refine ws_nil ?_ | refine ws_ite ?_ | refine ws_ret ?_ | refine ws_expr ?_ | refine ws_setI ?_ | refine ws_raise ?_ | refine ws_retN ?_ | refine ws_skip ?_ | refine ws_asg ?_ | refine ws_par ?_
  | refine wr_add ?_ | refine wr_sub ?_ | refine wr_abs ?_ | refine wr_max2 ?_ | refine wr_min2 ?_ | refine wr_int ?_ | refine wr_intb ?_ | refine wr_lent ?_ | refine wr_lenl ?_ | refine wr_tupl ?_ | refine wr_tupt ?_ | refine wr_slt ?_ | refine wr_sll ?_ | refine wr_slc ?_ | refine wr_revt ?_ | refine wr_lstl ?_ | refine wr_lstt ?_ | refine wr_new ?_ | refine wr_frz ?_
  | refine ce_lt ?_ | refine ce_le ?_ | refine ce_gt ?_ | refine ce_ge ?_ | refine ce_eq ?_ | refine ce_ne ?_ | refine br_t ?_ | refine br_f ?_ | refine ex_bl ?_ | refine ex_int ?_)
  | ((with_reducible refine wpt_e ?_ ?_); exact rfl)
  | ((with_reducible refine lim_c ?_ ?_); exact rfl)
  | ((with_reducible refine wr_powl ?_ ?_); exact rfl)
  | ((with_reducible refine wr_mull ?_ ?_); exact rfl)
  | ((with_reducible refine wr_fdivl ?_ ?_); exact rfl)
  | ((with_reducible refine wr_modl ?_ ?_); exact rfl)
  | with_reducible refine br_rT (by with_unfolding_all exact rfl) ?_
  | with_reducible refine br_rF (by with_unfolding_all exact rfl) ?_
  | with_reducible refine ix_rfl (by with_unfolding_all exact rfl) ?_
  | ((with_reducible refine is_rflT ?_ ?_); · with_unfolding_all exact rfl)
  | ((with_reducible refine is_rflF ?_ ?_); · with_unfolding_all exact rfl)
  | ((with_reducible refine isn_rflT ?_ ?_); · with_unfolding_all exact rfl)
  | ((with_reducible refine isn_rflF ?_ ?_); · with_unfolding_all exact rfl)
  | ((with_reducible refine isi_rflT ?_ ?_); · with_unfolding_all exact rfl)
  | ((with_reducible refine isi_rflF ?_ ?_); · with_unfolding_all exact rfl)
  | fail)
theorem eqD_str (a b : Str) (S : Sto) : eqD (.str a) (.str b) S = some (decide (a = b)) := by
  rw [eqD_dat S rfl rfl (by simp [dat, PyData.depth])]
  simp only [dat, PyData.eqv]
  rw [show (a == b) = decide (a = b) by rw [Bool.eq_iff_iff, beq_iff_eq, decide_eq_true_eq]]
theorem ce_str {a b : Str} {S : Sto} {P : Bool → Prop} (p : P (decide (a = b))) : ∃ c, cmpB .Eq (.str a) (.str b) S = some c ∧ P c := ⟨_, by rw [show cmpB .Eq (.str a) (.str b) S = eqD (.str a) (.str b) S by unfold cmpB; rfl]; exact eqD_str a b S, p⟩
theorem cn_str {a b : Str} {S : Sto} {P : Bool → Prop} (p : P (!decide (a = b))) : ∃ c, cmpB .NotEq (.str a) (.str b) S = some c ∧ P c := ⟨_, by rw [show cmpB .NotEq (.str a) (.str b) S = (eqD (.str a) (.str b) S).map (!·) by unfold cmpB; rfl, eqD_str]; rfl, p⟩
theorem wr_lens {z : Str} {S : Sto} {Q : T → Sto → Prop} (hl : z.length ≤ LIM) (q : Q (.int z.length) S) : WR false (biF .len [.str z] S) S Q := by
  refine wr_of (r := .val (.int z.length)) ?_ (wr_val q)
  show guardR _ _ = _
  unfold guardR
  exact if_pos (decide_eq_true hl)
theorem in_one {c : Nat} {z : Str} {S : Sto} {P : Bool → Prop} (p : P (decide (c ∈ cl z))) : ∃ d, cmpB .In (.str ⟨#[c]⟩) (.str z) S = some d ∧ P d := by
  refine ⟨_, ?_, p⟩
  have e0 : cmpB .In (.str ⟨#[c]⟩) (.str z) S = some (!(Builtin.Str.occurrences z ⟨#[c]⟩ 0 z.length 1).isEmpty) := by
    unfold cmpB
    simp only [inF]
  rw [e0, StrLaws.found_one]
theorem idx_str {z : Str} {c : Nat} {r : List Nat} {S : Sto} {P : T → Prop} (h : cl z = c :: r) (hl : z.length ≤ LIM) (p : P (.str ⟨#[c]⟩)) : ∃ t, idxF (.str z) (.int 0) S = some t ∧ P t := by
  refine ⟨_, ?_, p⟩
  simp only [idxF]
  rw [if_pos hl, show z.cps.toList = c :: r from h]
  simp [L2.atI, L2.ixN]
theorem sp_eq : Str.ofString " " = ⟨#[32]⟩ := by decide +kernel
theorem nl_eq : Str.ofString "\n" = ⟨#[10]⟩ := by decide +kernel
theorem zero_eq : Str.ofString "0" = ⟨#[48]⟩ := by decide +kernel
theorem minus_eq : Str.ofString "-" = ⟨#[45]⟩ := by decide +kernel
theorem fig_eq : cl (Str.ofString "0123456789") = [48, 49, 50, 51, 52, 53, 54, 55, 56, 57] := by decide +kernel
theorem empty_eq : cl (Str.ofString "") = [] := by decide +kernel
theorem number_in_wf {m : Nat} {S : Sto} {Q : T → Sto → Prop} {X : Exn → Sto → Prop} (hm : m < 10 ^ 31) (q : Q (.int (m : Int)) S) : Wc true F_number_in [.str (sT (m : Int))] S Q X := by
  have hl := nat_len hm
  have hne := nat_ne m
  have hd := dig m
  have hlen : (sT (m : Int)).length ≤ 31 := by rw [← cl_len]; exact hl
  obtain ⟨c, r, hcr⟩ : ∃ c r, cl (sT (m : Int)) = c :: r := by
    cases h : cl (sT (m : Int)) with
    | nil => exact absurd h hne
    | cons c r => exact ⟨c, r, rfl⟩
  refine wc_fn (fn_ws ?_)
  unfold B_number_in
  repeat' sizeOf_list_dec
  refine ce_str ?_
  rw [show decide (sT (m : Int) = Str.ofString "") = false from decide_eq_false fun e => hne (by rw [e]; exact empty_eq)]
  repeat' sizeOf_list_dec
  refine wr_lens (by unfold LIM; omega) ?_
  repeat' sizeOf_list_dec
  refine br_d (fun h => by omega) (fun _ => ?_)
  repeat' sizeOf_list_dec
  refine we_mapL (α := Nat) ?_
  refine we_sseq ?_
  repeat' sizeOf_list_dec
  refine ⟨sT (m : Int), rfl, by unfold LIM; omega, cl (sT (m : Int)), fun c => .str ⟨#[c]⟩, fun _ => .bl true, rfl, by unfold LIM; omega, rfl, fun x hx => ⟨_, rfl, ?_⟩, ?_⟩
  · repeat' sizeOf_list_dec
    refine in_one ?_
    rw [fig_eq]
    refine ⟨?_, rfl⟩
    have := hd x hx
    rw [decide_eq_true]
    simp only [List.mem_cons, List.not_mem_nil, or_false]
    omega
  refine wr_frz ?_
  repeat' sizeOf_list_dec
  refine wr_allm (f := fun _ => true) ?_
  rw [show ((cl (sT (m : Int))).all fun _ => true) = true by simp]
  repeat' sizeOf_list_dec
  refine idx_str hcr (by unfold LIM; omega) ?_
  repeat' sizeOf_list_dec
  refine ce_str ?_
  rw [zero_eq]
  by_cases hc : c = 48
  · subst hc
    have hr := no_zero hcr
    subst hr
    have e : sT (m : Int) = ⟨#[48]⟩ := cl_inj hcr
    repeat' sizeOf_list_dec
    refine cn_str ?_
    rw [e]
    repeat' sizeOf_list_dec
    rw [← e]
    exact wr_intS (nat_reads hm) (by omega) q
  · rw [show decide ((⟨#[c]⟩ : Str) = ⟨#[48]⟩) = false from decide_eq_false fun e => hc (by injection e with e; injection e with e; injection e)]
    repeat' sizeOf_list_dec
    exact wr_intS (nat_reads hm) (by omega) q
theorem cl_cut1 (z : Str) : cl (L2.cutS z none (some 1)) = (cl z).take 1 := by
  show ((z.cps.toList.drop (HT.sIx z.length 0 none)).take (HT.sIx z.length z.length (some ((1 : Nat) : Int)) - HT.sIx z.length 0 none)).toArray.toList = _
  rw [HT.sIx_none, HT.sIx_nat, List.drop_zero, Nat.sub_zero]
  show List.take (min 1 z.length) z.cps.toList = z.cps.toList.take 1
  have : z.cps.toList.length = z.length := cl_len z
  by_cases h : 1 ≤ z.length
  · rw [Nat.min_eq_left h]
  · rw [Nat.min_eq_right (by omega), List.take_of_length_le (by omega), List.take_of_length_le (by omega)]
theorem cl_drop1 (z : Str) : cl (L2.cutS z (some 1) none) = (cl z).drop 1 := by
  show ((z.cps.toList.drop (HT.sIx z.length 0 (some ((1 : Nat) : Int)))).take (HT.sIx z.length z.length none - HT.sIx z.length 0 (some ((1 : Nat) : Int)))).toArray.toList = _
  rw [HT.sIx_none, HT.sIx_nat]
  show List.take (z.length - min 1 z.length) (z.cps.toList.drop (min 1 z.length)) = z.cps.toList.drop 1
  have : z.cps.toList.length = z.length := cl_len z
  by_cases h : 1 ≤ z.length
  · rw [Nat.min_eq_left h, List.take_of_length_le (by rw [List.length_drop]; omega)]
  · rw [Nat.min_eq_right (by omega), List.take_of_length_le (by rw [List.length_drop]; omega), List.drop_eq_nil_of_le (by omega), List.drop_eq_nil_of_le (by omega)]
theorem cut_nat (m : Nat) : decide (L2.cutS (sT (m : Int)) none (some 1) = Str.ofString "-") = false := by
  refine decide_eq_false fun e => ?_
  have h1 := congrArg cl e
  rw [cl_cut1, minus_eq] at h1
  have hd := dig m
  cases h : cl (sT (m : Int)) with
  | nil => exact nat_ne m h
  | cons c r =>
    rw [h] at h1 hd
    have := hd c (by simp)
    simp only [List.take_succ_cons, List.take_zero] at h1
    have h2 : c = 45 := by injection h1
    omega
theorem signed_in_wf {v : Int} {S : Sto} {Q : T → Sto → Prop} {X : Exn → Sto → Prop} (h0 : -(10 ^ 30) ≤ v) (h1 : v ≤ 10 ^ 30) (q : Q (.int v) S) : Wc true F_signed_in [.str (sT v)] S Q X := by
  refine wc_fn (fn_ws ?_)
  unfold B_signed_in
  by_cases hv : 0 ≤ v
  · obtain ⟨m, rfl⟩ := Int.eq_ofNat_of_zero_le hv
    have hm : m < 10 ^ 31 := by omega
    have hl := nat_len hm
    rw [cl_len] at hl
    repeat' sizeOf_list_dec
    refine wr_sls (by unfold LIM; omega) ?_
    repeat' sizeOf_list_dec
    refine cn_str ?_
    rw [cut_nat]
    repeat' sizeOf_list_dec
    exact number_in_wf hm q
  · obtain ⟨m, rfl⟩ : ∃ m : Nat, v = -(m : Int) := ⟨v.natAbs, by omega⟩
    have hm0 : 0 < m := by omega
    have hm : m < 10 ^ 31 := by omega
    have hc := cl_neg hm0
    have hl := nat_len hm
    have hlen : (sT (-(m : Int))).length ≤ 32 := by rw [← cl_len, hc, List.length_cons]; omega
    have e1 : L2.cutS (sT (-(m : Int))) none (some 1) = Str.ofString "-" := cl_inj (by rw [cl_cut1, hc, minus_eq]; rfl)
    have e2 : L2.cutS (sT (-(m : Int))) (some 1) none = sT (m : Int) := cl_inj (by rw [cl_drop1, hc]; rfl)
    repeat' sizeOf_list_dec
    refine wr_sls (by unfold LIM; omega) ?_
    rw [e1]
    repeat' sizeOf_list_dec
    refine cn_str ?_
    rw [decide_eq_true rfl]
    repeat' sizeOf_list_dec
    refine wr_sls (by unfold LIM; omega) ?_
    rw [e2]
    repeat' sizeOf_list_dec
    refine number_in_wf hm ?_
    repeat' sizeOf_list_dec
    refine br_d (fun h => by omega) (fun _ => ?_)
    repeat' sizeOf_list_dec
    rw [Int.zero_sub]
    exact q
theorem sT_chars (v : Int) : ∀ c ∈ cl (sT v), c = 45 ∨ (48 ≤ c ∧ c ≤ 57) := by
  by_cases hv : 0 ≤ v
  · obtain ⟨m, rfl⟩ := Int.eq_ofNat_of_zero_le hv
    exact fun c hc => .inr (dig m c hc)
  · obtain ⟨m, rfl⟩ : ∃ m : Nat, v = -(m : Int) := ⟨v.natAbs, by omega⟩
    intro c hc
    rw [cl_neg (by omega)] at hc
    rcases List.mem_cons.mp hc with rfl | hc
    · exact .inl rfl
    · exact .inr (dig m c hc)
theorem sT_len {v : Int} (h0 : -(10 ^ 30) ≤ v) (h1 : v ≤ 10 ^ 30) : (sT v).length ≤ 32 := by
  rw [← cl_len]
  by_cases hv : 0 ≤ v
  · obtain ⟨m, rfl⟩ := Int.eq_ofNat_of_zero_le hv
    have := nat_len (m := m) (by omega)
    omega
  · obtain ⟨m, rfl⟩ : ∃ m : Nat, v = -(m : Int) := ⟨v.natAbs, by omega⟩
    have := nat_len (m := m) (by omega)
    rw [cl_neg (by omega), List.length_cons]
    omega
theorem mem_join {s c : Nat} : ∀ {A : List Str}, c ∈ cl (Str.join ⟨#[s]⟩ A) → c = s ∨ ∃ p ∈ A, c ∈ cl p
  | [], h => by cases h
  | [x], h => .inr ⟨x, by simp, h⟩
  | x :: y :: r, h => by
    rw [join2, List.mem_append, List.mem_cons] at h
    rcases h with h | h | h
    · exact .inr ⟨x, by simp, h⟩
    · exact .inl h
    · rcases mem_join h with h | ⟨p, hp, h⟩
      · exact .inl h
      · exact .inr ⟨p, List.mem_cons_of_mem _ hp, h⟩
def wWeb (n : Int) (k : Int) : List Str := [Str.ofString "web", sT n, sT k]
def wArr (x : Ar) : List Str := [Str.ofString "arrow", sT x.1, sT x.2.1, sT x.2.2]
def rowW (n k : Int) : Str := Txt.join ⟨#[32]⟩ (wWeb n k)
def rowA (x : Ar) : Str := Txt.join ⟨#[32]⟩ (wArr x)
theorem web_eq : cl (Str.ofString "web") = [119, 101, 98] := by decide +kernel
theorem webs_eq : cl (Str.ofString "web ") = [119, 101, 98, 32] := by decide +kernel
theorem arrow_eq : cl (Str.ofString "arrow") = [97, 114, 114, 111, 119] := by decide +kernel
theorem arrows_eq : cl (Str.ofString "arrow ") = [97, 114, 114, 111, 119, 32] := by decide +kernel
theorem rowW_eq (n k : Int) : Str.ofString "web " ++ sT n ++ Str.ofString " " ++ sT k = rowW n k := by
  apply cl_inj
  unfold rowW wWeb
  rw [join_eq, join2, join2, cl_app, cl_app, cl_app, webs_eq, web_eq, sp_eq]
  simp [Str.join]
  rfl
theorem rowA_eq (x : Ar) : Str.ofString "arrow " ++ Txt.join (Str.ofString " ") [sT x.1, sT x.2.1, sT x.2.2] = rowA x := by
  apply cl_inj
  unfold rowA wArr
  rw [sp_eq, join_eq, join_eq, cl_app, join2, join2, join2, join2, join2, arrows_eq, arrow_eq]
  simp
theorem free {w : List Str} {c : Nat} (hc : c < 45) (h : ∀ p ∈ w, ∀ d ∈ cl p, 45 ≤ d) : ∀ p ∈ w, c ∉ cl p := fun p hp hd => by
  have := h p hp c hd
  omega
theorem wWeb_ch (n k : Int) : ∀ p ∈ wWeb n k, ∀ d ∈ cl p, 45 ≤ d := by
  intro p hp d hd
  simp only [wWeb, List.mem_cons, List.not_mem_nil, or_false] at hp
  rcases hp with rfl | rfl | rfl
  · rw [web_eq] at hd
    simp only [List.mem_cons, List.not_mem_nil, or_false] at hd
    omega
  · have := sT_chars _ d hd; omega
  · have := sT_chars _ d hd; omega
theorem wArr_ch (x : Ar) : ∀ p ∈ wArr x, ∀ d ∈ cl p, 45 ≤ d := by
  intro p hp d hd
  simp only [wArr, List.mem_cons, List.not_mem_nil, or_false] at hp
  rcases hp with rfl | rfl | rfl | rfl
  · rw [arrow_eq] at hd
    simp only [List.mem_cons, List.not_mem_nil, or_false] at hd
    omega
  · have := sT_chars _ d hd; omega
  · have := sT_chars _ d hd; omega
  · have := sT_chars _ d hd; omega
theorem split_web (n k : Int) : Txt.split (rowW n k) ⟨#[32]⟩ = wWeb n k := split_join (by simp [wWeb]) (free (by decide) (wWeb_ch n k))
theorem split_arr (x : Ar) : Txt.split (rowA x) ⟨#[32]⟩ = wArr x := split_join (by simp [wArr]) (free (by decide) (wArr_ch x))
theorem row_free {w : List Str} (h : ∀ p ∈ w, ∀ d ∈ cl p, 45 ≤ d) : 10 ∉ cl (Txt.join ⟨#[32]⟩ w) := by
  intro hm
  rw [join_eq] at hm
  rcases mem_join hm with h1 | ⟨p, hp, h1⟩
  · cases h1
  · have := h p hp _ h1
    omega
def rowsL (n : Int) (ar : List Ar) : List Str := rowW n ar.length :: ar.map rowA
def textW (n : Int) (ar : List Ar) : Str := Txt.join ⟨#[10]⟩ (rowsL n ar)
theorem split_text (n : Int) (ar : List Ar) : Txt.split (textW n ar) ⟨#[10]⟩ = rowsL n ar := split_join (by simp [rowsL]) fun p hp => by
  rcases List.mem_cons.mp hp with rfl | hp
  · exact row_free (wWeb_ch _ _)
  · obtain ⟨x, _, rfl⟩ := List.mem_map.mp hp
    exact row_free (wArr_ch x)
theorem sum_le {b : Nat} : ∀ {l : List Nat}, (∀ x ∈ l, x ≤ b) → l.sum ≤ l.length * b
  | [], _ => by simp
  | x :: l, h => by
    have h1 := h x (by simp)
    have h2 := sum_le fun y hy => h y (List.mem_cons_of_mem x hy)
    rw [List.sum_cons, List.length_cons, Nat.add_mul]
    omega
theorem lens_le {b : Nat} {A : List Str} (h : ∀ p ∈ A, p.length ≤ b) : (A.map (·.length)).sum ≤ A.length * b := by
  have := sum_le (b := b) (l := A.map (·.length)) fun x hx => by
    obtain ⟨p, hp, rfl⟩ := List.mem_map.mp hx
    exact h p hp
  rwa [List.length_map] at this
theorem join_len {s : Nat} {b : Nat} {A : List Str} (h : ∀ p ∈ A, p.length ≤ b) : (Txt.join ⟨#[s]⟩ A).length ≤ A.length * (b + 1) := by
  have h1 := StrLaws.join_length_le ⟨#[s]⟩ A
  have h2 := lens_le h
  rw [join_eq, Nat.mul_add]
  have h3 : (⟨#[s]⟩ : Str).length = 1 := rfl
  rw [h3] at h1
  omega
structure W8 (n : Int) (ar : List Ar) : Prop where
  w : WebG n ar
  n8 : n ≤ 8
  k24 : ar.length ≤ 24
theorem web_len : (Str.ofString "web").length = 3 := by decide +kernel
theorem arrow_len : (Str.ofString "arrow").length = 5 := by decide +kernel
theorem rowW_len {n k : Int} (h0 : 0 ≤ n) (h1 : n ≤ 100) (h2 : 0 ≤ k) (h3 : k ≤ 100) : (rowW n k).length ≤ 99 := join_len (A := wWeb n k) (b := 32) fun p hp => by
  simp only [wWeb, List.mem_cons, List.not_mem_nil, or_false] at hp
  rcases hp with rfl | rfl | rfl
  · rw [web_len]; omega
  · exact sT_len (by omega) (by omega)
  · exact sT_len (by omega) (by omega)
theorem rowA_len {n : Int} {ar : List Ar} (w : W8 n ar) {x : Ar} (hx : x ∈ ar) : (rowA x).length ≤ 132 := join_len (A := wArr x) (b := 32) fun p hp => by
  have o := w.w.ok x hx
  have := w.n8
  simp only [wArr, List.mem_cons, List.not_mem_nil, or_false] at hp
  rcases hp with rfl | rfl | rfl | rfl
  · rw [arrow_len]; omega
  · exact sT_len (by omega) (by omega)
  · exact sT_len (by omega) (by omega)
  · exact sT_len (by omega) (by omega)
theorem rows_len {n : Int} {ar : List Ar} (w : W8 n ar) : ∀ p ∈ rowsL n ar, p.length ≤ 132 := fun p hp => by
  have h1 := w.w.n1
  have h2 := w.n8
  have h3 := w.k24
  rcases List.mem_cons.mp hp with rfl | hp
  · exact Nat.le_trans (rowW_len (by omega) (by omega) (by omega) (by omega)) (by decide)
  · obtain ⟨x, hx, rfl⟩ := List.mem_map.mp hp
    exact rowA_len w hx
theorem rowsL_len {n : Int} {ar : List Ar} (w : W8 n ar) : (rowsL n ar).length ≤ 25 := by
  have := w.k24
  simp only [rowsL, List.length_cons, List.length_map]
  omega
theorem text_len {n : Int} {ar : List Ar} (w : W8 n ar) : (textW n ar).length ≤ 3325 := by
  have h1 := join_len (s := 10) (rows_len w)
  have h2 := rowsL_len w
  unfold textW
  have : (rowsL n ar).length * (132 + 1) ≤ 25 * 133 := Nat.mul_le_mul_right _ h2
  omega
theorem strs_map : ∀ A : List Str, T.strs (A.map T.str) = some A
  | [] => rfl
  | x :: A => by
    have := strs_map A
    simp only [List.map_cons, T.strs, this]
    rfl
theorem join_ok {z : Str} {y : T} {A : List Str} {S : Sto} (hs : S.seq y = some (A.map T.str)) (hl : (A.map (·.length)).sum + A.length * z.length ≤ LIM) {P : Str → Prop} (p : P (Txt.join z A)) : ∃ w, joinF z y S = some w ∧ P w := by
  refine ⟨_, ?_, p⟩
  unfold joinF
  rw [hs, Option.bind_some, strs_map]
  exact if_pos hl
theorem lg {i : Int} (h0 : -(10 ^ 30) ≤ i) (h1 : i ≤ 10 ^ 30) : i.natAbs.log2 < 1920 := by
  by_cases h : i.natAbs = 0
  · rw [h]; decide
  · have h2 : i.natAbs < 2 ^ 100 := by
      have : (10 : Nat) ^ 30 < 2 ^ 100 := by decide
      omega
    have := (Nat.log2_lt h).mpr h2
    omega
theorem wr_strI {i : Int} {S : Sto} {Q : T → Sto → Prop} (h0 : -(10 ^ 30) ≤ i) (h1 : i ≤ 10 ^ 30) (q : Q (.str (sT i)) S) : WR false (biF .str [.int i] S) S Q := by
  refine wr_of (r := .val (.str (sT i))) ?_ (wr_val q)
  show guardR _ _ = _
  unfold guardR
  exact if_pos (decide_eq_true (lg h0 h1))
theorem webs_len : (Str.ofString "web ").length = 4 := by decide +kernel
theorem arrows_len : (Str.ofString "arrow ").length = 6 := by decide +kernel
theorem sp_len : (Str.ofString " ").length = 1 := by decide +kernel
theorem nl_len : (Str.ofString "\n").length = 1 := by decide +kernel
theorem ex_own {S : Sto} {j : Nat} {xs ys : List T} (e : S[j]? = some (.lst xs)) (hl : xs.length + ys.length ≤ 1000000) {P : T → Sto → Prop} (p : P .non (S.set j (.lst (xs ++ ys)))) : ∃ u S3, mtF .extend (.ref j) [.lst ys] S = some (u, S3) ∧ P u S3 := by
  refine ⟨_, _, ?_, p⟩
  simp only [mtF, e, Sto.items]
  rw [if_pos (by unfold LIM; exact hl)]
theorem ap_tyX {S : Sto} {j : Nat} {xs : List T} {A : Prop} (e : S[j]? = some (.lst xs)) (h : A) : mtTy .extend (.ref j) S = true ∧ A := ⟨by simp only [mtTy, e], h⟩
theorem rows_shown_po {n : Int} {ar : List Ar} {S : Sto} (w : W8 n ar) : Po (fun t S' => t = .ref S.length ∧ S' = S ++ [.lst ((rowsL n ar).map T.str)]) NoX (F_rows_shown [webT n ar] S) := by
  have hn1 := w.w.n1
  have hn8 := w.n8
  have hk := w.k24
  have hl := rowW_len (n := n) (k := (ar.length : Int)) (by omega) (by omega) (by omega) (by omega)
  refine fn_ws ?_
  unfold B_rows_shown
  repeat' sizeOf_list_dec
  refine wr_strI (by omega) (by omega) ?_
  repeat' sizeOf_list_dec
  refine wr_cats (by rw [webs_len]; have := sT_len (v := n) (by omega) (by omega); unfold LIM; omega) ?_
  repeat' sizeOf_list_dec
  refine wr_cats (by rw [Str.length_append, webs_len, sp_len]; have := sT_len (v := n) (by omega) (by omega); unfold LIM; omega) ?_
  repeat' sizeOf_list_dec
  rw [List.length_map]
  refine wr_strI (by omega) (by omega) ?_
  repeat' sizeOf_list_dec
  refine wr_cats (by rw [Str.length_append, Str.length_append, webs_len, sp_len]; have := sT_len (v := n) (by omega) (by omega); have := sT_len (v := (ar.length : Int)) (by omega) (by omega); unfold LIM; omega) ?_
  rw [rowW_eq]
  repeat' sizeOf_list_dec
  refine ap_tyX (own_at _ _) ?_
  repeat' sizeOf_list_dec
  refine we_mapL (α := Ar) ?_
  repeat' sizeOf_list_dec
  refine ⟨ar, arT, fun x => .str (rowA x), rfl, by unfold LIM; omega, rfl, fun x hx => ⟨_, rfl, ?_⟩, ?_⟩
  · have o := w.w.ok x hx
    repeat' sizeOf_list_dec
    refine we_join ?_
    repeat' sizeOf_list_dec
    refine ⟨_, rfl, ?_⟩
    refine we_mapL (α := Int) ?_
    repeat' sizeOf_list_dec
    refine ⟨[x.1, x.2.1, x.2.2], T.int, fun i => .str (sT i), rfl, by simp [LIM], rfl, fun i hi => ⟨_, rfl, ?_⟩, ?_⟩
    · have hi2 : -(10 ^ 30) ≤ i ∧ i ≤ 10 ^ 30 := by
        simp only [List.mem_cons, List.not_mem_nil, or_false] at hi
        rcases hi with rfl | rfl | rfl <;> omega
      repeat' sizeOf_list_dec
      exact wr_strI hi2.1 hi2.2 ⟨rfl, rfl⟩
    refine wr_frz ?_
    have l1 := sT_len (v := x.1) (by omega) (by omega)
    have l2 := sT_len (v := x.2.1) (by omega) (by omega)
    have l3 := sT_len (v := x.2.2) (by omega) (by omega)
    have hj : (Txt.join (Str.ofString " ") [sT x.1, sT x.2.1, sT x.2.2]).length ≤ 99 := by
      rw [sp_eq]
      refine join_len (A := [sT x.1, sT x.2.1, sT x.2.2]) (b := 32) fun p hp => ?_
      simp only [List.mem_cons, List.not_mem_nil, or_false] at hp
      rcases hp with rfl | rfl | rfl <;> assumption
    refine join_ok (A := [sT x.1, sT x.2.1, sT x.2.2]) rfl (by rw [sp_len]; simp [LIM]; omega) ?_
    refine wr_cats (by rw [arrows_len]; unfold LIM; omega) ?_
    rw [rowA_eq]
    exact ⟨rfl, rfl⟩
  refine wr_frz ?_
  repeat' sizeOf_list_dec
  refine ex_own (own_at _ _) (by simp; omega) ?_
  rw [own_set]
  repeat' sizeOf_list_dec
  refine ⟨rfl, ?_⟩
  simp [rowsL]
theorem web_shown_wf {n : Int} {ar : List Ar} {S : Sto} {Q : T → Sto → Prop} {X : Exn → Sto → Prop} (w : W8 n ar) (hS : Cl S) (q : Q (.str (textW n ar)) S) : Wc true F_web_shown [webT n ar] S Q X := by
  have hl := lens_le (rows_len w)
  have hl2 := rowsL_len w
  refine wc_fn (fn_ws ?_)
  unfold B_web_shown
  repeat' sizeOf_list_dec
  refine we_join ?_
  repeat' sizeOf_list_dec
  refine ⟨_, rfl, ?_⟩
  repeat' sizeOf_list_dec
  refine wf_frzL (Po.mono (fun t S' z => ?_) (fun _ _ h => h) (rows_shown_po (S := S) w))
  obtain ⟨rfl, rfl⟩ := z
  refine ⟨S.length, _, rfl, Nat.le_refl _, own_at _ _, noRefs_map T.str (fun _ => rfl) _, ?_, ?_⟩
  · rw [List.take_left]; exact hS
  · rw [List.take_left]
    refine join_ok (A := rowsL n ar) rfl (by rw [nl_len]; unfold LIM; omega) ?_
    rw [nl_eq]
    exact q
theorem law_text_wf {n : Int} {ar : List Ar} {S : Sto} {Q : T → Sto → Prop} {X : Exn → Sto → Prop} (w : W8 n ar) (hS : Cl S) (q : Q (.str (textW n ar)) S) : Wc false F__law_text [webT n ar] S Q X := by
  have hn1 := w.w.n1
  have hn8 := w.n8
  have hk := w.k24
  have hl := lens_le (rows_len w)
  have hl2 := rowsL_len w
  refine wf_frzC (Po.mono (Q := fun t S' => t = .str (textW n ar) ∧ ∃ Y, S' = S ++ Y) (fun t S' z => by obtain ⟨rfl, Y, rfl⟩ := z; rw [List.take_left]; exact ⟨rfl, hS, q⟩) (fun _ _ h => h) ?_)
  refine fn_ws ?_
  unfold B__law_text
  repeat' sizeOf_list_dec
  refine wr_strI (by omega) (by omega) ?_
  repeat' sizeOf_list_dec
  refine wr_cats (by rw [webs_len]; have := sT_len (v := n) (by omega) (by omega); unfold LIM; omega) ?_
  repeat' sizeOf_list_dec
  refine wr_cats (by rw [Str.length_append, webs_len, sp_len]; have := sT_len (v := n) (by omega) (by omega); unfold LIM; omega) ?_
  repeat' sizeOf_list_dec
  rw [List.length_map]
  refine wr_strI (by omega) (by omega) ?_
  repeat' sizeOf_list_dec
  refine wr_cats (by rw [Str.length_append, Str.length_append, webs_len, sp_len]; have := sT_len (v := n) (by omega) (by omega); have := sT_len (v := (ar.length : Int)) (by omega) (by omega); unfold LIM; omega) ?_
  rw [rowW_eq]
  repeat' sizeOf_list_dec
  refine ws_loop (fun k l S' => S ++ [.lst ((rowW n ar.length :: (ar.take k).map rowA).map T.str)] = S' ∧ ∃ y2, l = [some (webT n ar), some (.ref S.length), y2, none]) ?_
  repeat' sizeOf_list_dec
  refine ⟨ar.map arT, rfl, ⟨rfl, _, rfl⟩, fun _ _ _ _ => rfl, ?_, ?_⟩
  · rintro k t l S' hk ⟨rfl, y2, rfl⟩
    rw [List.getElem?_map] at hk
    cases hx2 : ar[k]? with
    | none => rw [hx2] at hk; cases hk
    | some x =>
    rw [hx2] at hk
    cases hk
    have hx := List.mem_of_getElem? hx2
    have o := w.w.ok x hx
    refine ⟨_, rfl, ?_⟩
    repeat' sizeOf_list_dec
    refine ap_ty (own_at _ _) ?_
    repeat' sizeOf_list_dec
    refine we_join ?_
    repeat' sizeOf_list_dec
    refine ⟨_, rfl, ?_⟩
    refine we_mapL (α := Int) ?_
    repeat' sizeOf_list_dec
    refine ⟨[x.1, x.2.1, x.2.2], T.int, fun i => .str (sT i), rfl, by simp [LIM], rfl, fun i hi => ⟨_, rfl, ?_⟩, ?_⟩
    · have hi2 : -(10 ^ 30) ≤ i ∧ i ≤ 10 ^ 30 := by
        simp only [List.mem_cons, List.not_mem_nil, or_false] at hi
        rcases hi with rfl | rfl | rfl <;> omega
      repeat' sizeOf_list_dec
      exact wr_strI hi2.1 hi2.2 ⟨rfl, rfl⟩
    refine wr_frz ?_
    have l1 := sT_len (v := x.1) (by omega) (by omega)
    have l2 := sT_len (v := x.2.1) (by omega) (by omega)
    have l3 := sT_len (v := x.2.2) (by omega) (by omega)
    have hj : (Txt.join (Str.ofString " ") [sT x.1, sT x.2.1, sT x.2.2]).length ≤ 99 := by
      rw [sp_eq]
      refine join_len (A := [sT x.1, sT x.2.1, sT x.2.2]) (b := 32) fun p hp => ?_
      simp only [List.mem_cons, List.not_mem_nil, or_false] at hp
      rcases hp with rfl | rfl | rfl <;> assumption
    refine join_ok (A := [sT x.1, sT x.2.1, sT x.2.2]) rfl (by rw [sp_len]; simp [LIM]; omega) ?_
    refine wr_cats (by rw [arrows_len]; unfold LIM; omega) ?_
    rw [rowA_eq]
    repeat' sizeOf_list_dec
    refine ap_own (own_at _ _) (by simp; omega) ?_
    rw [own_set]
    repeat' sizeOf_list_dec
    refine ⟨?_, _, rfl⟩
    rw [List.take_add_one, hx2]
    simp
  · rintro l S' ⟨rfl, y2, rfl⟩
    rw [List.length_map, List.take_length]
    repeat' sizeOf_list_dec
    refine we_join ?_
    repeat' sizeOf_list_dec
    refine ⟨_, rfl, ?_⟩
    repeat' sizeOf_list_dec
    refine join_ok (A := rowsL n ar) (by simp only [Sto.seq, own_at]; rfl) (by rw [nl_len]; unfold LIM; omega) ?_
    rw [nl_eq]
    exact ⟨rfl, _, rfl⟩
theorem sizes_in_wf {n k : Int} {S : Sto} {Q : T → Sto → Prop} {X : Exn → Sto → Prop} (n1 : 1 ≤ n) (n8 : n ≤ 8) (k0 : 0 ≤ k) (k24 : k ≤ 24) (q : Q (.tup [.int n, .int k]) S) : Wc true F_sizes_in [.str (rowW n k)] S Q X := by
  have hl := rowW_len (n := n) (k := k) (by omega) (by omega) (by omega) (by omega)
  obtain ⟨a, rfl⟩ := Int.eq_ofNat_of_zero_le (show 0 ≤ n by omega)
  obtain ⟨b, rfl⟩ := Int.eq_ofNat_of_zero_le k0
  refine wc_fn (fn_ws ?_)
  unfold B_sizes_in
  refine ws_seq (ws_set (we_split ?_))
  repeat' sizeOf_list_dec
  refine ⟨_, rfl, ?_⟩
  repeat' sizeOf_list_dec
  refine ⟨_, rfl, ⟨by rw [sp_len]; rfl, by unfold LIM; omega⟩, ?_⟩
  rw [sp_eq, split_web]
  rw [show (wWeb (a : Int) (b : Int)).map T.str = [.str (Str.ofString "web"), .str (sT (a : Int)), .str (sT (b : Int))] from rfl]
  repeat' sizeOf_list_dec
  refine cn_str ?_
  rw [decide_eq_true rfl]
  repeat' sizeOf_list_dec
  refine number_in_wf (by omega) ?_
  repeat' sizeOf_list_dec
  refine number_in_wf (by omega) ?_
  repeat' sizeOf_list_dec
  refine ⟨_, _, rfl, ?_⟩
  repeat' sizeOf_list_dec
  rw [decide_eq_true (show 1 ≤ (a : Int) from n1)]
  refine ⟨fun _ => ?_, fun h => by cases h⟩
  repeat' sizeOf_list_dec
  rw [decide_eq_true n8]
  repeat' sizeOf_list_dec
  refine br_d (fun h => by omega) (fun _ => ?_)
  repeat' sizeOf_list_dec
  exact q
theorem arrow_in_wf {n : Int} {x : Ar} {S : Sto} {Q : T → Sto → Prop} {X : Exn → Sto → Prop} (hn : n ≤ 8) (o : 0 ≤ x.1 ∧ x.1 < n ∧ 0 ≤ x.2.1 ∧ x.2.1 < n ∧ -(10 ^ 30) ≤ x.2.2 ∧ x.2.2 ≤ 10 ^ 30) (hl : (rowA x).length ≤ 132) (q : Q (arT x) S) : Wc true F_arrow_in [.int n, .str (rowA x)] S Q X := by
  obtain ⟨u, v, c⟩ := x
  dsimp only at o
  obtain ⟨a, rfl⟩ := Int.eq_ofNat_of_zero_le o.1
  obtain ⟨b, rfl⟩ := Int.eq_ofNat_of_zero_le o.2.2.1
  refine wc_fn (fn_ws ?_)
  unfold B_arrow_in
  refine ws_seq (ws_set (we_split ?_))
  repeat' sizeOf_list_dec
  refine ⟨_, rfl, ?_⟩
  repeat' sizeOf_list_dec
  refine ⟨_, rfl, ⟨by rw [sp_len]; rfl, by unfold LIM; omega⟩, ?_⟩
  rw [sp_eq, split_arr]
  rw [show (wArr ((a : Int), (b : Int), c)).map T.str = [.str (Str.ofString "arrow"), .str (sT (a : Int)), .str (sT (b : Int)), .str (sT c)] from rfl]
  repeat' sizeOf_list_dec
  refine cn_str ?_
  rw [decide_eq_true rfl]
  repeat' sizeOf_list_dec
  refine number_in_wf (by omega) ?_
  repeat' sizeOf_list_dec
  refine number_in_wf (by omega) ?_
  repeat' sizeOf_list_dec
  refine signed_in_wf (by omega) (by omega) ?_
  repeat' sizeOf_list_dec
  refine wf_keep (arrow_good_eq n _ S rfl) ?_
  rw [show arrowB n (.tup [.int (a : Int), .int (b : Int), .int c]) = true by simp [arrowB]; omega]
  repeat' sizeOf_list_dec
  exact q
theorem idx_last {S : Sto} {i : Nat} {xs : List T} {t : T} (e : S[i]? = some (.lst xs)) (h : xs[xs.length - 1]? = some t) : idxF (.ref i) (.int (-1)) S = some t := by
  have hl := (List.getElem?_eq_some_iff.mp h).1
  simp only [idxF, Sto.seq, e, L2.atI, L2.ixN]
  rw [if_neg (by omega), if_pos (by omega)]
  rw [show ((-1 : Int) + (xs.length : Int)).toNat = xs.length - 1 by omega]
  simpa using h
theorem le_no {a b c d : Int} {S : Sto} {P : Bool → Prop} (h : c < a ∨ (c = a ∧ d < b)) (p : P false) : ∃ e, cmpB .LtE (.tup [.int a, .int b]) (.tup [.int c, .int d]) S = some e ∧ P e := by
  refine ⟨false, ?_, p⟩
  have e0 : cmpB .LtE (.tup [.int a, .int b]) (.tup [.int c, .int d]) S = some (lexLe [a, b] [c, d]) := by unfold cmpB; rfl
  have e1 : lexLe [a, b] [c, d] = (if decide (a = c) = true then (if decide (b = d) = true then decide (2 ≤ 2) else decide (b ≤ d)) else decide (a ≤ c)) := rfl
  rw [e0, e1]
  rcases h with h | ⟨rfl, h⟩
  · rw [if_neg (by simp; omega)]
    simp
    omega
  · rw [if_pos (by simp), if_neg (by simp; omega)]
    simp
    omega
theorem web_read_wf {n : Int} {ar : List Ar} {S : Sto} {Q : T → Sto → Prop} {X : Exn → Sto → Prop} (w : W8 n ar) (hS : Cl S) (q : Q (webT n ar) S) : Wc false F_web_read [.str (textW n ar)] S Q X := by
  have hn1 := w.w.n1
  have hn8 := w.n8
  have hk := w.k24
  have hl := text_len w
  refine wf_frzC (Po.mono (Q := fun t S' => t = webT n ar ∧ ∃ Y, S' = S ++ Y) (fun t S' z => by obtain ⟨rfl, Y, rfl⟩ := z; rw [List.take_left]; exact ⟨noRef_web n ar, hS, q⟩) (fun _ _ h => h) ?_)
  refine fn_ws ?_
  unfold B_web_read
  repeat' sizeOf_list_dec
  refine we_split ?_
  repeat' sizeOf_list_dec
  refine ⟨_, rfl, ?_⟩
  repeat' sizeOf_list_dec
  refine ⟨_, rfl, ⟨by rw [nl_len]; rfl, by unfold LIM; omega⟩, ?_⟩
  rw [nl_eq, split_text]
  repeat' sizeOf_list_dec
  refine ⟨.str (rowW n ar.length), by unfold rowsL; rw [List.map_cons]; exact idx0L _ _ _, ?_⟩
  repeat' sizeOf_list_dec
  refine sizes_in_wf hn1 hn8 (by omega) (by omega) ?_
  repeat' sizeOf_list_dec
  have ecut : cutT ((rowsL n ar).map T.str) (some 1) none = ar.map fun x => T.str (rowA x) := by
    rw [show (some 1 : Option Int) = some ((1 : Nat) : Int) from rfl, cut_from]
    simp [rowsL]
  refine ws_loop (fun i l S' => S ++ [.lst ((ar.take i).map arT)] = S' ∧ ∃ y4 y5 y6, l = [some (.str (textW n ar)), some (.lst ((rowsL n ar).map T.str)), some (.tup [.int n, .int ar.length]), some (.ref S.length), y4, y5, y6]) ?_
  repeat' sizeOf_list_dec
  rw [ecut]
  refine ⟨enumT 0 (ar.map fun x => T.str (rowA x)), rfl, ⟨rfl, _, _, _, rfl⟩, fun _ _ _ _ => rfl, ?_, ?_⟩
  · rintro i t l S' hi ⟨rfl, y4, y5, y6, rfl⟩
    rw [H.enumT_at, List.getElem?_map] at hi
    cases hx2 : ar[i]? with
    | none => rw [hx2] at hi; cases hi
    | some x =>
    rw [hx2] at hi
    cases hi
    have hx := List.mem_of_getElem? hx2
    have hil := (List.getElem?_eq_some_iff.mp hx2).1
    have o := w.w.ok x hx
    have hnext : (ar.take i).map arT ++ [arT x] = (ar.take (i + 1)).map arT := by
      rw [List.take_add_one, hx2]
      simp
    refine ⟨_, rfl, ?_⟩
    repeat' sizeOf_list_dec
    refine arrow_in_wf hn8 o (rowA_len w hx) ?_
    repeat' sizeOf_list_dec
    refine ne_nilR (own_at _ _) (noRefs_map arT (fun _ => rfl) _) ?_
    rw [List.isEmpty_map, Nat.zero_add]
    cases i with
    | zero =>
      repeat' sizeOf_list_dec
      refine wr_lenr (own_at _ _) ?_
      repeat' sizeOf_list_dec
      rw [List.take_zero, List.map_nil, List.length_nil]
      refine br_d (fun h => by omega) (fun _ => ?_)
      repeat' sizeOf_list_dec
      refine ap_ty (own_at _ _) ?_
      repeat' sizeOf_list_dec
      refine ap_own (own_at _ _) (by simp) ?_
      rw [own_set]
      repeat' sizeOf_list_dec
      refine ⟨?_, _, _, _, rfl⟩
      rw [← hnext]
      rfl
    | succ j =>
      have hlen : (ar.take (j + 1)).length = j + 1 := by rw [List.length_take]; omega
      have hj : j < ar.length := by omega
      obtain ⟨y, hy⟩ : ∃ y, ar[j]? = some y := ⟨_, List.getElem?_eq_getElem hj⟩
      have hne : (ar.take (j + 1)).isEmpty = false := by
        cases h : ar.take (j + 1) with
        | nil => rw [h] at hlen; simp at hlen
        | cons _ _ => rfl
      have hlast : ((ar.take (j + 1)).map arT)[((ar.take (j + 1)).map arT).length - 1]? = some (arT y) := by
        rw [List.length_map, hlen, List.getElem?_map, List.getElem?_take]
        simp [hy]
      have hlt : ltA y x := by
        have hp := List.pairwise_iff_getElem.mp w.w.ord j (j + 1) hj hil (by omega)
        have e1 := (List.getElem?_eq_some_iff.mp hy).2
        have e2 := (List.getElem?_eq_some_iff.mp hx2).2
        rw [e1, e2] at hp
        exact hp
      rw [hne]
      repeat' sizeOf_list_dec
      refine wr_slt (xs := [.int x.1, .int x.2.1, .int x.2.2]) ?_
      rw [show cutT [T.int x.1, T.int x.2.1, T.int x.2.2] none (some 2) = [T.int x.1, T.int x.2.1] from rfl]
      repeat' sizeOf_list_dec
      refine ix_rfl (idx_last (own_at _ _) hlast) ?_
      repeat' sizeOf_list_dec
      refine wr_slt (xs := [.int y.1, .int y.2.1, .int y.2.2]) ?_
      rw [show cutT [T.int y.1, T.int y.2.1, T.int y.2.2] none (some 2) = [T.int y.1, T.int y.2.1] from rfl]
      repeat' sizeOf_list_dec
      refine le_no hlt ?_
      repeat' sizeOf_list_dec
      refine wr_lenr (own_at _ _) ?_
      repeat' sizeOf_list_dec
      rw [List.length_map, hlen]
      refine br_d (fun h => by omega) (fun _ => ?_)
      repeat' sizeOf_list_dec
      refine ap_ty (own_at _ _) ?_
      repeat' sizeOf_list_dec
      refine ap_own (own_at _ _) (by rw [List.length_map, hlen]; omega) ?_
      rw [own_set, hnext]
      repeat' sizeOf_list_dec
      exact ⟨rfl, _, _, _, rfl⟩
  · rintro l S' ⟨rfl, y4, y5, y6, rfl⟩
    rw [H.enumT_len, List.length_map, List.take_length]
    repeat' sizeOf_list_dec
    refine wr_lenr (own_at _ _) ?_
    repeat' sizeOf_list_dec
    rw [List.length_map]
    refine br_d (fun h => by omega) (fun _ => ?_)
    repeat' sizeOf_list_dec
    refine wr_of (show biF .tuple [.ref S.length] (S ++ [Ob.lst (ar.map arT)]) = some (.val (.tup (ar.map arT))) by simp only [biF, tupleF, Sto.seq, own_at]; rfl) (wr_val ?_)
    repeat' sizeOf_list_dec
    exact ⟨rfl, _, rfl⟩
theorem dp_web70 (n : Int) (ar : List Ar) : (dat (webT n ar)).depth ≤ 60 := by
  have h := depth_map arT 8 (fun x => by simp [arT, dat, dats, PyData.depth, PyData.depthAll]) ar
  simp only [webT, dat, dats, PyData.depth, PyData.depthAll]
  omega
theorem web_is_wf {n : Int} {ar : List Ar} {S : Sto} {Q : T → Sto → Prop} {X : Exn → Sto → Prop} (q : Q (.bl true) S) : Wc true F__law_web_is [webT n ar, webT n ar] S Q X := by
  refine wc_fn (fn_ws ?_)
  unfold B__law_web_is
  repeat' sizeOf_list_dec
  refine cn_refl (a := webT n ar) (noRef_web n ar) (dp_web70 n ar) ?_
  repeat' sizeOf_list_dec
  refine lawW_wf (t := .int n) rfl ?_
  repeat' sizeOf_list_dec
  refine ws_loop (fun k l S' => S = S' ∧ ∃ y2, l = [some (webT n ar), some (webT n ar), y2, none]) ?_
  repeat' sizeOf_list_dec
  refine ⟨ar.map arT, rfl, ⟨rfl, _, rfl⟩, fun _ _ _ _ => rfl, ?_, ?_⟩
  · rintro k t l S' hk ⟨rfl, y2, rfl⟩
    rw [List.getElem?_map] at hk
    cases hx2 : ar[k]? with
    | none => rw [hx2] at hk; cases hk
    | some x =>
    rw [hx2] at hk
    cases hk
    refine ⟨_, rfl, ?_⟩
    repeat' sizeOf_list_dec
    refine we_mapL (α := Int) ?_
    repeat' sizeOf_list_dec
    refine ⟨[x.1, x.2.1, x.2.2], T.int, fun _ => .bl true, rfl, by simp [LIM], rfl, fun i hi => ⟨_, rfl, ?_⟩, ?_⟩
    · repeat' sizeOf_list_dec
      exact lawW_wf (t := .int i) rfl ⟨rfl, rfl⟩
    repeat' sizeOf_list_dec
    refine wr_allm (f := fun _ => true) ?_
    rw [show ([x.1, x.2.1, x.2.2].all fun _ => true) = true from rfl]
    repeat' sizeOf_list_dec
    exact ⟨rfl, _, rfl⟩
  · rintro l S' ⟨rfl, y2, rfl⟩
    repeat' sizeOf_list_dec
    exact q
theorem right_wf {n : Int} {ar : List Ar} {S : Sto} {Q : T → Sto → Prop} {X : Exn → Sto → Prop} (w : W8 n ar) (hS : Cl S) (q : Q (.bl true) S) : Wc true F__law_right [webT n ar] S Q X := by
  refine wc_fn (fn_ws ?_)
  unfold B__law_right
  repeat' sizeOf_list_dec
  refine law_text_wf w hS ?_
  repeat' sizeOf_list_dec
  refine web_shown_wf w hS ?_
  repeat' sizeOf_list_dec
  refine ce_refl (a := .str _) rfl (by simp [dat, PyData.depth]) ?_
  repeat' sizeOf_list_dec
  refine web_read_wf w hS ?_
  repeat' sizeOf_list_dec
  refine web_is_wf ?_
  exact q
def ws0 (full : List Ar) : List (Int × List Ar) := [(1, []), (8, []), (8, full), (1, [(0, 0, 10 ^ Int.toNat 30)]), (2, [(1, 0, 0 - 10 ^ Int.toNat 30)])]
def fullA : List Ar := (List.range 24).map fun (k : Nat) => ((k : Int) / 8, (k : Int) % 8, ((k : Int) - 12) * 10 ^ 28)
abbrev WP8 (x : Int × List Ar) : Prop := W8 x.1 x.2
def webP (x : Int × List Ar) : T := webT x.1 x.2
theorem full_ok : W8 8 fullA := by
  refine ⟨⟨by decide, by decide, by decide, fun x hx => ?_, ?_⟩, by decide, by decide⟩
  · unfold fullA at hx
    obtain ⟨k, hk, rfl⟩ := List.mem_map.mp hx
    have := List.mem_range.mp hk
    refine ⟨?_, ?_, ?_, ?_, ?_, ?_⟩ <;> dsimp only <;> omega
  · unfold fullA
    rw [List.pairwise_map]
    refine List.pairwise_lt_range.imp_of_mem fun {a b} ha hb hab => ?_
    unfold ltA
    dsimp only
    omega
theorem ws0_ok : ∀ x ∈ ws0 fullA, WP8 x := fun x hx => by
  simp only [ws0, List.mem_cons, List.not_mem_nil, or_false] at hx
  rcases hx with rfl | rfl | rfl | rfl | rfl
  · exact ⟨⟨by decide, by decide, by decide, fun x hx => (by cases hx), List.Pairwise.nil⟩, by decide, by decide⟩
  · exact ⟨⟨by decide, by decide, by decide, fun x hx => (by cases hx), List.Pairwise.nil⟩, by decide, by decide⟩
  · exact full_ok
  · refine ⟨⟨by decide, by decide, by decide, fun x hx => ?_, List.Pairwise.cons (fun _ h => (by cases h)) List.Pairwise.nil⟩, by decide, by decide⟩
    simp at hx; subst hx; decide
  · refine ⟨⟨by decide, by decide, by decide, fun x hx => ?_, List.Pairwise.cons (fun _ h => (by cases h)) List.Pairwise.nil⟩, by decide, by decide⟩
    simp at hx; subst hx; decide
theorem cells_weL {l : Lo} {S : Sto} {ns : List Int} {m : Int} {Q : T → Sto → Prop} {X : Exn → Sto → Prop} (h0 : l[0]? = some (some (.scr ns))) (hl : ns.length ≤ 63) (q : ∀ L, (∀ t ∈ L, ∃ k, t = .int k) → L.length ≤ 64 → Q (.tup [.int 0, .lst L]) S) :
    WE (.seq (.bin false .Add (.lst false (.cons (.call true "_law_cell_at" F__law_cell_at (.cons (.var 0) (.cons (.int 0) .nil))) .nil)) (.sl false (.var 0) (.int 1) (.int m)))) l S Q X := by
  refine we_seq (we_bin (we_lst (wa_cons (we_call (wa_cons (we_var h0 (wa_cons (we_int (wa_nil ?_)))))))))
  refine wf_keep (cell_at_eq ns 0 (Int.le_refl 0) S) ?_
  refine wa_nil ⟨by simp [LIM], ?_⟩
  refine wr_frz ?_
  refine we_sl (we_var h0 (wpt_e rfl (we_int ⟨_, rfl, wpt_e rfl (we_int ⟨_, rfl, wr_slc ?_⟩)⟩)))
  have hc := cut_len (ns.map T.int) (some 1) (some m)
  rw [List.length_map] at hc
  refine wr_catl (by simp only [List.length_cons, List.length_nil]; unfold LIM; omega) (q _ (fun t ht => ?_) (by simp; omega))
  rcases List.mem_cons.mp (by simpa using ht) with rfl | ht
  · exact ⟨_, rfl⟩
  · have := List.mem_of_mem_drop (List.mem_of_mem_take ht)
    obtain ⟨k, _, rfl⟩ := List.mem_map.mp this
    exact ⟨k, rfl⟩
theorem cut_webs (l : List (Int × List Ar)) (a b : Option Int) : ∃ l' : List (Int × List Ar), cutT (l.map webP) a b = l'.map webP ∧ (∀ x ∈ l', x ∈ l) ∧ l'.length ≤ l.length := by
  refine ⟨(l.drop (HT.sIx (l.map webP).length 0 a)).take (HT.sIx (l.map webP).length (l.map webP).length b - HT.sIx (l.map webP).length 0 a), ?_, fun x hx => List.mem_of_mem_drop (List.mem_of_mem_take hx), ?_⟩
  · unfold cutT
    rw [List.map_take, List.map_drop]
  · rw [List.length_take, List.length_drop]
    omega
theorem law_pure (ns : List Int) (hl : ns.length ≤ 63) : ∃ S, F_law [.scr ns] [] = some (.ok (.bl true), S) := by
  suffices h : Po (fun t _ => t = .bl true) NoX (F_law [.scr ns] []) by
    obtain ⟨t, S, e, rfl⟩ := po_get h
    exact ⟨S, e⟩
  refine fn_ws ?_
  unfold B_law
  repeat' sizeOf_list_dec
  refine we_mapL (α := Nat) ?_
  repeat' sizeOf_list_dec
  refine ⟨_, rng_ok (by decide) (by decide), List.range 24, fun (k : Nat) => .int (k : Int), fun (k : Nat) => arT ((k : Int) / 8, (k : Int) % 8, ((k : Int) - 12) * 10 ^ 28), by rw [rngL (by decide)]; rfl, by decide, rfl, fun k hk => ⟨_, rfl, ?_⟩, ?_⟩
  · have hk := List.mem_range.mp hk
    repeat' sizeOf_list_dec
    refine wr_mul (by have := lg (i := (k : Int) - 12) (by omega) (by omega); have := lg (i := 10 ^ Int.toNat 28) (by decide) (by decide); omega) ?_
    repeat' sizeOf_list_dec
    exact ⟨rfl, rfl⟩
  refine wr_frz ?_
  rw [show (T.lst ((List.range 24).map fun (k : Nat) => arT ((k : Int) / 8, (k : Int) % 8, ((k : Int) - 12) * 10 ^ 28))) = .lst (fullA.map arT) by unfold fullA; rw [List.map_map]; rfl]
  repeat' sizeOf_list_dec
  refine ws_loop (fun k l S' => Pens S' ∧ ∃ (ws : List (Int × List Ar)) (y3 y4 : Option T), (∀ x ∈ ws, WP8 x) ∧ ws.length ≤ 5 + 2 * k ∧ l = [some (.scr ns), some (webT 8 fullA), some (.lst (ws.map webP)), y3, y4, none, none]) (cells_weL rfl hl fun L hL hLl => ?_)
  refine ⟨L, rfl, ⟨pens_nil, ws0 fullA, none, none, ws0_ok, by simp [ws0], rfl⟩, fun _ _ _ _ => rfl, ?_, ?_⟩
  · rintro k t l S hk ⟨hS, ws, y3, y4, hws, hwl, rfl⟩
    have hkl := (List.getElem?_eq_some_iff.mp hk).1
    obtain ⟨v, rfl⟩ := hL t (List.mem_of_getElem? hk)
    refine ⟨_, rfl, ?_⟩
    repeat' sizeOf_list_dec
    refine pen_of_wf fun p hp => ?_
    repeat' sizeOf_list_dec
    generalize hi : S.length = i
    have g0 : (S ++ [p])[i]? = some p := by subst hi; simp
    have hS0 := pens_add hS hp
    generalize S ++ [p] = S0 at g0 hS0
    have hi0 : i < S0.length := (List.getElem?_eq_some_iff.mp g0).1
    have g : ∀ p', (S0.set i p')[i]? = some p' := fun p' => List.getElem?_set_self hi0
    refine web_of_wf hS0 g0 (by decide) (by decide) fun p1 n ar hp1 w => ?_
    repeat' sizeOf_list_dec
    refine web_of_wf (pens_put hS0 hp1) (g p1) (by decide) (by decide) fun p2 n2 ar2 hp2 w2 => ?_
    rw [List.set_set]
    have c1 := w.n2
    have c2 := w2.n2
    have c3 := w.len
    have c4 := w2.len
    repeat' sizeOf_list_dec
    refine wr_catl (by rw [List.length_map]; simp only [List.length_cons, List.length_nil]; unfold LIM; omega) ?_
    repeat' sizeOf_list_dec
    refine ⟨pens_put hS0 hp2, ws ++ [(n, ar), (n2, ar2)], some (.int v), some (.ref i), fun x hx => ?_, by simp; omega, by simp [webP]⟩
    rcases List.mem_append.mp hx with hx | hx
    · exact hws x hx
    · simp only [List.mem_cons, List.not_mem_nil, or_false] at hx
      rcases hx with rfl | rfl
      · exact ⟨w.g (by decide), by dsimp only; omega, by dsimp only; omega⟩
      · exact ⟨w2.g (by decide), by dsimp only; omega, by dsimp only; omega⟩
  · rintro l S ⟨hS, ws, y3, y4, hws, hwl, rfl⟩
    obtain ⟨ws', e1, e2, e3⟩ := cut_webs ws (some (-2)) none
    repeat' sizeOf_list_dec
    refine we_mapL (α := Int × List Ar) ?_
    repeat' sizeOf_list_dec
    rw [e1]
    refine wr_catl (by rw [List.length_map, List.length_map]; unfold LIM; omega) ?_
    rw [← List.map_append]
    refine ⟨ws ++ ws', webP, fun _ => .bl true, rfl, by rw [List.length_append]; unfold LIM; omega, rfl, fun x hx => ⟨_, rfl, ?_⟩, ?_⟩
    · have hx8 : WP8 x := by
        rcases List.mem_append.mp hx with hx | hx
        · exact hws x hx
        · exact hws x (e2 x hx)
      repeat' sizeOf_list_dec
      exact right_wf hx8 (cl_pens hS) ⟨rfl, rfl⟩
    repeat' sizeOf_list_dec
    refine wr_allm (f := fun _ => true) ?_
    simp
end K70
namespace K71
open PySem PySem.Spec L2 TL H
def B__law_text_of : Sm := (.seq (.asg (.name 1) (.lst true (.cons (.bin false .Add (.bin false .Add (.bin false .Add (.str "web ") (.bi false .str (.cons (.idx (.var 0) (.int 0)) .nil))) (.str " ")) (.bi false .str (.cons (.bi false .len (.cons (.idx (.var 0) (.int 1)) .nil)) .nil))) .nil)))
  (.seq (.loop (.name 2) (.seq (.idx (.var 0) (.int 1))) (.seq (.expr (.meth .append (.var 1) (.cons (.bin false .Add (.str "arrow ") (.join (.str " ") (.comp false [("_law_number", 3)] (.name 3) (.seq (.var 2)) .nop (.bi false .str (.cons (.var 3) .nil))))) .nil)))
  .nil))
  (.seq (.ret (.join (.str "\n") (.var 1)))
  .nil)))
def F__law_text_of : FnS := fnS 4 B__law_text_of
def B_number_in : Sm := (.seq (.ite (.or (.cmp .Eq (.var 0) (.str "")) (.or (.cmp .Gt (.bi false .len (.cons (.var 0) .nil)) (.gc "MOST_FIGURES" (.int 60))) (.one (.not (.bi false .all (.cons (.comp false [("sign", 1)] (.name 1) (.sseq (.var 0)) .nop (.cmp .In (.var 1) (.gc "FIGURES" (.str "0123456789")))) .nil)))))) (.seq (.ret .non)
  .nil) .nil)
  (.seq (.ite (.and (.cmp .Eq (.idx (.var 0) (.int 0)) (.str "0")) (.one (.cmp .NotEq (.var 0) (.str "0")))) (.seq (.ret .non)
  .nil) .nil)
  (.seq (.ret (.bi false .intS (.cons (.var 0) .nil)))
  .nil)))
def F_number_in : FnS := fnS 2 B_number_in
def B_sizes_in : Sm := (.seq (.asg (.name 1) (.split (.var 0) (.str " ")))
  (.seq (.ite (.or (.cmp .NotEq (.bi false .len (.cons (.var 1) .nil)) (.int 3)) (.one (.cmp .NotEq (.idx (.var 1) (.int 0)) (.str "web")))) (.seq (.ret .non)
  .nil) .nil)
  (.seq (.par 2 3 (.cons (.call true "number_in" F_number_in (.cons (.idx (.var 1) (.int 1)) .nil)) (.cons (.call true "number_in" F_number_in (.cons (.idx (.var 1) (.int 2)) .nil)) .nil)))
  (.seq (.ite (.or (.cmp .Is (.var 2) .non) (.or (.cmp .Is (.var 3) .non) (.or (.not (.chain .LtE .LtE (.int 1) (.var 2) (.gc "MOST_PLACES" (.int 8)))) (.one (.cmp .Gt (.var 3) (.gc "MOST_ARROWS" (.int 24))))))) (.seq (.ret .non)
  .nil) .nil)
  (.seq (.ret (.tup (.cons (.var 2) (.cons (.var 3) .nil))))
  .nil)))))
def F_sizes_in : FnS := fnS 4 B_sizes_in
def B_signed_in : Sm := (.seq (.ite (.cmp .NotEq (.sl false (.var 0) .nop (.int 1)) (.str "-")) (.seq (.ret (.call true "number_in" F_number_in (.cons (.var 0) .nil)))
  .nil) .nil)
  (.seq (.asg (.name 1) (.call true "number_in" F_number_in (.cons (.sl false (.var 0) (.int 1) .nop) .nil)))
  (.seq (.ite (.or (.cmp .Is (.var 1) .non) (.one (.cmp .Eq (.var 1) (.int 0)))) (.seq (.ret .non)
  .nil) .nil)
  (.seq (.ret (.bin false .Sub (.int 0) (.var 1)))
  .nil))))
def F_signed_in : FnS := fnS 2 B_signed_in
def B_arrow_in : Sm := (.seq (.asg (.name 2) (.split (.var 1) (.str " ")))
  (.seq (.ite (.or (.cmp .NotEq (.bi false .len (.cons (.var 2) .nil)) (.int 4)) (.one (.cmp .NotEq (.idx (.var 2) (.int 0)) (.str "arrow")))) (.seq (.ret .non)
  .nil) .nil)
  (.seq (.asg (.name 3) (.tup (.cons (.call true "number_in" F_number_in (.cons (.idx (.var 2) (.int 1)) .nil)) (.cons (.call true "number_in" F_number_in (.cons (.idx (.var 2) (.int 2)) .nil)) (.cons (.call true "signed_in" F_signed_in (.cons (.idx (.var 2) (.int 3)) .nil)) .nil)))))
  (.seq (.ite (.not (.call true "arrow_good" F_arrow_good (.cons (.var 0) (.cons (.var 3) .nil)))) (.seq (.ret .non)
  .nil) .nil)
  (.seq (.ret (.var 3))
  .nil)))))
def F_arrow_in : FnS := fnS 4 B_arrow_in
def B_web_read : Sm := (.seq (.ite (.not (.isi (.var 0) "str")) (.seq (.raise "NoText" ["row"] (.cons (.int 0) .nil))
  .nil) .nil)
  (.seq (.asg (.name 1) (.split (.var 0) (.str "\n")))
  (.seq (.asg (.name 2) (.call true "sizes_in" F_sizes_in (.cons (.idx (.var 1) (.int 0)) .nil)))
  (.seq (.ite (.cmp .Is (.var 2) .non) (.seq (.raise "NoText" ["row"] (.cons (.int 1) .nil))
  .nil) .nil)
  (.seq (.asg (.name 3) (.lst true .nil))
  (.seq (.loop (.tup [4, 5]) (.enum (.sl false (.var 1) (.int 1) .nop)) (.seq (.asg (.name 6) (.call true "arrow_in" F_arrow_in (.cons (.idx (.var 2) (.int 0)) (.cons (.var 5) .nil))))
  (.seq (.ite (.or (.cmp .Is (.var 6) .non) (.or (.and (.cmp .NotEq (.var 3) (.lst false .nil)) (.one (.cmp .LtE (.sl false (.var 6) .nop (.int 2)) (.sl false (.idx (.var 3) (.neg (.int 1))) .nop (.int 2))))) (.one (.cmp .Eq (.bi false .len (.cons (.var 3) .nil)) (.idx (.var 2) (.int 1)))))) (.seq (.raise "NoText" ["row"] (.cons (.bin false .Add (.var 4) (.int 2)) .nil))
  .nil) .nil)
  (.seq (.expr (.meth .append (.var 3) (.cons (.var 6) .nil)))
  .nil))))
  (.seq (.ite (.cmp .Lt (.bi false .len (.cons (.var 3) .nil)) (.idx (.var 2) (.int 1))) (.seq (.raise "NoText" ["row"] (.cons (.bin false .Add (.bi false .len (.cons (.var 1) .nil)) (.int 1)) .nil))
  .nil) .nil)
  (.seq (.ret (.tup (.cons (.idx (.var 2) (.int 0)) (.cons (.bi false .tuple (.cons (.var 3) .nil)) .nil))))
  .nil))))))))
def F_web_read : FnS := fnS 7 B_web_read
def B__law_told : Sm := (.seq (.tr (.seq (.expr (.call false "web_read" F_web_read (.cons (.var 0) .nil)))
  .nil) 1 (.seq (.ite (.or (.cmp .NotEq .kind (.str "text")) (.one (.not (.whole (.fld "row"))))) (.seq (.ret (.neg (.int 1))) .nil) .nil) (.seq (.ret (.fld "row")) .nil)))
  (.seq (.ret .non)
  .nil))
def F__law_told : FnS := fnS 2 B__law_told
def B__law_value : Sm := (.seq (.ite (.or (.inr true (.bi false .len (.cons (.var 0) .nil)) (.cons (.int 1) (.cons (.int 61) .nil))) (.one (.cmp .NotEq (.comp false [("_law_sign", 1)] (.name 1) (.sseq (.var 0)) (.cmp .NotIn (.var 1) (.str "0123456789")) (.var 1)) (.lst false .nil)))) (.seq (.ret .non)
  .nil) .nil)
  (.seq (.ite (.and (.cmp .Eq (.idx (.var 0) (.int 0)) (.str "0")) (.one (.cmp .NotEq (.var 0) (.str "0")))) (.seq (.ret .non)
  .nil) .nil)
  (.seq (.ret (.bi false .intS (.cons (.var 0) .nil)))
  .nil)))
def F__law_value : FnS := fnS 2 B__law_value
def B__law_arrow_in : Sm := (.seq (.asg (.name 2) (.split (.var 1) (.str " ")))
  (.seq (.ite (.or (.cmp .NotEq (.bi false .len (.cons (.var 2) .nil)) (.int 4)) (.one (.cmp .NotEq (.idx (.var 2) (.int 0)) (.str "arrow")))) (.seq (.ret (.tup .nil))
  .nil) .nil)
  (.seq (.asg (.name 3) (.tup (.cons (.call true "_law_value" F__law_value (.cons (.idx (.var 2) (.int 1)) .nil)) (.cons (.call true "_law_value" F__law_value (.cons (.idx (.var 2) (.int 2)) .nil)) .nil))))
  (.seq (.ite (.or (.inrO true (.idx (.var 3) (.int 0)) (.cons (.var 0) .nil)) (.one (.inrO true (.idx (.var 3) (.int 1)) (.cons (.var 0) .nil)))) (.seq (.ret (.tup .nil))
  .nil) .nil)
  (.seq (.asg (.name 4) (.call true "_law_value" F__law_value (.cons (.ite (.cmp .Eq (.sl false (.idx (.var 2) (.int 3)) .nop (.int 1)) (.str "-")) (.sl false (.idx (.var 2) (.int 3)) (.int 1) .nop) (.idx (.var 2) (.int 3))) .nil)))
  (.seq (.ite (.or (.cmp .Is (.var 4) .non) (.or (.cmp .Gt (.var 4) (.bin false .Pow (.int 10) (.int 30))) (.one (.and (.cmp .Eq (.var 4) (.int 0)) (.one (.cmp .Eq (.sl false (.idx (.var 2) (.int 3)) .nop (.int 1)) (.str "-"))))))) (.seq (.ret (.tup .nil))
  .nil) .nil)
  (.seq (.ret (.var 3))
  .nil)))))))
def F__law_arrow_in : FnS := fnS 5 B__law_arrow_in
def B__law_due : Sm := (.seq (.asg (.name 1) (.split (.var 0) (.str "\n")))
  (.seq (.asg (.name 2) (.split (.idx (.var 1) (.int 0)) (.str " ")))
  (.seq (.ite (.or (.cmp .NotEq (.bi false .len (.cons (.var 2) .nil)) (.int 3)) (.one (.cmp .NotEq (.idx (.var 2) (.int 0)) (.str "web")))) (.seq (.ret (.int 1))
  .nil) .nil)
  (.seq (.par 5 6 (.cons (.call true "_law_value" F__law_value (.cons (.idx (.var 2) (.int 1)) .nil)) (.cons (.call true "_law_value" F__law_value (.cons (.idx (.var 2) (.int 2)) .nil)) .nil)))
  (.seq (.ite (.or (.inrO true (.var 5) (.cons (.int 1) (.cons (.int 9) .nil))) (.one (.inrO true (.var 6) (.cons (.int 25) .nil)))) (.seq (.ret (.int 1))
  .nil) .nil)
  (.seq (.asg (.name 3) (.tup .nil))
  (.seq (.loop (.name 4) (.rng (.cons (.int 1) (.cons (.bi false .len (.cons (.var 1) .nil)) .nil))) (.seq (.asg (.name 7) (.call true "_law_arrow_in" F__law_arrow_in (.cons (.var 5) (.cons (.idx (.var 1) (.var 4)) .nil))))
  (.seq (.ite (.or (.cmp .Eq (.var 7) (.tup .nil)) (.or (.cmp .Gt (.var 4) (.var 6)) (.one (.and (.cmp .NotEq (.var 3) (.tup .nil)) (.one (.cmp .LtE (.var 7) (.var 3))))))) (.seq (.ret (.bin false .Add (.var 4) (.int 1)))
  .nil) .nil)
  (.seq (.asg (.name 3) (.var 7))
  .nil))))
  (.seq (.ite (.cmp .LtE (.bi false .len (.cons (.var 1) .nil)) (.var 6)) (.seq (.ret (.bin false .Add (.bi false .len (.cons (.var 1) .nil)) (.int 1)))
  .nil) .nil)
  (.seq (.ret .non)
  .nil)))))))))
def F__law_due : FnS := fnS 8 B__law_due
def B__law_odd_row : Sm := (.seq (.asg (.name 2) (.split (.var 1) (.str " ")))
  (.seq (.asg (.name 3) (.call true "_law_draw" F__law_draw (.cons (.var 0) (.cons (.bi false .len (.cons (.var 2) .nil)) .nil))))
  (.seq (.asg (.name 4) (.lst false (.cons (.str "") (.cons (.str "0") (.cons (.str "00") (.cons (.str "-1") (.cons (.str "-0") (.cons (.str "+1") (.cons (.str "1.0") (.cons (.str "a") (.cons (.str "8") (.cons (.str "9") (.cons (.bin false .Mult (.str "9") (.int 61)) (.cons (.str "arrow") (.cons (.str "web") .nil)))))))))))))))
  (.seq (.asg (.name 4) (.bin false .Add (.var 4) (.lst false (.cons (.bin false .Add (.str "1") (.bin false .Mult (.str "0") (.int 30))) (.cons (.bin false .Add (.str "-1") (.bin false .Mult (.str "0") (.int 31))) .nil)))))
  (.seq (.asg (.name 5) (.bin false .Add (.bin false .Add (.sl false (.var 2) .nop (.var 3)) (.lst false (.cons (.idx (.var 4) (.call true "_law_draw" F__law_draw (.cons (.var 0) (.cons (.int 15) .nil)))) .nil))) (.sl false (.var 2) (.bin false .Add (.var 3) (.int 1)) .nop)))
  (.seq (.asg (.name 6) (.lst false (.consR "" (.bin false .Add (.str " ") (.var 1)) (.bin false .Add (.var 1) (.str " ")) (.var 1) " " "  " (.cons (.join (.str " ") (.sl false (.var 2) .nop (.neg (.int 1)))) (.cons (.bin false .Add (.var 1) (.str " 0")) (.cons (.bin false .Add (.var 1) (.str "0")) .nil))))))
  (.seq (.asg (.name 7) (.call true "_law_draw" F__law_draw (.cons (.var 0) (.cons (.int 15) .nil))))
  (.seq (.ite (.cmp .Lt (.var 7) (.int 7)) (.seq (.ret (.idx (.var 6) (.var 7)))
  .nil) .nil)
  (.seq (.ite (.cmp .Eq (.var 7) (.int 7)) (.seq (.ret (.upp (.var 1)))
  .nil) .nil)
  (.seq (.ret (.join (.str " ") (.var 5)))
  .nil))))))))))
def F__law_odd_row : FnS := fnS 8 B__law_odd_row
def B__law_spoilt_of : Sm := (.seq (.asg (.name 2) (.call true "_law_draw" F__law_draw (.cons (.var 0) (.cons (.bi false .len (.cons (.var 1) .nil)) .nil))))
  (.seq (.asg (.name 3) (.call true "_law_draw" F__law_draw (.cons (.var 0) (.cons (.bi false .len (.cons (.var 1) .nil)) .nil))))
  (.seq (.asg (.name 4) (.bi true .list (.cons (.var 1) .nil)))
  (.seq (.asg (.name 5) (.call true "_law_draw" F__law_draw (.cons (.var 0) (.cons (.int 7) .nil))))
  (.seq (.ite (.cmp .Eq (.var 5) (.int 0)) (.seq (.ret (.bin false .Add (.sl false (.var 4) .nop (.var 2)) (.sl false (.var 4) (.bin false .Add (.var 2) (.int 1)) .nop)))
  .nil) .nil)
  (.seq (.ite (.cmp .Eq (.var 5) (.int 1)) (.seq (.ret (.bin false .Add (.sl false (.var 4) .nop (.bin false .Add (.var 2) (.int 1))) (.sl false (.var 4) (.var 2) .nop)))
  .nil) .nil)
  (.seq (.ite (.cmp .Eq (.var 5) (.int 2)) (.seq (.setI (.var 4) (.var 2) (.idx (.var 1) (.var 3)))
  .nil) (.seq (.ite (.cmp .Eq (.var 5) (.int 3)) (.seq (.ret (.rev false (.var 1)))
  .nil) (.seq (.setI (.var 4) (.var 2) (.call true "_law_odd_row" F__law_odd_row (.cons (.var 0) (.cons (.idx (.var 1) (.var 2)) .nil))))
  .nil))
  .nil))
  (.seq (.ret (.var 4))
  .nil))))))))
def F__law_spoilt_of : FnS := fnS 6 B__law_spoilt_of
def B_law : Sm := (.seq (.loop (.name 1) (.seq (.lst false (.cons .non (.cons (.int 0) (.cons (.bl true) (.cons (.lst false (.cons (.str "web 1 0") .nil)) (.cons (.tup (.cons (.str "web 1 0") .nil)) (.cons (.dnew false false) .nil)))))))) (.seq (.ite (.cmp .NotEq (.call true "_law_told" F__law_told (.cons (.var 1) .nil)) (.int 0)) (.seq (.ret (.bl false))
  .nil) .nil)
  .nil))
  (.seq (.asg (.name 2) (.bin false .Add (.lst false (.cons (.str "web 8 24") .nil)) (.comp false [("_law_k", 9)] (.name 9) (.rng (.cons (.int 24) .nil)) .nop (.bin false .Add (.bin false .Add (.bin false .Add (.bin false .Add (.str "arrow ") (.bi false .str (.cons (.bin false .FloorDiv (.var 9) (.int 8)) .nil))) (.str " ")) (.bi false .str (.cons (.bin false .Mod (.var 9) (.int 8)) .nil))) (.str " 0")))))
  (.seq (.loop (.name 3) (.seq (.lst false (.cons (.str "") (.cons (.str "web 1 0") (.cons (.str "web 1") (.cons (.str "web 0 0") (.cons (.str "web 9 0") (.cons (.str "web 2 25") (.cons (.str "web 1 0\narrow 0 0 1") (.cons (.str "web 1 1\n") (.cons (.str "\n") .nil))))))))))) (.seq (.ite (.cmp .NotEq (.call true "_law_told" F__law_told (.cons (.var 3) .nil)) (.call true "_law_due" F__law_due (.cons (.var 3) .nil))) (.seq (.ret (.bl false))
  .nil) .nil)
  .nil))
  (.seq (.loop (.name 4) (.seq (.lst false (.cons (.var 2) (.cons (.bin false .Add (.var 2) (.lst false (.cons (.str "arrow 3 0 0") .nil))) (.cons (.sl false (.var 2) .nop (.neg (.int 1))) (.cons (.bin false .Add (.bin false .Add (.lst false (.cons (.str "web 8 25") .nil)) (.sl false (.var 2) (.int 1) .nop)) (.lst false (.cons (.str "arrow 3 0 0") .nil))) .nil)))))) (.seq (.ite (.cmp .NotEq (.call true "_law_told" F__law_told (.cons (.join (.str "\n") (.var 4)) .nil)) (.call true "_law_due" F__law_due (.cons (.join (.str "\n") (.var 4)) .nil))) (.seq (.ret (.bl false))
  .nil) .nil)
  .nil))
  (.seq (.loop (.name 5) (.seq (.bin false .Add (.lst false (.cons (.call true "_law_cell_at" F__law_cell_at (.cons (.var 0) (.cons (.int 0) .nil))) .nil)) (.sl false (.var 0) (.int 1) (.int 6)))) (.seq (.asg (.name 6) (.call true "_law_pen_of" F__law_pen_of (.cons (.var 5) .nil)))
  (.seq (.asg (.name 3) (.call false "_law_text_of" F__law_text_of (.cons (.call false "_law_web_of" F__law_web_of (.cons (.var 6) (.cons (.int 7) .nil))) .nil)))
  (.seq (.loop (.name 7) (.rng (.cons (.int 5) .nil)) (.seq (.asg (.name 8) (.join (.str "\n") (.call false "_law_spoilt_of" F__law_spoilt_of (.cons (.var 6) (.cons (.split (.var 3) (.str "\n")) .nil)))))
  (.seq (.ite (.cmp .NotEq (.call true "_law_told" F__law_told (.cons (.var 8) .nil)) (.call true "_law_due" F__law_due (.cons (.var 8) .nil))) (.seq (.ret (.bl false))
  .nil) .nil)
  .nil)))
  (.seq (.ite (.cmp .IsNot (.call true "_law_told" F__law_told (.cons (.var 3) .nil)) .non) (.seq (.ret (.bl false))
  .nil) .nil)
  .nil)))))
  (.seq (.ret (.bl true))
  .nil))))))
def F_law : FnS := fnS 10 B_law
end K71
namespace K71
open PySem PySem.Spec L2 TL H
local macro_rules | `(tactic| sizeOf_list_dec) => `(tactic| first
  | with_reducible refine we_var (by with_unfolding_all exact rfl) ?_
  | with_reducible (first
  | refine ws_seq ?_ | refine ws_set ?_ | refine we_int ?_ | refine we_call ?_ | refine we_callV ?_ | refine we_trng ?_ | refine we_sset ?_ | refine we_dlit ?_ | refine we_dget ?_ | refine wa_cons ?_ | refine wa_nil ?_
  | refine we_bin ?_ | refine we_cmp ?_ | refine we_and ?_ | refine we_or ?_ | refine we_one ?_ | refine we_not ?_ | refine we_neg ?_ | refine we_gc ?_ | refine we_str ?_ | refine we_bl ?_ | refine we_non ?_
  | refine we_idx ?_ | refine we_bi ?_ | refine we_isi ?_ | refine we_meth ?_ | refine we_ite ?_ | refine we_seq ?_ | refine we_rng ?_ | refine we_enum ?_ | refine we_zip ?_
  | refine we_dnewKf ?_ | refine we_lenset ?_ | refine we_sl ?_ | refine we_rev ?_ | refine wpt_nop ?_ | refine we_tup ?_ | refine we_lst ?_ | refine we_chain ?_ | refine we_inr ?_
  | refine ws_nil ?_ | refine ws_ite ?_ | refine ws_ret ?_ | refine ws_expr ?_ | refine ws_setI ?_ | refine ws_raise ?_ | refine ws_retN ?_ | refine ws_skip ?_ | refine ws_asg ?_ | refine ws_par ?_
  | refine wr_add ?_ | refine wr_sub ?_ | refine wr_abs ?_ | refine wr_max2 ?_ | refine wr_min2 ?_ | refine wr_int ?_ | refine wr_intb ?_ | refine wr_lent ?_ | refine wr_lenl ?_ | refine wr_tupl ?_ | refine wr_tupt ?_ | refine wr_slt ?_ | refine wr_sll ?_ | refine wr_slc ?_ | refine wr_revt ?_ | refine wr_lstl ?_ | refine wr_lstt ?_ | refine wr_new ?_ | refine wr_frz ?_
  | refine ce_lt ?_ | refine ce_le ?_ | refine ce_gt ?_ | refine ce_ge ?_ | refine ce_eq ?_ | refine ce_ne ?_ | refine br_t ?_ | refine br_f ?_ | refine ex_bl ?_ | refine ex_int ?_)
  | ((with_reducible refine wpt_e ?_ ?_); exact rfl)
  | ((with_reducible refine lim_c ?_ ?_); exact rfl)
  | ((with_reducible refine wr_powl ?_ ?_); exact rfl)
  | ((with_reducible refine wr_mull ?_ ?_); exact rfl)
  | ((with_reducible refine wr_fdivl ?_ ?_); exact rfl)
  | ((with_reducible refine wr_modl ?_ ?_); exact rfl)
  | with_reducible refine br_rT (by with_unfolding_all exact rfl) ?_
  | with_reducible refine br_rF (by with_unfolding_all exact rfl) ?_
  | with_reducible refine ix_rfl (by with_unfolding_all exact rfl) ?_
  | ((with_reducible refine is_rflT ?_ ?_); · with_unfolding_all exact rfl)
  | ((with_reducible refine is_rflF ?_ ?_); · with_unfolding_all exact rfl)
  | ((with_reducible refine isn_rflT ?_ ?_); · with_unfolding_all exact rfl)
  | ((with_reducible refine isn_rflF ?_ ?_); · with_unfolding_all exact rfl)
  | ((with_reducible refine isi_rflT ?_ ?_); · with_unfolding_all exact rfl)
  | ((with_reducible refine isi_rflF ?_ ?_); · with_unfolding_all exact rfl)
  | fail)
open K70
open PySem.NumText
def isD (c : Nat) : Bool := decide (48 ≤ c ∧ c ≤ 57)
def num (z : Str) : Option Nat := if (!(cl z).isEmpty && (decide (z.length ≤ 60) && (cl z).all isD)) = true then (if (cl z).head? = some 48 ∧ cl z ≠ [48] then none else some (digitsVal (cl z))) else none
def numT (z : Str) : T := match num z with
  | none => .non
  | some m => .int (m : Int)
theorem isD_fig (c : Nat) : decide (c ∈ cl (Str.ofString "0123456789")) = isD c := by
  rw [fig_eq]
  unfold isD
  rw [Bool.eq_iff_iff, decide_eq_true_eq, decide_eq_true_eq]
  simp only [List.mem_cons, List.not_mem_nil, or_false]
  omega
theorem empty_iff (z : Str) : decide (z = Str.ofString "") = (cl z).isEmpty := by
  rw [Bool.eq_iff_iff, decide_eq_true_eq, List.isEmpty_iff]
  exact ⟨fun e => by rw [e]; exact empty_eq, fun e => cl_inj (by rw [e]; exact empty_eq.symm)⟩
theorem num_reads {z : Str} (h0 : (cl z).isEmpty = false) (hl : z.length ≤ 60) (hd : (cl z).all isD = true) : PySem.intText? z = some ((digitsVal (cl z) : Nat) : Int) := by
  refine intText_digits (fun c hc => ?_) (fun e => by have e : cl z = [] := e; rw [e] at h0; cases h0) (by omega)
  exact of_decide_eq_true (List.all_eq_true.mp hd c hc)
theorem zero_iff {z : Str} : decide (z = Str.ofString "0") = decide (cl z = [48]) := by
  rw [Bool.eq_iff_iff, decide_eq_true_eq, decide_eq_true_eq, zero_eq]
  exact ⟨fun e => by rw [e], fun e => cl_inj e⟩
theorem num_tail {z : Str} {l : Lo} {S : Sto} {Q : T → Sto → Prop} {X : Exn → Sto → Prop} (h0 : (cl z).isEmpty = false) (hl : z.length ≤ 60) (hd : (cl z).all isD = true) (hloc : l[0]? = some (some (.str z))) (q : Q (numT z) S) :
    WS (.seq (.ite (.and (.cmp .Eq (.idx (.var 0) (.int 0)) (.str "0")) (.one (.cmp .NotEq (.var 0) (.str "0")))) (.seq (.ret .non) .nil) .nil) (.seq (.ret (.bi false .intS (.cons (.var 0) .nil))) .nil)) l S (fun _ S1 => Q .non S1) Q fun x _ S1 => X x S1 := by
  have hn : num z = if (cl z).head? = some 48 ∧ cl z ≠ [48] then none else some (digitsVal (cl z)) := by
    unfold num
    rw [if_pos (by simp [h0, hl, hd])]
  obtain ⟨c, r, hcr⟩ : ∃ c r, cl z = c :: r := by
    cases h : cl z with
    | nil => rw [h] at h0; cases h0
    | cons c r => exact ⟨c, r, rfl⟩
  refine ws_seq (ws_ite (we_and (we_cmp (we_idx (we_var hloc (we_int ?_))))))
  refine idx_str hcr (by unfold LIM; omega) ?_
  repeat' sizeOf_list_dec
  refine ce_str ?_
  rw [zero_eq]
  have fin : num z = some (digitsVal (cl z)) → WS (.seq (.ret (.bi false .intS (.cons (.var 0) .nil))) .nil) l S (fun _ S1 => Q .non S1) Q fun x _ S1 => X x S1 := fun e => by
    refine ws_seq (ws_ret (we_bi (wa_cons (we_var hloc (wa_nil ?_)))))
    refine wr_intS (num_reads h0 hl hd) (by omega) ?_
    unfold numT at q
    rw [e] at q
    exact q
  by_cases hc : c = 48
  · subst hc
    rw [decide_eq_true rfl]
    refine br_t ?_
    refine we_one (we_cmp (we_var hloc (we_str (cn_str ?_))))
    rw [← zero_eq, zero_iff]
    by_cases hr : cl z = [48]
    · rw [decide_eq_true hr]
      refine br_f (ws_nil ?_)
      exact fin (by rw [hn, if_neg (by simp [hr])])
    · rw [decide_eq_false hr]
      refine br_t ?_
      have e : num z = none := by rw [hn, if_pos ⟨by rw [hcr]; rfl, hr⟩]
      unfold numT at q
      rw [e] at q
      repeat' sizeOf_list_dec
      exact q
  · rw [show decide ((⟨#[c]⟩ : Str) = ⟨#[48]⟩) = false from decide_eq_false fun e => hc (by injection e with e; injection e with e; injection e)]
    refine br_f ?_
    refine br_f (ws_nil ?_)
    exact fin (by rw [hn, if_neg (by rw [hcr]; simp [hc])])
theorem num_no {z : Str} (h : (!(cl z).isEmpty && (decide (z.length ≤ 60) && (cl z).all isD)) = false) : numT z = .non := by
  unfold numT num
  rw [h]
  rfl
theorem number_in_any {z : Str} {S : Sto} {Q : T → Sto → Prop} {X : Exn → Sto → Prop} (hz : z.length ≤ 1000000) (q : Q (numT z) S) : Wc true F_number_in [.str z] S Q X := by
  refine wc_fn (fn_ws ?_)
  unfold B_number_in
  repeat' sizeOf_list_dec
  refine ce_str ?_
  rw [empty_iff]
  cases h0 : (cl z).isEmpty with
  | true =>
    rw [num_no (by rw [h0]; rfl)] at q
    repeat' sizeOf_list_dec
    exact q
  | false =>
    repeat' sizeOf_list_dec
    refine wr_lens (by unfold LIM; omega) ?_
    repeat' sizeOf_list_dec
    refine br_d (fun h => ?_) (fun hl => ?_)
    · rw [num_no (by rw [decide_eq_false (show ¬ z.length ≤ 60 by omega)]; simp)] at q
      repeat' sizeOf_list_dec
      exact q
    · have hl : z.length ≤ 60 := by omega
      have hcl := cl_len z
      repeat' sizeOf_list_dec
      refine we_mapL (α := Nat) ?_
      refine we_sseq ?_
      repeat' sizeOf_list_dec
      refine ⟨z, rfl, by unfold LIM; omega, cl z, fun c => .str ⟨#[c]⟩, fun c => .bl (isD c), rfl, by unfold LIM; omega, rfl, fun x hx => ⟨_, rfl, ?_⟩, ?_⟩
      · repeat' sizeOf_list_dec
        refine in_one ?_
        rw [isD_fig]
        exact ⟨rfl, rfl⟩
      refine wr_frz ?_
      repeat' sizeOf_list_dec
      refine wr_allm ?_
      cases hd : (cl z).all isD with
      | false =>
        rw [num_no (by rw [hd]; simp)] at q
        repeat' sizeOf_list_dec
        exact q
      | true =>
        refine ⟨_, rfl, br_f (ws_nil ?_)⟩
        exact num_tail h0 hl hd rfl q
theorem notin_one {c : Nat} {z : Str} {S : Sto} {P : Bool → Prop} (p : P (!decide (c ∈ cl z))) : ∃ d, cmpB .NotIn (.str ⟨#[c]⟩) (.str z) S = some d ∧ P d := by
  obtain ⟨d, e, hd⟩ := in_one (c := c) (z := z) (S := S) (P := fun d => P (!d)) p
  refine ⟨!d, ?_, hd⟩
  have e0 : cmpB .NotIn (.str ⟨#[c]⟩) (.str z) S = (cmpB .In (.str ⟨#[c]⟩) (.str z) S).map (!·) := by unfold cmpB; rfl
  rw [e0, e]
  rfl
theorem cn_nilL {xs : List T} {S : Sto} (hr : noRefs xs = true) {P : Bool → Prop} (p : P (!xs.isEmpty)) : ∃ c, cmpB .NotEq (.lst xs) (.lst []) S = some c ∧ P c := by
  refine ⟨_, ?_, p⟩
  have e0 : cmpB .NotEq (.lst xs) (.lst []) S = (eqD (.lst xs) (.lst []) S).map (!·) := by unfold cmpB; rfl
  rw [e0, eqD_dat S (by simpa [noRef] using hr) rfl (Nat.le_trans (Nat.min_le_right _ _) (by decide))]
  cases xs <;> simp [dat, dats, PyData.eqv, PyData.eqvAll]
theorem value_any {z : Str} {S : Sto} {Q : T → Sto → Prop} {X : Exn → Sto → Prop} (hz : z.length ≤ 1000000) (q : Q (numT z) S) : Wc true F__law_value [.str z] S Q X := by
  have hcl := cl_len z
  refine wc_fn (fn_ws ?_)
  unfold B__law_value
  repeat' sizeOf_list_dec
  refine wr_lens (by unfold LIM; omega) ?_
  repeat' sizeOf_list_dec
  refine ⟨(z.length : Int), 1, 61, rfl, rfl, by omega, ?_⟩
  by_cases hl : 1 ≤ (z.length : Int) ∧ (z.length : Int) < 61
  · rw [decide_eq_true hl]
    have h0 : (cl z).isEmpty = false := by
      cases h : cl z with
      | nil => rw [h] at hcl; simp at hcl; omega
      | cons _ _ => rfl
    refine br_rF rfl ?_
    refine we_one (we_cmp (we_filL (α := Nat) rfl ?_))
    refine we_sseq ?_
    repeat' sizeOf_list_dec
    refine ⟨z, rfl, by unfold LIM; omega, cl z, fun c => .str ⟨#[c]⟩, fun c => .str ⟨#[c]⟩, fun c => !isD c, rfl, by unfold LIM; omega, rfl, fun x hx => ⟨_, rfl, ?_⟩, ?_⟩
    · repeat' sizeOf_list_dec
      refine notin_one ?_
      rw [isD_fig]
      refine ⟨rfl, rfl, fun _ => ?_⟩
      repeat' sizeOf_list_dec
      exact ⟨rfl, rfl⟩
    refine wr_frz ?_
    repeat' sizeOf_list_dec
    refine cn_nilL (noRefs_map (fun c => T.str ⟨#[c]⟩) (fun _ => rfl) _) ?_
    rw [List.isEmpty_map]
    cases hd : (cl z).all isD with
    | false =>
      rw [num_no (by rw [hd]; simp)] at q
      have : ((cl z).filter fun c => !isD c).isEmpty = false := by
        obtain ⟨i, hi, e⟩ := List.all_eq_false.mp hd
        cases hf : (cl z).filter fun c => !isD c with
        | nil => exact absurd (List.filter_eq_nil_iff.mp hf i hi) (by simp [e])
        | cons _ _ => rfl
      rw [this]
      repeat' sizeOf_list_dec
      exact q
    | true =>
      have : ((cl z).filter fun c => !isD c).isEmpty = true := by
        rw [List.isEmpty_iff, List.filter_eq_nil_iff]
        intro i hi
        simp [List.all_eq_true.mp hd i hi]
      rw [this]
      refine br_f (ws_nil ?_)
      exact num_tail h0 (by omega) hd rfl q
  · rw [decide_eq_false hl]
    rw [num_no (by
      by_cases h0 : (cl z).isEmpty = true
      · rw [h0]; rfl
      · have : cl z ≠ [] := fun e => h0 (by rw [e]; rfl)
        have : 0 < (cl z).length := List.length_pos_iff.mpr this
        rw [decide_eq_false (show ¬ z.length ≤ 60 by omega)]
        simp)] at q
    repeat' sizeOf_list_dec
    exact q
def sgn (z : Str) : Option Int := if (cl z).head? = some 45 then (match num (L2.cutS z (some 1) none) with
  | none => none
  | some m => if m = 0 then none else some (-(m : Int))) else (num z).map fun m => (m : Int)
def sgnT (z : Str) : T := match sgn z with
  | none => .non
  | some v => .int v
theorem cut_minus (z : Str) : decide (L2.cutS z none (some 1) = Str.ofString "-") = decide ((cl z).head? = some 45) := by
  rw [Bool.eq_iff_iff, decide_eq_true_eq, decide_eq_true_eq, minus_eq]
  constructor
  · intro e
    have h1 := congrArg cl e
    rw [cl_cut1] at h1
    cases h : cl z with
    | nil => rw [h] at h1; cases h1
    | cons c r =>
      rw [h] at h1
      simp only [List.take_succ_cons, List.take_zero] at h1
      rw [List.head?_cons]
      injection h1 with h1
      rw [h1]
  · intro e
    apply cl_inj
    rw [cl_cut1]
    cases h : cl z with
    | nil => rw [h] at e; cases e
    | cons c r =>
      rw [h] at e
      simp only [List.head?_cons, Option.some.injEq] at e
      rw [e]
      rfl
theorem cutS_len (z : Str) (a b : Option Int) : (L2.cutS z a b).length ≤ z.length := L2.cutS_length z a b
theorem signed_any {z : Str} {S : Sto} {Q : T → Sto → Prop} {X : Exn → Sto → Prop} (hz : z.length ≤ 1000000) (q : Q (sgnT z) S) : Wc true F_signed_in [.str z] S Q X := by
  refine wc_fn (fn_ws ?_)
  unfold B_signed_in
  unfold sgnT sgn at q
  repeat' sizeOf_list_dec
  refine wr_sls (by unfold LIM; omega) ?_
  repeat' sizeOf_list_dec
  refine cn_str ?_
  rw [cut_minus]
  by_cases hm : (cl z).head? = some 45
  · rw [if_pos hm] at q
    rw [decide_eq_true hm]
    repeat' sizeOf_list_dec
    refine wr_sls (by unfold LIM; omega) ?_
    repeat' sizeOf_list_dec
    refine number_in_any (Nat.le_trans (cutS_len z _ _) hz) ?_
    unfold numT
    cases hn : num (L2.cutS z (some 1) none) with
    | none =>
      rw [hn] at q
      repeat' sizeOf_list_dec
      exact q
    | some m =>
      rw [hn] at q
      dsimp only at q
      repeat' sizeOf_list_dec
      refine br_d (fun h => ?_) (fun h => ?_)
      · rw [if_pos (by omega)] at q
        repeat' sizeOf_list_dec
        exact q
      · rw [if_neg (by omega)] at q
        repeat' sizeOf_list_dec
        rw [Int.zero_sub]
        exact q
  · rw [if_neg hm] at q
    rw [decide_eq_false hm]
    repeat' sizeOf_list_dec
    refine number_in_any hz ?_
    unfold numT
    cases hn : num z with
    | none => rw [hn] at q; exact q
    | some m => rw [hn] at q; exact q
theorem part_len {x y a : Str} (h : a ∈ Txt.split x y) : a.length ≤ x.length := PyProof.Rows.part_short h
def szs (row : Str) : Option (Nat × Nat) := match Txt.split row ⟨#[32]⟩ with
  | [w0, w1, w2] => if w0 = Str.ofString "web" then (match num w1, num w2 with
    | some n, some m => if 1 ≤ n ∧ n ≤ 8 ∧ m ≤ 24 then some (n, m) else none
    | _, _ => none) else none
  | _ => none
theorem szs_no {row : Str} (h : (Txt.split row ⟨#[32]⟩).length ≠ 3) : szs row = none := by
  unfold szs
  generalize Txt.split row ⟨#[32]⟩ = ws at h ⊢
  match ws, h with
  | [], _ => rfl
  | [_], _ => rfl
  | [_, _], _ => rfl
  | [_, _, _], h => exact absurd rfl h
  | _ :: _ :: _ :: _ :: _, _ => rfl
def szsT (row : Str) : T := match szs row with
  | none => .non
  | some p => .tup [.int (p.1 : Int), .int (p.2 : Int)]
theorem sizes_any {row : Str} {S : Sto} {Q : T → Sto → Prop} {X : Exn → Sto → Prop} (hz : row.length ≤ 900000) (q : Q (szsT row) S) : Wc true F_sizes_in [.str row] S Q X := by
  refine wc_fn (fn_ws ?_)
  unfold B_sizes_in
  refine ws_seq (ws_set (we_split ?_))
  repeat' sizeOf_list_dec
  refine ⟨_, rfl, ?_⟩
  repeat' sizeOf_list_dec
  refine ⟨_, rfl, ⟨by rw [sp_len]; rfl, by unfold LIM; omega⟩, ?_⟩
  rw [sp_eq]
  have hp : ∀ a ∈ Txt.split row ⟨#[32]⟩, a.length ≤ 1000000 := fun a ha => by have := part_len ha; omega
  have hno := szs_no (row := row)
  unfold szsT at q
  unfold szs at hno q
  generalize Txt.split row ⟨#[32]⟩ = ws at hp q hno
  repeat' sizeOf_list_dec
  rw [List.length_map]
  by_cases h3 : ws.length = 3
  · obtain ⟨w0, w1, w2, rfl⟩ : ∃ w0 w1 w2, ws = [w0, w1, w2] := by
      match ws, h3 with
      | [a, b, c], _ => exact ⟨a, b, c, rfl⟩
    rw [show (!decide ((([w0, w1, w2] : List Str).length : Int) = 3)) = false by simp]
    dsimp only at q
    rw [show ([w0, w1, w2] : List Str).map T.str = [.str w0, .str w1, .str w2] from rfl]
    repeat' sizeOf_list_dec
    refine cn_str ?_
    by_cases hw : w0 = Str.ofString "web"
    · rw [if_pos hw] at q
      rw [decide_eq_true hw]
      repeat' sizeOf_list_dec
      refine number_in_any (hp w1 (by simp)) ?_
      repeat' sizeOf_list_dec
      refine number_in_any (hp w2 (by simp)) ?_
      repeat' sizeOf_list_dec
      refine ⟨_, _, rfl, ?_⟩
      unfold numT
      cases h1 : num w1 with
      | none =>
        rw [h1] at q
        repeat' sizeOf_list_dec
        exact q
      | some n =>
        cases h2 : num w2 with
        | none =>
          rw [h1, h2] at q
          repeat' sizeOf_list_dec
          exact q
        | some m =>
          rw [h1, h2] at q
          dsimp only at q
          repeat' sizeOf_list_dec
          by_cases g1 : 1 ≤ (n : Int)
          · rw [decide_eq_true g1]
            refine ⟨fun _ => ?_, fun h => by cases h⟩
            repeat' sizeOf_list_dec
            by_cases g2 : (n : Int) ≤ 8
            · rw [decide_eq_true g2]
              repeat' sizeOf_list_dec
              refine br_d (fun h => ?_) (fun h => ?_)
              · rw [if_neg (by omega)] at q
                repeat' sizeOf_list_dec
                exact q
              · rw [if_pos (by omega)] at q
                repeat' sizeOf_list_dec
                exact q
            · rw [decide_eq_false g2]
              rw [if_neg (by omega)] at q
              repeat' sizeOf_list_dec
              exact q
          · rw [decide_eq_false g1]
            rw [if_neg (by omega)] at q
            refine ⟨fun h => (by cases h), fun _ => ?_⟩
            repeat' sizeOf_list_dec
            exact q
    · rw [if_neg hw] at q
      rw [decide_eq_false hw]
      repeat' sizeOf_list_dec
      exact q
  · rw [show (!decide ((ws.length : Int) = 3)) = true by simp; omega]
    rw [hno h3] at q
    repeat' sizeOf_list_dec
    exact q
def arr (n : Int) (row : Str) : Option Ar := match Txt.split row ⟨#[32]⟩ with
  | [w0, w1, w2, w3] => if w0 = Str.ofString "arrow" then (match num w1, num w2, sgn w3 with
    | some a, some b, some c => if (a : Int) < n ∧ (b : Int) < n ∧ -(10 ^ 30) ≤ c ∧ c ≤ 10 ^ 30 then some ((a : Int), (b : Int), c) else none
    | _, _, _ => none) else none
  | _ => none
theorem arr_no {n : Int} {row : Str} (h : (Txt.split row ⟨#[32]⟩).length ≠ 4) : arr n row = none := by
  unfold arr
  generalize Txt.split row ⟨#[32]⟩ = ws at h ⊢
  match ws, h with
  | [], _ => rfl
  | [_], _ => rfl
  | [_, _], _ => rfl
  | [_, _, _], _ => rfl
  | [_, _, _, _], h => exact absurd rfl h
  | _ :: _ :: _ :: _ :: _ :: _, _ => rfl
def arrO (n : Int) (row : Str) : T := match arr n row with
  | none => .non
  | some x => arT x
theorem pl_num (z : Str) : pl (numT z) = true := by unfold numT; split <;> rfl
theorem pl_sgn (z : Str) : pl (sgnT z) = true := by unfold sgnT; split <;> rfl
theorem arrow_any {n : Int} {row : Str} {S : Sto} {Q : T → Sto → Prop} {X : Exn → Sto → Prop} (hz : row.length ≤ 900000) (q : Q (arrO n row) S) : Wc true F_arrow_in [.int n, .str row] S Q X := by
  refine wc_fn (fn_ws ?_)
  unfold B_arrow_in
  refine ws_seq (ws_set (we_split ?_))
  repeat' sizeOf_list_dec
  refine ⟨_, rfl, ?_⟩
  repeat' sizeOf_list_dec
  refine ⟨_, rfl, ⟨by rw [sp_len]; rfl, by unfold LIM; omega⟩, ?_⟩
  rw [sp_eq]
  have hp : ∀ a ∈ Txt.split row ⟨#[32]⟩, a.length ≤ 1000000 := fun a ha => by have := part_len ha; omega
  have hno := arr_no (row := row) (n := n)
  unfold arrO at q
  unfold arr at hno q
  generalize Txt.split row ⟨#[32]⟩ = ws at hp q hno
  repeat' sizeOf_list_dec
  rw [List.length_map]
  by_cases h3 : ws.length = 4
  · obtain ⟨w0, w1, w2, w3, rfl⟩ : ∃ w0 w1 w2 w3, ws = [w0, w1, w2, w3] := by
      match ws, h3 with
      | [a, b, c, d], _ => exact ⟨a, b, c, d, rfl⟩
    rw [show (!decide ((([w0, w1, w2, w3] : List Str).length : Int) = 4)) = false by simp]
    dsimp only at q
    rw [show ([w0, w1, w2, w3] : List Str).map T.str = [.str w0, .str w1, .str w2, .str w3] from rfl]
    repeat' sizeOf_list_dec
    refine cn_str ?_
    by_cases hw : w0 = Str.ofString "arrow"
    · rw [if_pos hw] at q
      rw [decide_eq_true hw]
      repeat' sizeOf_list_dec
      refine number_in_any (hp w1 (by simp)) ?_
      repeat' sizeOf_list_dec
      refine number_in_any (hp w2 (by simp)) ?_
      repeat' sizeOf_list_dec
      refine signed_any (hp w3 (by simp)) ?_
      repeat' sizeOf_list_dec
      refine wf_keep (arrow_good_eq n _ S (by simp only [pl, pls, pl_num, pl_sgn, Bool.and_self])) ?_
      unfold numT sgnT
      cases h1 : num w1 with
      | none =>
        rw [h1] at q
        repeat' sizeOf_list_dec
        exact q
      | some a =>
        cases h2 : num w2 with
        | none =>
          rw [h1, h2] at q
          repeat' sizeOf_list_dec
          exact q
        | some b =>
          cases h3 : sgn w3 with
          | none =>
            rw [h1, h2, h3] at q
            repeat' sizeOf_list_dec
            exact q
          | some c =>
            rw [h1, h2, h3] at q
            dsimp only at q ⊢
            by_cases g : (a : Int) < n ∧ (b : Int) < n ∧ -(10 ^ 30) ≤ c ∧ c ≤ 10 ^ 30
            · rw [if_pos g] at q
              rw [show arrowB n (.tup [.int (a : Int), .int (b : Int), .int c]) = true by simp [arrowB]; omega]
              repeat' sizeOf_list_dec
              exact q
            · rw [if_neg g] at q
              rw [show arrowB n (.tup [.int (a : Int), .int (b : Int), .int c]) = false by
                unfold arrowB
                rw [Bool.eq_false_iff]
                intro h
                simp only [Bool.and_eq_true, decide_eq_true_eq] at h
                exact g ⟨h.1.2, h.2.1.2, h.2.2.1, h.2.2.2⟩]
              repeat' sizeOf_list_dec
              exact q
    · rw [if_neg hw] at q
      rw [decide_eq_false hw]
      repeat' sizeOf_list_dec
      exact q
  · rw [show (!decide ((ws.length : Int) = 4)) = true by simp; omega]
    rw [hno h3] at q
    repeat' sizeOf_list_dec
    exact q
def stops (last : Option (Int × Int)) (x : Ar) : Bool := match last with
  | none => false
  | some p => decide (x.1 < p.1 ∨ (x.1 = p.1 ∧ x.2.1 ≤ p.2))
def scan (n : Int) (m : Nat) : List Str → Nat → Option (Int × Int) → Option Nat
  | [], i, _ => if i < m then some (i + 2) else none
  | r :: rs, i, last => match arr n r with
    | none => some (i + 2)
    | some x => if (stops last x || decide (i = m)) = true then some (i + 2) else scan n m rs (i + 1) (some (x.1, x.2.1))
theorem scan_nil (n : Int) (m i : Nat) (last : Option (Int × Int)) : scan n m [] i last = if i < m then some (i + 2) else none := rfl
theorem scan_cons (n : Int) (m : Nat) (r : Str) (rs : List Str) (i : Nat) (last : Option (Int × Int)) : scan n m (r :: rs) i last = (match arr n r with
    | none => some (i + 2)
    | some x => if (stops last x || decide (i = m)) = true then some (i + 2) else scan n m rs (i + 1) (some (x.1, x.2.1))) := rfl
def dueF (z : Str) : Option Nat := match Txt.split z ⟨#[10]⟩ with
  | [] => none
  | r0 :: rs => match szs r0 with
    | none => some 1
    | some p => scan (p.1 : Int) p.2 rs 0 none
def noText (r : Nat) : Exn := ⟨"NoText", [("row", .int (r : Int))]⟩
theorem le_eq {a b c d : Int} {S : Sto} : cmpB .LtE (.tup [.int a, .int b]) (.tup [.int c, .int d]) S = some (decide (a < c ∨ (a = c ∧ b ≤ d))) := by
  have e0 : cmpB .LtE (.tup [.int a, .int b]) (.tup [.int c, .int d]) S = some (lexLe [a, b] [c, d]) := by unfold cmpB; rfl
  have e1 : lexLe [a, b] [c, d] = (if decide (a = c) = true then (if decide (b = d) = true then decide (2 ≤ 2) else decide (b ≤ d)) else decide (a ≤ c)) := rfl
  rw [e0, e1]
  congr 1
  by_cases h1 : a = c
  · subst h1
    by_cases h2 : b = d
    · subst h2
      simp
    · rw [if_pos (by simp), if_neg (by simp [h2]), Bool.eq_iff_iff, decide_eq_true_eq, decide_eq_true_eq]
      omega
  · rw [if_neg (by simp [h1]), Bool.eq_iff_iff, decide_eq_true_eq, decide_eq_true_eq]
    omega
theorem wf_frzE {F : FnS} {ts : List T} {S : Sto} {Q : T → Sto → Prop} {X : Exn → Sto → Prop} (h : Po (fun t S' => noRef t = true ∧ Cl (S'.take S.length) ∧ Q t (S'.take S.length)) (fun x S' => x.fs.all (fun p => T.und S.length p.2) = true ∧ Cl (S'.take S.length) ∧ X x (S'.take S.length)) (F ts S)) : Wc false F ts S Q X := by
  cases e : F ts S with
  | none => rw [e] at h; exact h.g.elim
  | some r =>
    obtain ⟨r, S'⟩ := r
    rw [e] at h
    cases r with
    | err x =>
      obtain ⟨h1, h2, q⟩ := h
      have e2 : frzR S.length (F ts S) = some (.err x, S'.take S.length) := by
        have hu := cl_und h2 (n := S.length) (by rw [List.length_take]; omega)
        rw [e]
        simp only [frzR, h1, hu, Bool.and_true, if_true]
      refine ⟨?_⟩
      unfold callK
      rw [if_neg (by decide), e2]
      exact ⟨q⟩
    | ok t =>
      refine wf_frzC ?_
      rw [e]
      exact ⟨h.g⟩
theorem web_read_any {z : Str} {S : Sto} {Q : T → Sto → Prop} {X : Exn → Sto → Prop} (hz : z.length ≤ 900000) (hS : Cl S) (q1 : dueF z = none → ∀ t, Q t S) (q2 : ∀ r, dueF z = some r → X (noText r) S) : Wc false F_web_read [.str z] S Q X := by
  have tk : S.take S.length = S := List.take_length
  refine wf_frzE ?_
  refine fn_ws ?_
  unfold B_web_read
  repeat' sizeOf_list_dec
  refine we_split ?_
  repeat' sizeOf_list_dec
  refine ⟨_, rfl, ?_⟩
  repeat' sizeOf_list_dec
  refine ⟨_, rfl, ⟨by rw [nl_len]; rfl, by unfold LIM; omega⟩, ?_⟩
  rw [nl_eq]
  have hp : ∀ a ∈ Txt.split z ⟨#[10]⟩, a.length ≤ 900000 := fun a ha => by have := part_len ha; omega
  have hne := split_ne z ⟨#[10]⟩
  have hcn : (Txt.split z ⟨#[10]⟩).length ≤ 900002 := by have := PyProof.Rows.split_le z ⟨#[10]⟩; omega
  unfold dueF at q1 q2
  generalize Txt.split z ⟨#[10]⟩ = ws at hp hne hcn q1 q2
  cases ws with
  | nil => exact absurd rfl hne
  | cons r0 rs =>
  dsimp only at q1 q2
  have hr0 := hp r0 (by simp)
  repeat' sizeOf_list_dec
  refine ⟨.str r0, by rw [List.map_cons]; exact idx0L _ _ _, ?_⟩
  repeat' sizeOf_list_dec
  refine sizes_any hr0 ?_
  unfold szsT
  cases hs : szs r0 with
  | none =>
    rw [hs] at q1 q2
    repeat' sizeOf_list_dec
    exact ⟨rfl, rfl, rfl, by rw [tk]; exact hS, by rw [tk]; exact q2 1 rfl⟩
  | some nm =>
    obtain ⟨n, m⟩ := nm
    rw [hs] at q1 q2
    dsimp only at q1 q2 ⊢
    have ecut : cutT ((r0 :: rs).map T.str) (some 1) none = rs.map T.str := by
      rw [show (some 1 : Option Int) = some ((1 : Nat) : Int) from rfl, cut_from]
      rfl
    repeat' sizeOf_list_dec
    generalize hTot : scan (n : Int) m rs 0 none = tot at q1 q2
    refine ws_loop (fun i l S' => ∃ (fs : List Ar) (last : Option (Int × Int)) (y4 y5 y6 : Option T), S ++ [.lst (fs.map arT)] = S' ∧ fs.length = i ∧ (fs.getLast?.map fun x => (x.1, x.2.1)) = last ∧ scan (n : Int) m (rs.drop i) i last = tot ∧ l = [some (.str z), some (.lst ((r0 :: rs).map T.str)), some (.tup [.int (n : Int), .int (m : Int)]), some (.ref S.length), y4, y5, y6]) ?_
    repeat' sizeOf_list_dec
    rw [ecut]
    refine ⟨enumT 0 (rs.map T.str), rfl, ⟨[], none, none, none, none, rfl, rfl, rfl, hTot, rfl⟩, fun _ _ _ _ => rfl, ?_, ?_⟩
    · rintro i t l S' hi ⟨fs, last, y4, y5, y6, rfl, hfl, hla, hsc, rfl⟩
      rw [H.enumT_at, List.getElem?_map] at hi
      cases hx2 : rs[i]? with
      | none => rw [hx2] at hi; cases hi
      | some r =>
      rw [hx2] at hi
      cases hi
      have hil := (List.getElem?_eq_some_iff.mp hx2).1
      have hrl := hp r (List.mem_cons_of_mem _ (List.mem_of_getElem? hx2))
      have hdr : rs.drop i = r :: rs.drop (i + 1) := by
        rw [List.drop_eq_getElem_cons hil]
        rw [(List.getElem?_eq_some_iff.mp hx2).2]
      have tkS : (S ++ [Ob.lst (fs.map arT)]).take S.length = S := List.take_left
      have bad : tot = some (i + 2) → (⟨"NoText", [("row", T.int ((i : Int) + 2))]⟩ : Exn).fs.all (fun p => T.und S.length p.2) = true ∧ Cl ((S ++ [Ob.lst (fs.map arT)]).take S.length) ∧ X ⟨"NoText", [("row", T.int ((i : Int) + 2))]⟩ ((S ++ [Ob.lst (fs.map arT)]).take S.length) := fun e => by
        rw [tkS]
        exact ⟨rfl, hS, q2 (i + 2) e⟩
      refine ⟨_, rfl, ?_⟩
      rw [Nat.zero_add]
      repeat' sizeOf_list_dec
      refine arrow_any hrl ?_
      rw [hdr, scan_cons] at hsc
      unfold arrO
      cases ha : arr (n : Int) r with
      | none =>
        rw [ha] at hsc
        dsimp only at hsc
        repeat' sizeOf_list_dec
        exact ⟨rfl, rfl, bad hsc.symm⟩
      | some x =>
        rw [ha] at hsc
        dsimp only at hsc
        repeat' sizeOf_list_dec
        refine ne_nilR (own_at _ _) (noRefs_map arT (fun _ => rfl) _) ?_
        rw [List.isEmpty_map]
        have hfs : fs.length ≤ 900002 := by simp only [List.length_cons] at hcn; omega
        rcases List.eq_nil_or_concat fs with rfl | ⟨pre, y, rfl⟩
        · have hi0 : i = 0 := by simpa using hfl.symm
          have hst : stops last x = false := by rw [← hla]; rfl
          rw [hst, Bool.false_or] at hsc
          repeat' sizeOf_list_dec
          refine wr_lenr (own_at _ _) ?_
          repeat' sizeOf_list_dec
          refine br_d (fun h => ?_) (fun h => ?_)
          · rw [if_pos (decide_eq_true (by simp at h; omega))] at hsc
            repeat' sizeOf_list_dec
            exact ⟨rfl, rfl, bad hsc.symm⟩
          · rw [if_neg (by simp at h ⊢; omega)] at hsc
            repeat' sizeOf_list_dec
            refine ap_ty (own_at _ _) ?_
            repeat' sizeOf_list_dec
            refine ap_own (own_at _ _) (by simp) ?_
            rw [own_set]
            repeat' sizeOf_list_dec
            exact ⟨[x], some (x.1, x.2.1), _, _, _, by simp, by simp [hi0], rfl, hsc, rfl⟩
        · rw [List.concat_eq_append] at hfl hla bad hfs tkS ⊢
          have hst : stops last x = decide (x.1 < y.1 ∨ (x.1 = y.1 ∧ x.2.1 ≤ y.2.1)) := by
            rw [← hla]
            simp [stops]
          have hlast : ((pre ++ [y]).map arT)[((pre ++ [y]).map arT).length - 1]? = some (arT y) := by simp
          rw [show (pre ++ [y]).isEmpty = false by simp]
          repeat' sizeOf_list_dec
          refine wr_slt (xs := [.int x.1, .int x.2.1, .int x.2.2]) ?_
          rw [show cutT [T.int x.1, T.int x.2.1, T.int x.2.2] none (some 2) = [T.int x.1, T.int x.2.1] from rfl]
          repeat' sizeOf_list_dec
          refine ix_rfl (idx_last (own_at _ _) hlast) ?_
          repeat' sizeOf_list_dec
          refine wr_slt (xs := [.int y.1, .int y.2.1, .int y.2.2]) ?_
          rw [show cutT [T.int y.1, T.int y.2.1, T.int y.2.2] none (some 2) = [T.int y.1, T.int y.2.1] from rfl]
          repeat' sizeOf_list_dec
          refine ⟨_, le_eq, ?_⟩
          rw [← hst]
          cases hs2 : stops last x with
          | true =>
            rw [hs2, Bool.true_or, if_pos rfl] at hsc
            repeat' sizeOf_list_dec
            exact ⟨rfl, rfl, bad hsc.symm⟩
          | false =>
            rw [hs2, Bool.false_or] at hsc
            repeat' sizeOf_list_dec
            refine wr_lenr (own_at _ _) ?_
            repeat' sizeOf_list_dec
            rw [List.length_map, hfl]
            refine br_d (fun h => ?_) (fun h => ?_)
            · rw [if_pos (decide_eq_true (by omega))] at hsc
              repeat' sizeOf_list_dec
              exact ⟨rfl, rfl, bad hsc.symm⟩
            · rw [if_neg (by simp; omega)] at hsc
              repeat' sizeOf_list_dec
              refine ap_ty (own_at _ _) ?_
              repeat' sizeOf_list_dec
              refine ap_own (own_at _ _) (by rw [List.length_map]; omega) ?_
              rw [own_set]
              repeat' sizeOf_list_dec
              exact ⟨pre ++ [y] ++ [x], some (x.1, x.2.1), _, _, _, by simp, by rw [List.length_append, hfl]; rfl, by simp, hsc, rfl⟩
    · rintro l S' ⟨fs, last, y4, y5, y6, rfl, hfl, hla, hsc, rfl⟩
      rw [H.enumT_len, List.length_map] at hfl hsc
      rw [List.drop_length, scan_nil] at hsc
      have tkS : (S ++ [Ob.lst (fs.map arT)]).take S.length = S := List.take_left
      repeat' sizeOf_list_dec
      refine wr_lenr (own_at _ _) ?_
      repeat' sizeOf_list_dec
      rw [List.length_map]
      refine br_d (fun h => ?_) (fun h => ?_)
      · rw [if_pos (by omega)] at hsc
        repeat' sizeOf_list_dec
        rw [List.length_map, List.length_cons]
        refine ⟨rfl, rfl, rfl, by rw [tkS]; exact hS, ?_⟩
        rw [tkS]
        have := q2 (rs.length + 2) hsc.symm
        unfold noText at this
        rw [show ((rs.length + 2 : Nat) : Int) = ((rs.length + 1 : Nat) : Int) + 1 by omega] at this
        exact this
      · rw [if_neg (by omega)] at hsc
        repeat' sizeOf_list_dec
        refine wr_of (show biF .tuple [.ref S.length] (S ++ [Ob.lst (fs.map arT)]) = some (.val (.tup (fs.map arT))) by simp only [biF, tupleF, Sto.seq, own_at]; rfl) (wr_val ?_)
        repeat' sizeOf_list_dec
        exact ⟨noRef_web (n : Int) fs, by rw [tkS]; exact hS, by rw [tkS]; exact q1 hsc.symm _⟩
end K71
namespace K71
open PySem PySem.Spec L2 TL H
local macro_rules | `(tactic| sizeOf_list_dec) => `(tactic| first
  | with_reducible refine we_var (by with_unfolding_all exact rfl) ?_
  | with_reducible (first
  | refine ws_seq ?_ | refine ws_set ?_ | refine we_int ?_ | refine we_call ?_ | refine we_callV ?_ | refine we_trng ?_ | refine we_sset ?_ | refine we_dlit ?_ | refine we_dget ?_ | refine wa_cons ?_ | refine wa_nil ?_
  | refine we_bin ?_ | refine we_cmp ?_ | refine we_and ?_ | refine we_or ?_ | refine we_one ?_ | refine we_not ?_ | refine we_neg ?_ | refine we_gc ?_ | refine we_str ?_ | refine we_bl ?_ | refine we_non ?_
  | refine we_idx ?_ | refine we_bi ?_ | refine we_isi ?_ | refine we_meth ?_ | refine we_ite ?_ | refine we_seq ?_ | refine we_rng ?_ | refine we_enum ?_ | refine we_zip ?_
  | refine we_dnewKf ?_ | refine we_lenset ?_ | refine we_sl ?_ | refine we_rev ?_ | refine wpt_nop ?_ | refine we_tup ?_ | refine we_lst ?_ | refine we_chain ?_ | refine we_inr ?_
  | refine ws_nil ?_ | refine ws_ite ?_ | refine ws_ret ?_ | refine ws_expr ?_ | refine ws_setI ?_ | refine ws_raise ?_ | refine ws_retN ?_ | refine ws_skip ?_ | refine ws_asg ?_ | refine ws_par ?_
  | refine wr_add ?_ | refine wr_sub ?_ | refine wr_abs ?_ | refine wr_max2 ?_ | refine wr_min2 ?_ | refine wr_int ?_ | refine wr_intb ?_ | refine wr_lent ?_ | refine wr_lenl ?_ | refine wr_tupl ?_ | refine wr_tupt ?_ | refine wr_slt ?_ | refine wr_sll ?_ | refine wr_slc ?_ | refine wr_revt ?_ | refine wr_lstl ?_ | refine wr_lstt ?_ | refine wr_new ?_ | refine wr_frz ?_
  | refine ce_lt ?_ | refine ce_le ?_ | refine ce_gt ?_ | refine ce_ge ?_ | refine ce_eq ?_ | refine ce_ne ?_ | refine br_t ?_ | refine br_f ?_ | refine ex_bl ?_ | refine ex_int ?_)
  | ((with_reducible refine wpt_e ?_ ?_); exact rfl)
  | ((with_reducible refine lim_c ?_ ?_); exact rfl)
  | ((with_reducible refine wr_powl ?_ ?_); exact rfl)
  | ((with_reducible refine wr_mull ?_ ?_); exact rfl)
  | ((with_reducible refine wr_fdivl ?_ ?_); exact rfl)
  | ((with_reducible refine wr_modl ?_ ?_); exact rfl)
  | with_reducible refine br_rT (by with_unfolding_all exact rfl) ?_
  | with_reducible refine br_rF (by with_unfolding_all exact rfl) ?_
  | with_reducible refine ix_rfl (by with_unfolding_all exact rfl) ?_
  | ((with_reducible refine is_rflT ?_ ?_); · with_unfolding_all exact rfl)
  | ((with_reducible refine is_rflF ?_ ?_); · with_unfolding_all exact rfl)
  | ((with_reducible refine isn_rflT ?_ ?_); · with_unfolding_all exact rfl)
  | ((with_reducible refine isn_rflF ?_ ?_); · with_unfolding_all exact rfl)
  | ((with_reducible refine isi_rflT ?_ ?_); · with_unfolding_all exact rfl)
  | ((with_reducible refine isi_rflF ?_ ?_); · with_unfolding_all exact rfl)
  | fail)
open K70
def inrOK (ng : Bool) (x : T) (o : Option (Int × Int)) (S : Sto) : RE := match x, o with
  | .int i, some (lo, hi) => if -(2 ^ 62) ≤ lo ∧ lo < 2 ^ 62 ∧ -(2 ^ 62) ≤ hi ∧ hi < 2 ^ 62 then some (.ok (.bl (if ng then !decide (lo ≤ i ∧ i < hi) else decide (lo ≤ i ∧ i < hi))), S) else none
  | .non, some (lo, hi) => if -(2 ^ 62) ≤ lo ∧ lo < 2 ^ 62 ∧ -(2 ^ 62) ≤ hi ∧ hi < 2 ^ 62 then some (.ok (.bl ng), S) else none
  | _, _ => none
section
variable {l : Lo} {S : Sto} {Q : T → Sto → Prop} {X : Exn → Sto → Prop}
theorem ev_inrO (ng : Bool) (a r : E) : ev (.inrO ng a r) l S = bnd (ev a l S) fun x S1 => bnd (ev r l S1) fun t S2 => lstK t fun ts => inrOK ng x (rngBounds ts) S2 := by
  simp only [ev, bind_app, args_app]
  congr 1; funext x S1; congr 1; funext t S2
  cases t <;> try rfl
  rename_i ts
  simp only [lstK]
  cases x <;> cases rngBounds ts <;> try rfl
  all_goals (simp only [inrOK]; split <;> rfl)
def inB (x : T) (lo hi : Int) : Bool := match x with
  | .int i => decide (lo ≤ i ∧ i < hi)
  | _ => false
theorem we_inrO {ng : Bool} {a args : E} (h : TL.WE a l S (fun x S1 => WA args l S1 (fun ts S2 => ∃ lo hi, rngBounds ts = some (lo, hi) ∧ (-(2 ^ 62) ≤ lo ∧ lo < 2 ^ 62 ∧ -(2 ^ 62) ≤ hi ∧ hi < 2 ^ 62) ∧ ((∃ i, x = .int i) ∨ x = .non) ∧ Q (.bl (if ng then !inB x lo hi else inB x lo hi)) S2) X) X) : TL.WE (.inrO ng a args) l S Q X := by
  unfold TL.WE; rw [ev_inrO]
  refine po_bnd (h.mono (fun x S1 h => po_bnd (h.mono (fun y S2 h => ?_) fun _ _ h => h)) fun _ _ h => h)
  obtain ⟨ts, rfl, lo, hi, e, b, hx, q⟩ := h
  rw [lstK_l, e]
  unfold inrOK
  rcases hx with ⟨i, rfl⟩ | rfl
  · dsimp only
    rw [if_pos b]
    exact ⟨q⟩
  · dsimp only
    rw [if_pos b]
    refine ⟨?_⟩
    have : (if ng then !inB .non lo hi else inB .non lo hi) = ng := by cases ng <;> rfl
    rw [this] at q
    exact q
end
theorem numT_or (z : Str) : (∃ i, numT z = .int i) ∨ numT z = .non := by
  unfold numT
  split
  · exact .inr rfl
  · exact .inl ⟨_, rfl⟩
theorem ce_isnil {xs : List T} {S : Sto} {P : Bool → Prop} (h : noRefs xs = true) (p : P (xs.isEmpty)) : ∃ c, cmpB .Eq (.tup xs) (.tup []) S = some c ∧ P c := by
  refine ⟨_, ?_, p⟩
  have e0 : cmpB .Eq (.tup xs) (.tup []) S = eqD (.tup xs) (.tup []) S := by unfold cmpB; rfl
  rw [e0, eqD_dat S (by simpa [noRef] using h) rfl (Nat.le_trans (Nat.min_le_right _ _) (by decide))]
  cases xs <;> simp [dat, dats, PyData.eqv, PyData.eqvAll]
theorem cn_isnil {xs : List T} {S : Sto} {P : Bool → Prop} (h : noRefs xs = true) (p : P (!xs.isEmpty)) : ∃ c, cmpB .NotEq (.tup xs) (.tup []) S = some c ∧ P c := by
  refine ⟨_, ?_, p⟩
  have e0 : cmpB .NotEq (.tup xs) (.tup []) S = (eqD (.tup xs) (.tup []) S).map (!·) := by unfold cmpB; rfl
  rw [e0, eqD_dat S (by simpa [noRef] using h) rfl (Nat.le_trans (Nat.min_le_right _ _) (by decide))]
  cases xs <;> simp [dat, dats, PyData.eqv, PyData.eqvAll]
def pairT (o : Option (Int × Int)) : T := match o with
  | none => .tup []
  | some p => .tup [.int p.1, .int p.2]
def arrU (n : Int) (row : Str) : T := pairT ((arr n row).map fun x => (x.1, x.2.1))
def arr4 (n : Int) (w1 w2 w3 : Str) : Option Ar := match num w1, num w2, sgn w3 with
  | some a, some b, some c => if (a : Int) < n ∧ (b : Int) < n ∧ -(10 ^ 30) ≤ c ∧ c ≤ 10 ^ 30 then some ((a : Int), (b : Int), c) else none
  | _, _, _ => none
theorem arr_four {n : Int} {row : Str} (w0 w1 w2 w3 : Str) (h : Txt.split row ⟨#[32]⟩ = [w0, w1, w2, w3]) : arr n row = if w0 = Str.ofString "arrow" then arr4 n w1 w2 w3 else none := by
  unfold arr
  rw [h]
  rfl
theorem arr4_none {n : Int} {w1 w2 w3 : Str} (h : ∀ a b c, num w1 = some a → num w2 = some b → sgn w3 = some c → ¬((a : Int) < n ∧ (b : Int) < n ∧ -(10 ^ 30) ≤ c ∧ c ≤ 10 ^ 30)) : arr4 n w1 w2 w3 = none := by
  unfold arr4
  cases h1 : num w1 with
  | none => rfl
  | some a =>
    cases h2 : num w2 with
    | none => rfl
    | some b =>
      cases h3 : sgn w3 with
      | none => rfl
      | some c => exact if_neg (h a b c h1 h2 h3)
theorem arr4_some {n : Int} {w1 w2 w3 : Str} {a b : Nat} {c : Int} (h1 : num w1 = some a) (h2 : num w2 = some b) (h3 : sgn w3 = some c) (g : (a : Int) < n ∧ (b : Int) < n ∧ -(10 ^ 30) ≤ c ∧ c ≤ 10 ^ 30) : arr4 n w1 w2 w3 = some ((a : Int), (b : Int), c) := by
  unfold arr4
  rw [h1, h2, h3]
  exact if_pos g
theorem inB_some {z : Str} {n : Int} (h : inB (numT z) 0 n = true) : ∃ a, num z = some a ∧ (a : Int) < n := by
  unfold numT at h
  cases e : num z with
  | none => rw [e] at h; cases h
  | some a =>
    rw [e] at h
    exact ⟨a, rfl, (of_decide_eq_true h).2⟩
theorem inB_none {z : Str} {n : Int} (h : ¬inB (numT z) 0 n = true) {a : Nat} (e : num z = some a) : ¬(a : Int) < n := fun g => h (by
  unfold numT
  rw [e]
  exact decide_eq_true ⟨by omega, g⟩)
theorem law_arrow_any {n : Int} {row : Str} {S : Sto} {Q : T → Sto → Prop} {X : Exn → Sto → Prop} (n0 : 0 ≤ n) (n8 : n ≤ 8) (hz : row.length ≤ 900000) (q : Q (arrU n row) S) : Wc true F__law_arrow_in [.int n, .str row] S Q X := by
  refine wc_fn (fn_ws ?_)
  unfold B__law_arrow_in
  refine ws_seq (ws_set (we_split ?_))
  repeat' sizeOf_list_dec
  refine ⟨_, rfl, ?_⟩
  repeat' sizeOf_list_dec
  refine ⟨_, rfl, ⟨by rw [sp_len]; rfl, by unfold LIM; omega⟩, ?_⟩
  rw [sp_eq]
  have hp : ∀ a ∈ Txt.split row ⟨#[32]⟩, a.length ≤ 1000000 := fun a ha => by have := part_len ha; omega
  have hno := arr_no (row := row) (n := n)
  have h4 := @arr_four n row
  have hT : (10 : Int) ^ Int.toNat 30 = 1000000000000000000000000000000 := by decide
  unfold arrU at q
  generalize Txt.split row ⟨#[32]⟩ = ws at hp hno h4
  repeat' sizeOf_list_dec
  rw [List.length_map]
  by_cases h3 : ws.length = 4
  · obtain ⟨w0, w1, w2, w3, rfl⟩ : ∃ w0 w1 w2 w3, ws = [w0, w1, w2, w3] := by
      match ws, h3 with
      | [a, b, c, d], _ => exact ⟨a, b, c, d, rfl⟩
    have h4 := h4 w0 w1 w2 w3 rfl
    rw [h4] at q
    rw [show (!decide ((([w0, w1, w2, w3] : List Str).length : Int) = 4)) = false by simp]
    rw [show ([w0, w1, w2, w3] : List Str).map T.str = [.str w0, .str w1, .str w2, .str w3] from rfl]
    repeat' sizeOf_list_dec
    refine cn_str ?_
    by_cases hw : w0 = Str.ofString "arrow"
    · rw [if_pos hw] at q
      rw [decide_eq_true hw]
      repeat' sizeOf_list_dec
      refine value_any (hp w1 (by simp)) ?_
      repeat' sizeOf_list_dec
      refine value_any (hp w2 (by simp)) ?_
      repeat' sizeOf_list_dec
      refine we_inrO ?_
      repeat' sizeOf_list_dec
      refine ⟨0, n, rfl, by omega, numT_or w1, ?_⟩
      have bail : (∀ a b c, num w1 = some a → num w2 = some b → sgn w3 = some c → ¬((a : Int) < n ∧ (b : Int) < n ∧ -(10 ^ 30) ≤ c ∧ c ≤ 10 ^ 30)) → Q (.tup []) S := fun h => by
        rw [arr4_none h] at q
        exact q
      by_cases g1 : inB (numT w1) 0 n = true
      · rw [g1]
        repeat' sizeOf_list_dec
        refine we_inrO ?_
        repeat' sizeOf_list_dec
        refine ⟨0, n, rfl, by omega, numT_or w2, ?_⟩
        by_cases g2 : inB (numT w2) 0 n = true
        · rw [g2]
          obtain ⟨a, ha, han⟩ := inB_some g1
          obtain ⟨b, hb, hbn⟩ := inB_some g2
          have good : ∀ c, sgn w3 = some c → -(10 ^ 30) ≤ c ∧ c ≤ 10 ^ 30 → Q (.tup [numT w1, numT w2]) S := fun c hc hcc => by
            rw [arr4_some ha hb hc ⟨han, hbn, hcc⟩] at q
            unfold numT
            rw [ha, hb]
            exact q
          repeat' sizeOf_list_dec
          refine wr_sls (by have := hp w3 (by simp); unfold LIM; omega) ?_
          repeat' sizeOf_list_dec
          refine ce_str ?_
          rw [cut_minus]
          by_cases hm : (cl w3).head? = some 45
          · rw [decide_eq_true hm]
            have hs : sgn w3 = match num (L2.cutS w3 (some 1) none) with
              | none => none
              | some m => if m = 0 then none else some (-(m : Int)) := if_pos hm
            repeat' sizeOf_list_dec
            refine wr_sls (by have := hp w3 (by simp); unfold LIM; omega) ?_
            repeat' sizeOf_list_dec
            refine value_any (Nat.le_trans (cutS_len w3 _ _) (hp w3 (by simp))) ?_
            cases hn : num (L2.cutS w3 (some 1) none) with
            | none =>
              rw [show numT (L2.cutS w3 (some 1) none) = .non by unfold numT; rw [hn]]
              rw [hn] at hs
              repeat' sizeOf_list_dec
              exact bail fun a b c _ _ h => by rw [hs] at h; cases h
            | some m =>
              rw [show numT (L2.cutS w3 (some 1) none) = .int m by unfold numT; rw [hn]]
              rw [hn] at hs
              dsimp only at hs
              repeat' sizeOf_list_dec
              refine br_d (fun h => ?_) (fun h => ?_)
              · repeat' sizeOf_list_dec
                refine bail fun a b c _ _ e => ?_
                rw [hs, if_neg (by omega)] at e
                cases e
                omega
              · repeat' sizeOf_list_dec
                refine br_d (fun h0 => ?_) (fun h0 => ?_)
                · repeat' sizeOf_list_dec
                  refine wr_sls (by have := hp w3 (by simp); unfold LIM; omega) ?_
                  repeat' sizeOf_list_dec
                  refine ce_str ?_
                  rw [cut_minus, decide_eq_true hm]
                  repeat' sizeOf_list_dec
                  refine bail fun a b c _ _ e => ?_
                  rw [hs, if_pos (by omega)] at e
                  cases e
                · repeat' sizeOf_list_dec
                  exact good (-(m : Int)) (by rw [hs, if_neg (by omega)]) (by omega)
          · rw [decide_eq_false hm]
            have hs : sgn w3 = match num w3 with
              | none => none
              | some m => some (m : Int) := by
              unfold sgn
              rw [if_neg hm]
              cases num w3 <;> rfl
            repeat' sizeOf_list_dec
            refine value_any (hp w3 (by simp)) ?_
            cases hn : num w3 with
            | none =>
              rw [show numT w3 = .non by unfold numT; rw [hn]]
              rw [hn] at hs
              repeat' sizeOf_list_dec
              exact bail fun a b c _ _ h => by rw [hs] at h; cases h
            | some m =>
              rw [show numT w3 = .int m by unfold numT; rw [hn]]
              rw [hn] at hs
              dsimp only at hs
              repeat' sizeOf_list_dec
              refine br_d (fun h => ?_) (fun h => ?_)
              · repeat' sizeOf_list_dec
                refine bail fun a b c _ _ e => ?_
                rw [hs] at e
                cases e
                omega
              · repeat' sizeOf_list_dec
                refine br_d (fun h0 => ?_) (fun h0 => ?_)
                · repeat' sizeOf_list_dec
                  refine wr_sls (by have := hp w3 (by simp); unfold LIM; omega) ?_
                  repeat' sizeOf_list_dec
                  refine ce_str ?_
                  rw [cut_minus, decide_eq_false hm]
                  repeat' sizeOf_list_dec
                  exact good (m : Int) hs (by omega)
                · repeat' sizeOf_list_dec
                  exact good (m : Int) hs (by omega)
        · rw [Bool.eq_false_iff.mpr g2]
          repeat' sizeOf_list_dec
          exact bail fun a b c _ h2 _ h => inB_none g2 h2 h.2.1
      · rw [Bool.eq_false_iff.mpr g1]
        repeat' sizeOf_list_dec
        exact bail fun a b c h1 _ _ h => inB_none g1 h1 h.1
    · rw [if_neg hw] at q
      rw [decide_eq_false hw]
      repeat' sizeOf_list_dec
      exact q
  · rw [show (!decide ((ws.length : Int) = 4)) = true by simp; omega]
    rw [hno h3] at q
    repeat' sizeOf_list_dec
    exact q
def dueT (z : Str) : T := match dueF z with
  | none => .non
  | some r => .int (r : Int)
theorem rng2_ok {a b : Int} (h0 : 0 ≤ a) (h1 : a < 2 ^ 60) (h2 : 0 ≤ b) (h3 : b < 2 ^ 60) : rngF [.int a, .int b] = some (intRange a b) := by
  simp only [rngF, rngBounds]
  rw [if_pos ⟨by omega, by omega, by omega, by omega⟩]
theorem rng2_at {a b : Int} {k : Nat} {t : T} (h : (intRange a b)[k]? = some t) : t = .int (a + k) ∧ a + (k : Int) < b := by
  unfold intRange at h
  rw [List.getElem?_map] at h
  cases e : (List.range (b - a).toNat)[k]? with
  | none => rw [e] at h; cases h
  | some j =>
    rw [e] at h
    obtain ⟨h1, h2⟩ := List.getElem?_eq_some_iff.mp e
    rw [List.getElem_range] at h2
    subst h2
    rw [List.length_range] at h1
    injection h with h
    exact ⟨h.symm, by omega⟩
theorem ce_pair {o : Option (Int × Int)} {S : Sto} {P : Bool → Prop} (p : P o.isNone) : ∃ c, cmpB .Eq (pairT o) (.tup []) S = some c ∧ P c := by
  cases o with
  | none => exact ce_isnil rfl p
  | some x => exact ce_isnil rfl p
theorem cn_pair {o : Option (Int × Int)} {S : Sto} {P : Bool → Prop} (p : P (!o.isNone)) : ∃ c, cmpB .NotEq (pairT o) (.tup []) S = some c ∧ P c := by
  cases o with
  | none => exact cn_isnil rfl p
  | some x => exact cn_isnil rfl p
theorem idxL_at {xs : List T} {k : Nat} {t : T} (S : Sto) (h : xs[k]? = some t) : idxF (.lst xs) (.int (k : Int)) S = some t := by
  have hk := (List.getElem?_eq_some_iff.mp h).1
  simp only [idxF, Sto.seq, L2.atI, L2.ixN]
  rw [if_pos (by omega), if_pos (by omega)]
  simpa using h
theorem szs_three {row : Str} (w0 w1 w2 : Str) (h : Txt.split row ⟨#[32]⟩ = [w0, w1, w2]) : szs row = if w0 = Str.ofString "web" then (match num w1, num w2 with
    | some n, some m => if 1 ≤ n ∧ n ≤ 8 ∧ m ≤ 24 then some (n, m) else none
    | _, _ => none) else none := by
  unfold szs
  rw [h] <;> rfl
theorem due_any {z : Str} {S : Sto} {Q : T → Sto → Prop} {X : Exn → Sto → Prop} (hz : z.length ≤ 900000) (q : Q (dueT z) S) : Wc true F__law_due [.str z] S Q X := by
  refine wc_fn (fn_ws ?_)
  unfold B__law_due
  refine ws_seq (ws_set (we_split ?_))
  repeat' sizeOf_list_dec
  refine ⟨_, rfl, ?_⟩
  repeat' sizeOf_list_dec
  refine ⟨_, rfl, ⟨by rw [nl_len]; rfl, by unfold LIM; omega⟩, ?_⟩
  rw [nl_eq]
  have hp : ∀ a ∈ Txt.split z ⟨#[10]⟩, a.length ≤ 900000 := fun a ha => by have := part_len ha; omega
  have hne := split_ne z ⟨#[10]⟩
  have hcn : (Txt.split z ⟨#[10]⟩).length ≤ 900002 := by have := PyProof.Rows.split_le z ⟨#[10]⟩; omega
  unfold dueT dueF at q
  generalize Txt.split z ⟨#[10]⟩ = rows at hp hne hcn q
  cases rows with
  | nil => exact absurd rfl hne
  | cons r0 rs =>
  dsimp only at q
  have hr0 := hp r0 (by simp)
  refine ws_seq (ws_set (we_split ?_))
  repeat' sizeOf_list_dec
  refine ⟨.str r0, by rw [List.map_cons]; exact idx0L _ _ _, ?_⟩
  refine ⟨_, rfl, ?_⟩
  repeat' sizeOf_list_dec
  refine ⟨_, rfl, ⟨by rw [sp_len]; rfl, by unfold LIM; omega⟩, ?_⟩
  rw [sp_eq]
  have hpw : ∀ a ∈ Txt.split r0 ⟨#[32]⟩, a.length ≤ 1000000 := fun a ha => by have := part_len ha; omega
  have hno := szs_no (row := r0)
  have h4 := @szs_three r0
  generalize Txt.split r0 ⟨#[32]⟩ = ws at hpw hno h4
  repeat' sizeOf_list_dec
  rw [List.length_map]
  by_cases h3 : ws.length = 3
  · obtain ⟨w0, w1, w2, rfl⟩ : ∃ w0 w1 w2, ws = [w0, w1, w2] := by
      match ws, h3 with
      | [a, b, c], _ => exact ⟨a, b, c, rfl⟩
    rw [show (!decide ((([w0, w1, w2] : List Str).length : Int) = 3)) = false by simp]
    have h4 := h4 w0 w1 w2 rfl
    rw [show ([w0, w1, w2] : List Str).map T.str = [.str w0, .str w1, .str w2] from rfl]
    repeat' sizeOf_list_dec
    refine cn_str ?_
    by_cases hw : w0 = Str.ofString "web"
    · rw [if_pos hw] at h4
      rw [decide_eq_true hw]
      repeat' sizeOf_list_dec
      refine value_any (hpw w1 (by simp)) ?_
      repeat' sizeOf_list_dec
      refine value_any (hpw w2 (by simp)) ?_
      repeat' sizeOf_list_dec
      refine ⟨_, _, rfl, ?_⟩
      repeat' sizeOf_list_dec
      refine we_inrO ?_
      repeat' sizeOf_list_dec
      refine ⟨1, 9, rfl, by omega, numT_or w1, ?_⟩
      by_cases g1 : inB (numT w1) 1 9 = true
      · rw [g1]
        repeat' sizeOf_list_dec
        refine we_inrO ?_
        repeat' sizeOf_list_dec
        refine ⟨0, 25, rfl, by omega, numT_or w2, ?_⟩
        by_cases g2 : inB (numT w2) 0 25 = true
        · rw [g2]
          obtain ⟨m, hm, hm25⟩ := inB_some g2
          obtain ⟨n, hn, hn1, hn8⟩ : ∃ n, num w1 = some n ∧ 1 ≤ (n : Int) ∧ (n : Int) < 9 := by
            unfold numT at g1
            cases e : num w1 with
            | none => rw [e] at g1; cases g1
            | some a =>
              rw [e] at g1
              exact ⟨a, rfl, of_decide_eq_true g1⟩
          rw [show numT w1 = .int n by unfold numT; rw [hn], show numT w2 = .int m by unfold numT; rw [hm]]
          rw [hn, hm] at h4
          dsimp only at h4
          rw [if_pos (by omega)] at h4
          rw [h4] at q
          dsimp only at q
          generalize hTot : scan (n : Int) m rs 0 none = tot at q
          repeat' sizeOf_list_dec
          refine ws_loop (fun i l S' => S = S' ∧ ∃ (last : Option (Int × Int)) (y4 y7 : Option T), i ≤ m ∧ scan (n : Int) m (rs.drop i) i last = tot ∧ l = [some (.str z), some (.lst ((r0 :: rs).map T.str)), some (.lst [.str w0, .str w1, .str w2]), some (pairT last), y4, some (.int n), some (.int m), y7]) ?_
          repeat' sizeOf_list_dec
          rw [List.length_map]
          have hcn2 : ((r0 :: rs).length : Int) = (rs.length : Int) + 1 := by simp
          refine ⟨_, rng2_ok (by decide) (by decide) (by omega) (by omega), _, rfl, ⟨rfl, none, none, none, by omega, hTot, rfl⟩, fun _ _ _ _ => rfl, ?_, ?_⟩
          · rintro i t l S' hi ⟨rfl, last, y4, y7, him, hsc, rfl⟩
            obtain ⟨rfl, hi⟩ := rng2_at hi
            have hil : i < rs.length := by omega
            obtain ⟨r, hr⟩ : ∃ r, rs[i]? = some r := ⟨_, List.getElem?_eq_getElem hil⟩
            have hrl := hp r (List.mem_cons_of_mem _ (List.mem_of_getElem? hr))
            have hdr : rs.drop i = r :: rs.drop (i + 1) := by
              rw [List.drop_eq_getElem_cons hil]
              rw [(List.getElem?_eq_some_iff.mp hr).2]
            rw [hdr, scan_cons] at hsc
            have hback : tot = some (i + 2) → Q (.int (1 + (i : Int) + 1)) S := fun e => by
              rw [e] at q
              dsimp only at q
              rw [show ((i + 2 : Nat) : Int) = 1 + (i : Int) + 1 by omega] at q
              exact q
            refine ⟨_, rfl, ?_⟩
            repeat' sizeOf_list_dec
            refine ix_rfl (t := .str r) ?_ ?_
            · rw [show (1 + (i : Int)) = ((i + 1 : Nat) : Int) by omega]
              exact idxL_at S (by simp [hr])
            repeat' sizeOf_list_dec
            refine law_arrow_any (by omega) (by omega) hrl ?_
            unfold arrU
            cases ha : arr (n : Int) r with
            | none =>
              rw [ha] at hsc
              dsimp only at hsc
              repeat' sizeOf_list_dec
              refine ce_pair ?_
              rw [Option.map_none, show (none : Option (Int × Int)).isNone = true from rfl]
              repeat' sizeOf_list_dec
              exact hback hsc.symm
            | some x =>
              rw [ha] at hsc
              dsimp only at hsc
              repeat' sizeOf_list_dec
              refine ce_pair ?_
              rw [Option.map_some, show (some (x.1, x.2.1) : Option (Int × Int)).isNone = false from rfl]
              repeat' sizeOf_list_dec
              refine br_d (fun h => ?_) (fun h => ?_)
              · rw [if_pos (by rw [show i = m by omega]; simp)] at hsc
                repeat' sizeOf_list_dec
                exact hback hsc.symm
              · have him2 : i < m := by omega
                rw [show decide (i = m) = false from decide_eq_false (by omega), Bool.or_false] at hsc
                repeat' sizeOf_list_dec
                refine cn_pair ?_
                cases last with
                | none =>
                  rw [show stops none x = false from rfl, if_neg (by simp)] at hsc
                  repeat' sizeOf_list_dec
                  exact ⟨rfl, some (x.1, x.2.1), _, _, him2, hsc, rfl⟩
                | some p =>
                  rw [show (some p : Option (Int × Int)).isNone = false from rfl]
                  have hst : stops (some p) x = decide (x.1 < p.1 ∨ (x.1 = p.1 ∧ x.2.1 ≤ p.2)) := rfl
                  repeat' sizeOf_list_dec
                  refine ⟨_, le_eq, ?_⟩
                  rw [← hst]
                  cases hs2 : stops (some p) x with
                  | true =>
                    rw [hs2, if_pos rfl] at hsc
                    repeat' sizeOf_list_dec
                    exact hback hsc.symm
                  | false =>
                    rw [hs2, if_neg (by simp)] at hsc
                    repeat' sizeOf_list_dec
                    exact ⟨rfl, some (x.1, x.2.1), _, _, him2, hsc, rfl⟩
          · rintro l S' ⟨rfl, last, y4, y7, him, hsc, rfl⟩
            rw [show (intRange 1 ((r0 :: rs).length : Int)).length = rs.length by unfold intRange; rw [List.length_map, List.length_range]; omega] at him hsc
            rw [List.drop_length, scan_nil] at hsc
            repeat' sizeOf_list_dec
            rw [List.length_map]
            refine br_d (fun h => ?_) (fun h => ?_)
            · rw [if_pos (by omega)] at hsc
              rw [← hsc] at q
              dsimp only at q
              repeat' sizeOf_list_dec
              rw [List.length_map]
              rw [show ((rs.length + 2 : Nat) : Int) = ((r0 :: rs).length : Int) + 1 by omega] at q
              exact q
            · rw [if_neg (by omega)] at hsc
              rw [← hsc] at q
              repeat' sizeOf_list_dec
              exact q
        · rw [Bool.eq_false_iff.mpr g2]
          have : szs r0 = none := by
            rw [h4]
            cases h1 : num w1 with
            | none => rfl
            | some a =>
              cases h2 : num w2 with
              | none => rfl
              | some b =>
                have := inB_none g2 h2
                exact if_neg (by omega)
          rw [this] at q
          repeat' sizeOf_list_dec
          exact q
      · rw [Bool.eq_false_iff.mpr g1]
        have : szs r0 = none := by
          rw [h4]
          cases h1 : num w1 with
          | none => rfl
          | some a =>
            cases h2 : num w2 with
            | none => rfl
            | some b =>
              refine if_neg fun g => g1 ?_
              unfold numT
              rw [h1]
              exact decide_eq_true (by omega)
        rw [this] at q
        repeat' sizeOf_list_dec
        exact q
    · rw [if_neg hw] at h4
      rw [decide_eq_false hw]
      rw [h4] at q
      repeat' sizeOf_list_dec
      exact q
  · rw [show (!decide ((ws.length : Int) = 3)) = true by simp; omega]
    rw [hno h3] at q
    repeat' sizeOf_list_dec
    exact q
theorem suite_no {l : Lo} {S : Sto} {Q : Lo → Sto → Prop} {R : T → Sto → Prop} {X : Exn → Lo → Sto → Prop} {r : Nat} (q : R (.int (r : Int)) S) :
    PoS Q R X (exH (noText r) (.seq (.ite (.or (.cmp .NotEq .kind (.str "text")) (.one (.not (.whole (.fld "row"))))) (.seq (.ret (.neg (.int 1))) .nil) .nil) (.seq (.ret (.fld "row")) .nil)) l S) := by
  have e : exH (noText r) (.seq (.ite (.or (.cmp .NotEq .kind (.str "text")) (.one (.not (.whole (.fld "row"))))) (.seq (.ret (.neg (.int 1))) .nil) .nil) (.seq (.ret (.fld "row")) .nil)) l S = some (.rt (.int (r : Int)), S) := rfl
  rw [e]
  exact ⟨q⟩
theorem told_any {z : Str} {S : Sto} {Q : T → Sto → Prop} {X : Exn → Sto → Prop} (hz : z.length ≤ 900000) (hS : Cl S) (q : Q (dueT z) S) : Wc true F__law_told [.str z] S Q X := by
  refine wc_fn (fn_ws ?_)
  unfold B__law_told
  unfold dueT at q
  refine ws_seq (ws_tr ?_)
  repeat' sizeOf_list_dec
  refine web_read_any hz hS (fun e t => ?_) (fun r e => ?_)
  · rw [e] at q
    repeat' sizeOf_list_dec
    exact q
  · rw [e] at q
    exact ⟨rfl, by simp, suite_no q⟩
theorem web_read_no {v : T} {S : Sto} {Q : T → Sto → Prop} {X : Exn → Sto → Prop} (hv : isiF "str" v S = some false) (hS : Cl S) (q : X (noText 0) S) : Wc false F_web_read [v] S Q X := by
  have tk : S.take S.length = S := List.take_length
  refine wf_frzE ?_
  refine fn_ws ?_
  unfold B_web_read
  repeat' sizeOf_list_dec
  refine ⟨_, hv, ?_⟩
  repeat' sizeOf_list_dec
  exact ⟨rfl, rfl, rfl, by rw [tk]; exact hS, by rw [tk]; exact q⟩
theorem told_no {v : T} {S : Sto} {Q : T → Sto → Prop} {X : Exn → Sto → Prop} (hv : isiF "str" v S = some false) (hS : Cl S) (q : Q (.int 0) S) : Wc true F__law_told [v] S Q X := by
  refine wc_fn (fn_ws ?_)
  unfold B__law_told
  refine ws_seq (ws_tr ?_)
  repeat' sizeOf_list_dec
  refine web_read_no hv hS ?_
  exact ⟨rfl, by simp, suite_no q⟩
theorem told_good {n : Int} {ar : List Ar} {S : Sto} {Q : T → Sto → Prop} {X : Exn → Sto → Prop} (w : W8 n ar) (hS : Cl S) (q : Q .non S) : Wc true F__law_told [.str (textW n ar)] S Q X := by
  refine wc_fn (fn_ws ?_)
  unfold B__law_told
  refine ws_seq (ws_tr ?_)
  repeat' sizeOf_list_dec
  refine web_read_wf w hS ?_
  repeat' sizeOf_list_dec
  exact q
section
variable {l : Lo} {S : Sto} {X : Exn → Sto → Prop}
theorem po_consE {f g : SE} {Q : List T → Sto → Prop} (h : Po (fun t S1 => Po (fun u S2 => ∃ ts, u = .lst ts ∧ Q (t :: ts) S2) X (g l S1)) X (f l S)) : Po (fun u S2 => ∃ ts, u = .lst ts ∧ Q ts S2) X (bindE f (fun t => argsE g fun ts => retE (.lst (t :: ts))) l S) := by
  simp only [bind_app, args_app]
  refine po_bnd (h.mono (fun x S1 h => po_bnd (h.mono (fun y S2 h => ?_) fun _ _ h => h)) fun _ _ h => h)
  obtain ⟨ts, rfl, q⟩ := h
  rw [lstK_l]
  exact ⟨_, rfl, q⟩
theorem wa_consR {s y z : Str} {a b o t : E} {Q : List T → Sto → Prop} (h : TL.WE a l S (fun x1 S1 => TL.WE b l S1 (fun x2 S2 => TL.WE o l S2 (fun x3 S3 => ∃ w, x3 = .str w ∧ w.length + (w.length + 1) * z.length ≤ 16777216 ∧ WA t l S3 (fun ts S4 => Q (.str s :: x1 :: x2 :: .str (Txt.replace w y z) :: ts) S4) X) X) X) X) : WA (.consR s a b o y z t) l S Q X := by
  unfold WA
  simp only [ev]
  refine po_consE ⟨?_⟩
  refine po_consE (h.mono (fun x1 S1 h => po_consE (h.mono (fun x2 S2 h => po_consE ?_) fun _ _ h => h)) fun _ _ h => h)
  unfold replE
  refine po_str (h.mono (fun x3 S3 h => ?_) fun _ _ h => h)
  obtain ⟨w, rfl, hl, q⟩ := h
  refine ⟨w, rfl, ?_⟩
  rw [if_pos hl]
  exact ⟨q⟩
theorem wr_rep {a : Str} {k : Int} {Q : T → Sto → Prop} (h1 : 2 ≤ k ∧ k ≤ 1000 ∧ 1 ≤ a.length ∧ a.length ≤ 1000) (h : Q (.str (repS a k)) S) : WR false (binF .Mult (.str a) (.int k) S) S Q := by
  have e : binF .Mult (.str a) (.int k) S = some (.val (.str (repS a k))) := by
    show guardR _ _ = _
    unfold guardR
    rw [if_pos (decide_eq_true h1)]
  rw [e]
  exact ⟨rfl, h⟩
theorem wr_slR {k : Nat} {xs : List T} {a b : Option Int} {Q : T → Sto → Prop} (e : S[k]? = some (.lst xs)) (h : Q (.lst (cutT xs a b)) S) : WR false (slF (.ref k) a b S) S Q := by
  have e2 : slF (.ref k) a b S = some (.fresh (cutT xs a b)) := by
    simp only [slF, Sto.seq, e]
  rw [e2]
  exact h
end
theorem cut_strs (A : List Str) (a b : Option Int) : ∃ B : List Str, cutT (A.map T.str) a b = B.map T.str ∧ (∀ x ∈ B, x ∈ A) ∧ B.length ≤ A.length := by
  refine ⟨(A.drop (HT.sIx (A.map T.str).length 0 a)).take (HT.sIx (A.map T.str).length (A.map T.str).length b - HT.sIx (A.map T.str).length 0 a), ?_, fun x hx => List.mem_of_mem_drop (List.mem_of_mem_take hx), ?_⟩
  · unfold cutT
    rw [List.map_take, List.map_drop]
  · rw [List.length_take, List.length_drop]
    omega
theorem dbl_len (c : Nat) : ∀ l : List Nat, (StrLaws.dbl c l).length ≤ 2 * l.length
  | [] => by simp [StrLaws.dbl]
  | d :: l => by
    have := dbl_len c l
    simp only [StrLaws.dbl]
    split <;> simp <;> omega
theorem replace_len {w : Str} : (Txt.replace w ⟨#[32]⟩ (Str.ofString "  ")).length ≤ 2 * w.length := by
  rw [PyProof.Rows.replace_dbl w _ _ 32 rfl (by decide +kernel)]
  have := dbl_len 32 w.cps.toList
  show ((StrLaws.dbl 32 w.cps.toList).toArray).size ≤ 2 * w.cps.size
  rw [List.size_toArray]
  simpa using this
def odds : List Str := [Str.ofString "", Str.ofString "0", Str.ofString "00", Str.ofString "-1", Str.ofString "-0", Str.ofString "+1", Str.ofString "1.0", Str.ofString "a", Str.ofString "8", Str.ofString "9", repS (Str.ofString "9") 61, Str.ofString "arrow", Str.ofString "web", Str.ofString "1" ++ repS (Str.ofString "0") 30, Str.ofString "-1" ++ repS (Str.ofString "0") 31]
theorem odds_len : ∀ p ∈ odds, p.length ≤ 61 := by decide +kernel
theorem odd_row_wf {S : Sto} {i : Nat} {p : Ob} {row : Str} {Q : T → Sto → Prop} {X : Exn → Sto → Prop} (h : S[i]? = some p) (hp : IsPen p) (hz : row.length ≤ 140) (hk : (Txt.split row ⟨#[32]⟩).length ≤ 4) (q : ∀ p' z, IsPen p' → z.length ≤ 2000 → Q (.str z) (S.set i p')) : Wc true F__law_odd_row [.ref i, .str row] S Q X := by
  have hi0 : i < S.length := (List.getElem?_eq_some_iff.mp h).1
  have g : ∀ p', (S.set i p')[i]? = some p' := fun p' => List.getElem?_set_self hi0
  refine wc_fn (fn_ws ?_)
  unfold B__law_odd_row
  refine ws_seq (ws_set (we_split ?_))
  repeat' sizeOf_list_dec
  refine ⟨_, rfl, ?_⟩
  repeat' sizeOf_list_dec
  refine ⟨_, rfl, ⟨by rw [sp_len]; rfl, by unfold LIM; omega⟩, ?_⟩
  rw [sp_eq]
  have hw : ∀ a ∈ Txt.split row ⟨#[32]⟩, a.length ≤ 140 := fun a ha => by have := part_len ha; omega
  have hne := split_ne row ⟨#[32]⟩
  have hcn : (Txt.split row ⟨#[32]⟩).length ≤ 4 := hk
  clear hk
  generalize Txt.split row ⟨#[32]⟩ = ws at hw hne hcn
  have hpos : 0 < ws.length := List.length_pos_iff.mpr hne
  repeat' sizeOf_list_dec
  rw [List.length_map]
  refine draw_wf h hp (by omega) (small2 (by omega) (by omega)) fun p1 d1 hp1 d10 d11 => ?_
  repeat' sizeOf_list_dec
  refine wr_rep (by decide +kernel) ?_
  repeat' sizeOf_list_dec
  refine wr_rep (by decide +kernel) ?_
  repeat' sizeOf_list_dec
  refine wr_cats (by decide +kernel) ?_
  repeat' sizeOf_list_dec
  refine wr_rep (by decide +kernel) ?_
  repeat' sizeOf_list_dec
  refine wr_cats (by decide +kernel) ?_
  repeat' sizeOf_list_dec
  refine wr_catl (by decide) ?_
  rw [show ([T.str (Str.ofString ""), T.str (Str.ofString "0"), T.str (Str.ofString "00"), T.str (Str.ofString "-1"), T.str (Str.ofString "-0"), T.str (Str.ofString "+1"), T.str (Str.ofString "1.0"), T.str (Str.ofString "a"), T.str (Str.ofString "8"), T.str (Str.ofString "9"), T.str (repS (Str.ofString "9") 61), T.str (Str.ofString "arrow"), T.str (Str.ofString "web")] ++ [T.str (Str.ofString "1" ++ repS (Str.ofString "0") 30), T.str (Str.ofString "-1" ++ repS (Str.ofString "0") 31)] : List T) = odds.map T.str from rfl]
  have hodd := odds_len
  have hoddl : odds.length = 15 := rfl
  generalize odds = od at hodd hoddl
  repeat' sizeOf_list_dec
  obtain ⟨B, e1, e2, e3⟩ := cut_strs ws none (some d1)
  rw [e1]
  refine draw_wf (g _) hp1 (by omega) (small2 (by omega) (by omega)) fun p2 d2 hp2 d20 d21 => ?_
  rw [show (S.set i p1).set i p2 = S.set i p2 by simp]
  obtain ⟨t2, ht2, ei⟩ := idx_in (xs := od.map T.str) d20 (by rw [List.length_map]; omega) (S.set i p2)
  obtain ⟨o2, ho2, rfl⟩ := List.mem_map.mp ht2
  have ho2 := hodd o2 ho2
  repeat' sizeOf_list_dec
  refine ix_rfl ei ?_
  repeat' sizeOf_list_dec
  refine wr_catl (by rw [List.length_map]; simp only [List.length_cons, List.length_nil]; unfold LIM; omega) ?_
  repeat' sizeOf_list_dec
  obtain ⟨B2, e4, e5, e6⟩ := cut_strs ws (some (d1 + 1)) none
  rw [e4]
  refine wr_catl (by rw [List.length_append, List.length_map, List.length_map]; simp only [List.length_cons, List.length_nil]; unfold LIM; omega) ?_
  rw [show (B.map T.str ++ [T.str o2] ++ B2.map T.str) = (B ++ [o2] ++ B2).map T.str by simp]
  have hC : ∀ x ∈ B ++ [o2] ++ B2, x.length ≤ 140 := fun x hx => by
    simp only [List.mem_append, List.mem_singleton] at hx
    rcases hx with (hx | rfl) | hx
    · exact hw x (e2 x hx)
    · omega
    · exact hw x (e5 x hx)
  have hCl : (B ++ [o2] ++ B2).length ≤ 9 := by simp; omega
  obtain ⟨B3, e7, e8, e9⟩ := cut_strs ws none (some (-1))
  have hB3 := lens_le (b := 140) (A := B3) fun x hx => hw x (e8 x hx)
  have hB3j := join_len (s := 32) (b := 140) (A := B3) fun x hx => hw x (e8 x hx)
  have hone : (⟨#[32]⟩ : Str).length = 1 := rfl
  repeat' sizeOf_list_dec
  refine wa_consR ?_
  repeat' sizeOf_list_dec
  refine wr_cats (by rw [hone]; unfold LIM; omega) ?_
  repeat' sizeOf_list_dec
  refine wr_cats (by rw [hone]; unfold LIM; omega) ?_
  repeat' sizeOf_list_dec
  refine ⟨row, rfl, by rw [show (Str.ofString "  ").length = 2 by decide +kernel]; omega, ?_⟩
  repeat' sizeOf_list_dec
  refine we_join ?_
  repeat' sizeOf_list_dec
  refine ⟨_, rfl, ?_⟩
  repeat' sizeOf_list_dec
  rw [e7]
  refine join_ok (A := B3) rfl (by rw [hone]; unfold LIM; omega) ?_
  repeat' sizeOf_list_dec
  refine wr_cats (by rw [show (Str.ofString " 0").length = 2 by decide +kernel]; unfold LIM; omega) ?_
  repeat' sizeOf_list_dec
  refine wr_cats (by rw [show (Str.ofString "0").length = 1 by decide +kernel]; unfold LIM; omega) ?_
  refine wa_nil ⟨by simp only [List.length_cons, List.length_nil]; unfold LIM; omega, wr_frz ?_⟩
  rw [show ([T.str (Str.ofString ""), T.str (⟨#[32]⟩ ++ row), T.str (row ++ ⟨#[32]⟩), T.str (Txt.replace row ⟨#[32]⟩ (Str.ofString "  ")), T.str (Txt.join ⟨#[32]⟩ B3), T.str (row ++ Str.ofString " 0"), T.str (row ++ Str.ofString "0")] : List T) = [Str.ofString "", ⟨#[32]⟩ ++ row, row ++ ⟨#[32]⟩, Txt.replace row ⟨#[32]⟩ (Str.ofString "  "), Txt.join ⟨#[32]⟩ B3, row ++ Str.ofString " 0", row ++ Str.ofString "0"].map T.str from rfl]
  have hE : ∀ x ∈ [Str.ofString "", ⟨#[32]⟩ ++ row, row ++ ⟨#[32]⟩, Txt.replace row ⟨#[32]⟩ (Str.ofString "  "), Txt.join ⟨#[32]⟩ B3, row ++ Str.ofString " 0", row ++ Str.ofString "0"], x.length ≤ 2000 := fun x hx => by
    have hr := replace_len (w := row)
    simp only [List.mem_cons, List.not_mem_nil, or_false] at hx
    rcases hx with rfl | rfl | rfl | rfl | rfl | rfl | rfl
    · decide +kernel
    · rw [Str.length_append, hone]; omega
    · rw [Str.length_append, hone]; omega
    · omega
    · omega
    · rw [Str.length_append, show (Str.ofString " 0").length = 2 by decide +kernel]; omega
    · rw [Str.length_append, show (Str.ofString "0").length = 1 by decide +kernel]; omega
  have hEl : [Str.ofString "", ⟨#[32]⟩ ++ row, row ++ ⟨#[32]⟩, Txt.replace row ⟨#[32]⟩ (Str.ofString "  "), Txt.join ⟨#[32]⟩ B3, row ++ Str.ofString " 0", row ++ Str.ofString "0"].length = 7 := rfl
  generalize [Str.ofString "", ⟨#[32]⟩ ++ row, row ++ ⟨#[32]⟩, Txt.replace row ⟨#[32]⟩ (Str.ofString "  "), Txt.join ⟨#[32]⟩ B3, row ++ Str.ofString " 0", row ++ Str.ofString "0"] = ed at hE hEl
  repeat' sizeOf_list_dec
  refine draw_wf (g _) hp2 (by omega) (small2 (by omega) (by omega)) fun p3 d3 hp3 d30 d31 => ?_
  rw [show (S.set i p2).set i p3 = S.set i p3 by simp]
  repeat' sizeOf_list_dec
  refine br_d (fun hd => ?_) (fun hd => ?_)
  · obtain ⟨t3, ht3, ej⟩ := idx_in (xs := ed.map T.str) d30 (by rw [List.length_map]; omega) (S.set i p3)
    obtain ⟨o3, ho3, rfl⟩ := List.mem_map.mp ht3
    repeat' sizeOf_list_dec
    refine ix_rfl ej ?_
    repeat' sizeOf_list_dec
    exact q p3 o3 hp3 (hE o3 ho3)
  · repeat' sizeOf_list_dec
    refine br_d (fun hd => ?_) (fun hd => ?_)
    · refine ws_seq (ws_ret (we_upp ?_))
      repeat' sizeOf_list_dec
      refine ⟨row, rfl, by unfold LIM; omega, ?_⟩
      have := PyProof.Rows.len_upper row
      exact q p3 (Txt.upper row) hp3 (by omega)
    · have hC2 := lens_le hC
      have hC3 := join_len (s := 32) hC
      repeat' sizeOf_list_dec
      refine we_join ?_
      repeat' sizeOf_list_dec
      refine ⟨_, rfl, ?_⟩
      repeat' sizeOf_list_dec
      refine join_ok (A := B ++ [o2] ++ B2) rfl (by rw [hone]; unfold LIM; omega) ?_
      repeat' sizeOf_list_dec
      exact q p3 (Txt.join ⟨#[32]⟩ (B ++ [o2] ++ B2)) hp3 (by omega)
theorem wf_frzV {F : FnS} {ts : List T} {S : Sto} {Q : T → Sto → Prop} {X : Exn → Sto → Prop} (h : Po (fun t S' => (noRef t = true ∧ Cl (S'.take S.length) ∧ Q t (S'.take S.length)) ∨ ∃ k xs, t = .ref k ∧ S.length ≤ k ∧ S'[k]? = some (.lst xs) ∧ noRefs xs = true ∧ Cl (S'.take S.length) ∧ Q (.lst xs) (S'.take S.length)) NoX (F ts S)) : Wc false F ts S Q X := by
  cases e : F ts S with
  | none => rw [e] at h; exact h.g.elim
  | some r =>
    obtain ⟨r, S'⟩ := r
    cases r with
    | err x => rw [e] at h; exact h.g.elim
    | ok t =>
      rw [e] at h
      rcases h.g with h | h
      · exact wf_frzC (by rw [e]; exact ⟨h⟩)
      · exact wf_frzL (by rw [e]; exact ⟨h⟩)
theorem put_refP {S : Sto} {i : Nat} {xs : List T} {k : Int} {v : T} (h : S[i]? = some (.lst xs)) (k0 : 0 ≤ k) (k1 : k < xs.length) {P : Sto → Prop} (p : P (S.set i (.lst (xs.set k.toNat v)))) : ∃ S', putI v (.ref i) (.int k) S = some S' ∧ P S' := by
  refine ⟨_, put_ref h (j := k.toNat) ?_, p⟩
  unfold L2.ixN
  rw [if_pos k0, if_pos k1]
def PS (S : Sto) (i : Nat) (p o : Ob) : Sto := S.set i p ++ [o]
section
variable {S : Sto} {i : Nat} {p o p' o' : Ob}
theorem ps_at (h : i < S.length) : (PS S i p o)[i]? = some p := by
  unfold PS
  rw [List.getElem?_append_left (by simpa using h)]
  exact List.getElem?_set_self h
theorem ps_set (h : i < S.length) : (PS S i p o).set i p' = PS S i p' o := by
  unfold PS
  rw [List.set_append_left _ _ (by simpa using h)]
  simp
theorem ps_own : (PS S i p o)[S.length]? = some o := by
  have := own_at (S.set i p) o
  rwa [List.length_set] at this
theorem ps_put : (PS S i p o).set S.length o' = PS S i p o' := by
  have := own_set (S.set i p) o o'
  rwa [List.length_set] at this
theorem ps_tk : (PS S i p o).take S.length = S.set i p := by
  have := List.take_left (l₁ := S.set i p) (l₂ := [o])
  rwa [List.length_set] at this
end
theorem wr_lstN {xs : List T} {S : Sto} {Q : T → Sto → Prop} (h : Q (.ref S.length) (S ++ [.lst xs])) : WR true (biF .list [.lst xs] S) S Q := h
theorem wr_revl {xs : List T} {S : Sto} {Q : T → Sto → Prop} (h : Q (.lst xs.reverse) S) : WR false (revF (.lst xs) S) S Q := h
theorem set_strs (A : List Str) (k : Nat) (z : Str) : (A.map T.str).set k (.str z) = (A.set k z).map T.str := by rw [List.map_set]
theorem cut_bd {A B C : List Str} {r : Str} (h1 : ∀ x ∈ B, x ∈ A) (h2 : ∀ x ∈ C, x ∈ A) (hr : r ∈ B ++ C) : r ∈ A := by
  rcases List.mem_append.mp hr with h | h
  · exact h1 r h
  · exact h2 r h
theorem cut_ends (A : List Str) {a b : Nat} (ha : a ≤ A.length) (hb : b ≤ A.length) : ∃ B C : List Str, cutT (A.map T.str) none (some (a : Int)) = B.map T.str ∧ cutT (A.map T.str) (some (b : Int)) none = C.map T.str ∧ (∀ x ∈ B, x ∈ A) ∧ (∀ x ∈ C, x ∈ A) ∧ B.length + C.length = a + (A.length - b) := by
  refine ⟨A.take a, A.drop b, ?_, ?_, fun x h => List.mem_of_mem_take h, fun x h => List.mem_of_mem_drop h, by rw [List.length_take, List.length_drop]; omega⟩
  · rw [cut_to, List.map_take]
  · rw [cut_from, List.map_drop]
theorem spoilt_of_wf {S : Sto} {i : Nat} {p : Ob} {A : List Str} {Q : T → Sto → Prop} {X : Exn → Sto → Prop} (hS : Pens S) (h : S[i]? = some p) (hne : 0 < A.length) (hAl : A.length ≤ 25) (hA : ∀ r ∈ A, r.length ≤ 140 ∧ (Txt.split r ⟨#[32]⟩).length ≤ 4) (q : ∀ p' (B : List Str), IsPen p' → B.length ≤ 26 → (∀ r ∈ B, r.length ≤ 2000) → Q (.lst (B.map T.str)) (S.set i p')) : Wc false F__law_spoilt_of [.ref i, .lst (A.map T.str)] S Q X := by
  have hi0 : i < S.length := (List.getElem?_eq_some_iff.mp h).1
  have g : ∀ p', (S.set i p')[i]? = some p' := fun p' => List.getElem?_set_self hi0
  have hp : IsPen p := hS p (List.mem_of_getElem? h)
  have hA2 : ∀ r ∈ A, r.length ≤ 2000 := fun r hr => by have := (hA r hr).1; omega
  have back : ∀ (p' o : Ob) (B : List Str), IsPen p' → B.length ≤ 26 → (∀ r ∈ B, r.length ≤ 2000) → (noRef (.lst (B.map T.str)) = true ∧ Cl ((PS S i p' o).take S.length) ∧ Q (.lst (B.map T.str)) ((PS S i p' o).take S.length)) := fun p' o B h1 h2 h3 => by
    rw [ps_tk]
    exact ⟨noRefs_map T.str (fun _ => rfl) _, cl_pens (pens_put hS h1), q p' B h1 h2 h3⟩
  have back2 : ∀ (p' : Ob) (B : List Str), IsPen p' → B.length ≤ 26 → (∀ r ∈ B, r.length ≤ 2000) → ∃ k xs, T.ref S.length = .ref k ∧ S.length ≤ k ∧ (PS S i p' (.lst (B.map T.str)))[k]? = some (.lst xs) ∧ noRefs xs = true ∧ Cl ((PS S i p' (.lst (B.map T.str))).take S.length) ∧ Q (.lst xs) ((PS S i p' (.lst (B.map T.str))).take S.length) := fun p' B h1 h2 h3 => by
    rw [ps_tk]
    exact ⟨_, _, rfl, Nat.le_refl _, ps_own, noRefs_map T.str (fun _ => rfl) _, cl_pens (pens_put hS h1), q p' B h1 h2 h3⟩
  refine wf_frzV ?_
  refine fn_ws ?_
  unfold B__law_spoilt_of
  repeat' sizeOf_list_dec
  rw [List.length_map]
  refine draw_wf h hp (by omega) (small2 (by omega) (by omega)) fun p1 d1 hp1 d10 d11 => ?_
  repeat' sizeOf_list_dec
  rw [List.length_map]
  refine draw_wf (g _) hp1 (by omega) (small2 (by omega) (by omega)) fun p2 d2 hp2 d20 d21 => ?_
  rw [show (S.set i p1).set i p2 = S.set i p2 by simp]
  obtain ⟨n1, rfl⟩ : ∃ n1 : Nat, d1 = n1 := ⟨d1.toNat, by omega⟩
  obtain ⟨n2, rfl⟩ : ∃ n2 : Nat, d2 = n2 := ⟨d2.toNat, by omega⟩
  obtain ⟨r1, hr1⟩ : ∃ r1, A[n1]? = some r1 := ⟨_, List.getElem?_eq_getElem (by omega)⟩
  obtain ⟨r2, hr2⟩ : ∃ r2, A[n2]? = some r2 := ⟨_, List.getElem?_eq_getElem (by omega)⟩
  have hr1m := List.mem_of_getElem? hr1
  have hr2m := List.mem_of_getElem? hr2
  repeat' sizeOf_list_dec
  refine wr_lstN ?_
  rw [show S.set i p2 ++ [Ob.lst (A.map T.str)] = PS S i p2 (.lst (A.map T.str)) from rfl, List.length_set]
  repeat' sizeOf_list_dec
  refine draw_wf (ps_at hi0) hp2 (by omega) (small2 (by omega) (by omega)) fun p3 d3 hp3 d30 d31 => ?_
  rw [ps_set hi0]
  repeat' sizeOf_list_dec
  refine br_d (fun hd => ?_) (fun hd => ?_)
  · obtain ⟨B, C, e1, e2, e3, e4, e5⟩ := cut_ends A (a := n1) (b := n1 + 1) (by omega) (by omega)
    repeat' sizeOf_list_dec
    refine wr_slR ps_own ?_
    rw [e1]
    repeat' sizeOf_list_dec
    refine wr_slR ps_own ?_
    rw [show ((n1 : Int) + 1) = ((n1 + 1 : Nat) : Int) by omega, e2]
    repeat' sizeOf_list_dec
    refine wr_catl (by rw [List.length_map, List.length_map]; unfold LIM; omega) ?_
    rw [← List.map_append]
    repeat' sizeOf_list_dec
    exact .inl (back p3 _ _ hp3 (by rw [List.length_append]; omega) fun r hr => hA2 r (cut_bd e3 e4 hr))
  · repeat' sizeOf_list_dec
    refine br_d (fun hd => ?_) (fun hd => ?_)
    · obtain ⟨B, C, e1, e2, e3, e4, e5⟩ := cut_ends A (a := n1 + 1) (b := n1) (by omega) (by omega)
      repeat' sizeOf_list_dec
      refine wr_slR ps_own ?_
      rw [show ((n1 : Int) + 1) = ((n1 + 1 : Nat) : Int) by omega, e1]
      repeat' sizeOf_list_dec
      refine wr_slR ps_own ?_
      rw [e2]
      repeat' sizeOf_list_dec
      refine wr_catl (by rw [List.length_map, List.length_map]; unfold LIM; omega) ?_
      rw [← List.map_append]
      repeat' sizeOf_list_dec
      exact .inl (back p3 _ _ hp3 (by rw [List.length_append]; omega) fun r hr => hA2 r (cut_bd e3 e4 hr))
    · repeat' sizeOf_list_dec
      refine br_d (fun hd => ?_) (fun hd => ?_)
      · refine ws_seq (ws_setI ?_)
        repeat' sizeOf_list_dec
        refine ix_rfl (idxL_at _ (by rw [List.getElem?_map, hr2]; rfl)) ?_
        repeat' sizeOf_list_dec
        refine put_refP ps_own (by omega) (by rw [List.length_map]; omega) ?_
        rw [ps_put, Int.toNat_natCast, set_strs]
        repeat' sizeOf_list_dec
        refine .inr (back2 p3 _ hp3 (by rw [List.length_set]; omega) fun r hr => ?_)
        rcases List.mem_or_eq_of_mem_set hr with h | rfl
        · exact hA2 r h
        · exact hA2 _ hr2m
      · repeat' sizeOf_list_dec
        refine br_d (fun hd => ?_) (fun hd => ?_)
        · repeat' sizeOf_list_dec
          refine wr_revl ?_
          rw [← List.map_reverse]
          repeat' sizeOf_list_dec
          exact .inl (back p3 _ _ hp3 (by rw [List.length_reverse]; omega) fun r hr => hA2 r (List.mem_reverse.mp hr))
        · refine ws_seq (ws_setI ?_)
          repeat' sizeOf_list_dec
          refine ix_rfl (idxL_at _ (by rw [List.getElem?_map, hr1]; rfl)) ?_
          repeat' sizeOf_list_dec
          refine odd_row_wf (ps_at hi0) hp3 (hA r1 hr1m).1 (hA r1 hr1m).2 fun p4 z hp4 hz => ?_
          rw [ps_set hi0]
          repeat' sizeOf_list_dec
          refine put_refP ps_own (by omega) (by rw [List.length_map]; omega) ?_
          rw [ps_put, Int.toNat_natCast, set_strs]
          repeat' sizeOf_list_dec
          refine .inr (back2 p4 _ hp4 (by rw [List.length_set]; omega) fun r hr => ?_)
          rcases List.mem_or_eq_of_mem_set hr with h | rfl
          · exact hA2 r h
          · exact hz
theorem text_of_wf {n : Int} {ar : List Ar} {S : Sto} {Q : T → Sto → Prop} {X : Exn → Sto → Prop} (w : W8 n ar) (hS : Cl S) (q : Q (.str (textW n ar)) S) : Wc false F__law_text_of [webT n ar] S Q X := by
  have e : F__law_text_of = K70.F__law_text := rfl
  rw [e]
  exact law_text_wf w hS q
theorem dp_due (z : Str) : noRef (dueT z) = true ∧ (dat (dueT z)).depth ≤ 60 := by
  unfold dueT
  split
  · exact ⟨rfl, by decide⟩
  · exact ⟨rfl, by simp [dat, PyData.depth]⟩
theorem cn_due {z : Str} {S : Sto} {P : Bool → Prop} (p : P false) : ∃ c, cmpB .NotEq (dueT z) (dueT z) S = some c ∧ P c := cn_refl (dp_due z).1 (dp_due z).2 p
theorem rows_ok {n : Int} {ar : List Ar} (w : W8 n ar) : ∀ r ∈ rowsL n ar, r.length ≤ 140 ∧ (Txt.split r ⟨#[32]⟩).length ≤ 4 := fun r hr => by
  have h1 := rows_len w r hr
  refine ⟨by omega, ?_⟩
  rcases List.mem_cons.mp hr with rfl | hr
  · rw [split_web]; simp [wWeb]
  · obtain ⟨x, hx, rfl⟩ := List.mem_map.mp hr
    rw [split_arr]; simp [wArr]
def noV : List T := [.non, .int 0, .bl true, .lst [.str (Str.ofString "web 1 0")], .tup [.str (Str.ofString "web 1 0")], .dK []]
theorem noV_ok : ∀ t ∈ noV, isiF "str" t [] = some false := fun t ht => by
  simp only [noV, List.mem_cons, List.not_mem_nil, or_false] at ht
  rcases ht with rfl | rfl | rfl | rfl | rfl | rfl <;> rfl
def fixZ : List Str := [Str.ofString "", Str.ofString "web 1 0", Str.ofString "web 1", Str.ofString "web 0 0", Str.ofString "web 9 0", Str.ofString "web 2 25", Str.ofString "web 1 0\narrow 0 0 1", Str.ofString "web 1 1\n", Str.ofString "\n"]
theorem fixZ_ok : ∀ z ∈ fixZ, z.length ≤ 900000 := by decide +kernel
def rowK (k : Nat) : Str := Str.ofString "arrow " ++ sT ((k : Int) / 8) ++ Str.ofString " " ++ sT ((k : Int) % 8) ++ Str.ofString " 0"
theorem sp0_len : (Str.ofString " 0").length = 2 := by decide +kernel
def fullW : List Str := Str.ofString "web 8 24" :: (List.range 24).map rowK
theorem rowK_len {k : Nat} (hk : k < 24) : (rowK k).length ≤ 100 := by
  unfold rowK
  rw [Str.length_append, Str.length_append, Str.length_append, Str.length_append, arrows_len, sp_len, sp0_len]
  have := sT_len (v := (k : Int) / 8) (by omega) (by omega)
  have := sT_len (v := (k : Int) % 8) (by omega) (by omega)
  omega
theorem fullW_ok : ∀ r ∈ fullW, r.length ≤ 100 := fun r hr => by
  rcases List.mem_cons.mp hr with rfl | hr
  · decide +kernel
  · obtain ⟨k, hk, rfl⟩ := List.mem_map.mp hr
    exact rowK_len (List.mem_range.mp hk)
theorem fullW_len : fullW.length = 25 := rfl
def strsT (A : List Str) : T := .lst (A.map T.str)
theorem law_pure (ns : List Int) (hl : ns.length ≤ 63) : ∃ S, F_law [.scr ns] [] = some (.ok (.bl true), S) := by
  suffices h : Po (fun t _ => t = .bl true) NoX (F_law [.scr ns] []) by
    obtain ⟨t, S, e, rfl⟩ := po_get h
    exact ⟨S, e⟩
  have hN : Cl ([] : Sto) := cl_pens pens_nil
  refine fn_ws ?_
  unfold B_law
  refine ws_seq (ws_loop (fun k l S' => [] = S' ∧ ∃ y1, l = [some (.scr ns), y1, none, none, none, none, none, none, none, none]) ?_)
  repeat' sizeOf_list_dec
  refine ⟨noV, rfl, ⟨rfl, none, rfl⟩, fun _ _ _ _ => rfl, ?_, ?_⟩
  · rintro k t l S hk ⟨rfl, y1, rfl⟩
    have ht := noV_ok t (List.mem_of_getElem? hk)
    refine ⟨_, rfl, ?_⟩
    repeat' sizeOf_list_dec
    refine told_no ht hN ?_
    repeat' sizeOf_list_dec
    exact ⟨rfl, _, rfl⟩
  · rintro l S ⟨rfl, y1, rfl⟩
    repeat' sizeOf_list_dec
    refine we_mapL (α := Nat) ?_
    repeat' sizeOf_list_dec
    refine ⟨_, rng_ok (by decide) (by decide), List.range 24, fun (k : Nat) => .int (k : Int), fun (k : Nat) => .str (rowK k), by rw [rngL (by decide)]; rfl, by decide, rfl, fun k hk => ⟨_, rfl, ?_⟩, ?_⟩
    · have hk := List.mem_range.mp hk
      have h1 := sT_len (v := (k : Int) / 8) (by omega) (by omega)
      have h2 := sT_len (v := (k : Int) % 8) (by omega) (by omega)
      repeat' sizeOf_list_dec
      refine wr_strI (by omega) (by omega) ?_
      repeat' sizeOf_list_dec
      refine wr_cats (by rw [arrows_len]; unfold LIM; omega) ?_
      repeat' sizeOf_list_dec
      refine wr_cats (by rw [Str.length_append, arrows_len, sp_len]; unfold LIM; omega) ?_
      repeat' sizeOf_list_dec
      refine wr_strI (by omega) (by omega) ?_
      repeat' sizeOf_list_dec
      refine wr_cats (by rw [Str.length_append, Str.length_append, arrows_len, sp_len]; unfold LIM; omega) ?_
      repeat' sizeOf_list_dec
      refine wr_cats (by rw [Str.length_append, Str.length_append, Str.length_append, arrows_len, sp_len, sp0_len]; unfold LIM; omega) ?_
      exact ⟨rfl, rfl⟩
    refine wr_frz ?_
    repeat' sizeOf_list_dec
    refine wr_catl (by decide) ?_
    rw [show ([T.str (Str.ofString "web 8 24")] ++ (List.range 24).map fun (k : Nat) => T.str (rowK k)) = fullW.map T.str by unfold fullW; rw [List.map_cons, List.map_map]; rfl]
    have hW := fullW_ok
    have hWl := fullW_len
    generalize fullW = W at hW hWl
    refine ws_seq (ws_loop (fun k l S' => [] = S' ∧ ∃ y1 y3, l = [some (.scr ns), y1, some (.lst (W.map T.str)), y3, none, none, none, none, none, none]) ?_)
    repeat' sizeOf_list_dec
    refine ⟨fixZ.map T.str, rfl, ⟨rfl, _, none, rfl⟩, fun _ _ _ _ => rfl, ?_, ?_⟩
    · rintro k t l S hk ⟨rfl, y1, y3, rfl⟩
      rw [List.getElem?_map] at hk
      cases hz : fixZ[k]? with
      | none => rw [hz] at hk; cases hk
      | some z =>
      rw [hz] at hk
      cases hk
      have hzl := fixZ_ok z (List.mem_of_getElem? hz)
      refine ⟨_, rfl, ?_⟩
      repeat' sizeOf_list_dec
      refine told_any hzl hN ?_
      repeat' sizeOf_list_dec
      refine due_any hzl ?_
      repeat' sizeOf_list_dec
      refine cn_due ?_
      repeat' sizeOf_list_dec
      exact ⟨rfl, _, _, rfl⟩
    · rintro l S ⟨rfl, y1, y3, rfl⟩
      repeat' sizeOf_list_dec
      obtain ⟨B, eB, hB1, hB2⟩ := cut_strs W none (some (-1))
      obtain ⟨C, eC, hC1, hC2⟩ := cut_strs W (some 1) none
      have hz0 : (Str.ofString "arrow 3 0 0").length ≤ 100 := by decide +kernel
      have hz1 : (Str.ofString "web 8 25").length ≤ 100 := by decide +kernel
      refine ws_loop (fun k l S' => [] = S' ∧ ∃ y1 y3 y4, l = [some (.scr ns), y1, some (.lst (W.map T.str)), y3, y4, none, none, none, none, none]) ?_
      repeat' sizeOf_list_dec
      refine wr_catl (by rw [List.length_map]; simp only [List.length_cons, List.length_nil]; unfold LIM; omega) ?_
      repeat' sizeOf_list_dec
      rw [eB, eC]
      refine wr_catl (by rw [List.length_map]; simp only [List.length_cons, List.length_nil]; unfold LIM; omega) ?_
      repeat' sizeOf_list_dec
      refine wr_catl (by rw [List.length_append, List.length_map]; simp only [List.length_cons, List.length_nil]; unfold LIM; omega) ?_
      repeat' sizeOf_list_dec
      have hV : ∀ V ∈ [W, W ++ [Str.ofString "arrow 3 0 0"], B, [Str.ofString "web 8 25"] ++ C ++ [Str.ofString "arrow 3 0 0"]], V.length ≤ 27 ∧ ∀ r ∈ V, r.length ≤ 100 := fun V hV => by
        simp only [List.mem_cons, List.not_mem_nil, or_false] at hV
        rcases hV with rfl | rfl | rfl | rfl
        · exact ⟨by omega, hW⟩
        · refine ⟨by simp; omega, fun r hr => ?_⟩
          simp only [List.mem_append, List.mem_singleton] at hr
          rcases hr with hr | rfl
          · exact hW r hr
          · exact hz0
        · exact ⟨by omega, fun r hr => hW r (hB1 r hr)⟩
        · refine ⟨by simp; omega, fun r hr => ?_⟩
          simp only [List.mem_append, List.mem_singleton] at hr
          rcases hr with (rfl | hr) | rfl
          · exact hz1
          · exact hW r (hC1 r hr)
          · exact hz0
      refine ⟨[W, W ++ [Str.ofString "arrow 3 0 0"], B, [Str.ofString "web 8 25"] ++ C ++ [Str.ofString "arrow 3 0 0"]].map strsT, by simp [strsT]; rfl, ⟨rfl, _, _, none, rfl⟩, fun _ _ _ _ => rfl, ?_, ?_⟩
      · rintro k t l S hk ⟨rfl, y1, y3, y4, rfl⟩
        generalize [W, W ++ [Str.ofString "arrow 3 0 0"], B, [Str.ofString "web 8 25"] ++ C ++ [Str.ofString "arrow 3 0 0"]] = Vs at hk hV
        rw [List.getElem?_map] at hk
        cases hz : Vs[k]? with
        | none => rw [hz] at hk; cases hk
        | some V =>
        rw [hz] at hk
        cases hk
        obtain ⟨hVl, hVr⟩ := hV V (List.mem_of_getElem? hz)
        have hj := join_len (s := 10) hVr
        have hj2 := lens_le hVr
        unfold strsT
        refine ⟨_, rfl, ?_⟩
        repeat' sizeOf_list_dec
        refine we_join ?_
        repeat' sizeOf_list_dec
        refine ⟨_, rfl, ?_⟩
        repeat' sizeOf_list_dec
        refine join_ok (A := V) rfl (by rw [nl_len]; unfold LIM; omega) ?_
        rw [nl_eq]
        repeat' sizeOf_list_dec
        refine told_any (by omega) hN ?_
        repeat' sizeOf_list_dec
        refine we_join ?_
        repeat' sizeOf_list_dec
        refine ⟨_, rfl, ?_⟩
        repeat' sizeOf_list_dec
        refine join_ok (A := V) rfl (by show _ + _ * 1 ≤ _; unfold LIM; omega) ?_
        repeat' sizeOf_list_dec
        refine due_any (by omega) ?_
        repeat' sizeOf_list_dec
        refine cn_due ?_
        repeat' sizeOf_list_dec
        exact ⟨rfl, _, _, _, rfl⟩
      · rintro l S ⟨rfl, y1, y3, y4, rfl⟩
        clear hV eB eC hB1 hC1 hz0 hz1 hW
        refine ws_seq (ws_loop (fun k l S' => Pens S' ∧ ∃ (y1 y3 y4 y5 y6 y7 y8 : Option T), l = [some (.scr ns), y1, some (.lst (W.map T.str)), y3, y4, y5, y6, y7, y8, none]) (cells_weL rfl hl fun L hL hLl => ?_))
        refine ⟨L, rfl, ⟨pens_nil, _, _, _, none, none, none, none, rfl⟩, fun _ _ _ _ => rfl, ?_, ?_⟩
        · rintro k t l S hk ⟨hS, y1, y3, y4, y5, y6, y7, y8, rfl⟩
          obtain ⟨v, rfl⟩ := hL t (List.mem_of_getElem? hk)
          refine ⟨_, rfl, ?_⟩
          repeat' sizeOf_list_dec
          refine pen_of_wf fun p hp => ?_
          repeat' sizeOf_list_dec
          generalize hi : S.length = i
          have g0 : (S ++ [p])[i]? = some p := by subst hi; simp
          have hS0 := pens_add hS hp
          generalize S ++ [p] = S0 at g0 hS0
          have hi0 : i < S0.length := (List.getElem?_eq_some_iff.mp g0).1
          have g : ∀ p', (S0.set i p')[i]? = some p' := fun p' => List.getElem?_set_self hi0
          refine web_of_wf hS0 g0 (by decide) (by decide) fun p1 n ar hp1 w => ?_
          have c1 := w.n2
          have c3 := w.len
          have w8 : W8 n ar := ⟨w.g (by decide), by omega, by omega⟩
          have htl := text_len w8
          have hrl := rowsL_len w8
          repeat' sizeOf_list_dec
          refine text_of_wf w8 (cl_pens (pens_put hS0 hp1)) ?_
          repeat' sizeOf_list_dec
          refine ws_loop (fun k l S' => ∃ p', IsPen p' ∧ S0.set i p' = S' ∧ ∃ (y7 y8 : Option T), l = [some (.scr ns), y1, some (.lst (W.map T.str)), some (.str (textW n ar)), y4, some (.int v), some (.ref i), y7, y8, none]) ?_
          repeat' sizeOf_list_dec
          refine ⟨_, rng_ok (by decide) (by decide), _, rfl, ⟨p1, hp1, rfl, _, _, rfl⟩, fun _ _ _ _ => rfl, ?_, ?_⟩
          · rintro k t l S' hk ⟨p2, hp2, rfl, y7, y8, rfl⟩
            refine ⟨_, rfl, ?_⟩
            repeat' sizeOf_list_dec
            refine we_join ?_
            repeat' sizeOf_list_dec
            refine ⟨_, rfl, ?_⟩
            repeat' sizeOf_list_dec
            refine we_split ?_
            repeat' sizeOf_list_dec
            refine ⟨_, rfl, ?_⟩
            repeat' sizeOf_list_dec
            refine ⟨_, rfl, ⟨by rw [nl_len]; rfl, by unfold LIM; omega⟩, ?_⟩
            rw [nl_eq, split_text]
            repeat' sizeOf_list_dec
            refine spoilt_of_wf (pens_put hS0 hp2) (g p2) (by simp [K70.rowsL]) hrl (rows_ok w8) fun p3 B hp3 hBl hB => ?_
            rw [show (S0.set i p2).set i p3 = S0.set i p3 by simp]
            have hj := join_len (s := 10) hB
            have hj2 := lens_le hB
            repeat' sizeOf_list_dec
            refine join_ok (A := B) rfl (by show _ + _ * 1 ≤ _; unfold LIM; omega) ?_
            repeat' sizeOf_list_dec
            refine told_any (by omega) (cl_pens (pens_put hS0 hp3)) ?_
            repeat' sizeOf_list_dec
            refine due_any (by omega) ?_
            repeat' sizeOf_list_dec
            refine cn_due ?_
            repeat' sizeOf_list_dec
            exact ⟨p3, hp3, rfl, _, _, rfl⟩
          · rintro l S' ⟨p2, hp2, rfl, y7, y8, rfl⟩
            repeat' sizeOf_list_dec
            refine told_good w8 (cl_pens (pens_put hS0 hp2)) ?_
            repeat' sizeOf_list_dec
            exact ⟨pens_put hS0 hp2, _, _, _, _, _, _, _, rfl⟩
        · rintro l S ⟨hS, y1, y3, y4, y5, y6, y7, y8, rfl⟩
          repeat' sizeOf_list_dec
          rfl
end K71
namespace K71
open PySem PySem.Spec L2 TL H
open PyProof.Rows
abbrev st__law_whole : Stmt := PySem.Challenge.pw_meanrings_k71_texts_that_write_none.main.body.getD 29 (.Pass ⟨0, 0, 0, 0⟩)
theorem sc__law_whole : FnScope ["_law_found"] ["_law_found"] (defScope st__law_whole) := ⟨rfl, rfl, rfl, by decide +kernel, rfl, by decide +kernel, by decide +kernel⟩
theorem ck__law_whole : chkS ["_law_found"] B__law_whole (defScope st__law_whole) (fun _ => true) (.sts (defBody st__law_whole)) = true := by decide +kernel
abbrev st__law_cell_at : Stmt := PySem.Challenge.pw_meanrings_k71_texts_that_write_none.main.body.getD 25 (.Pass ⟨0, 0, 0, 0⟩)
theorem sc__law_cell_at : FnScope ["_law_script", "_law_k"] ["_law_script", "_law_k"] (defScope st__law_cell_at) := ⟨rfl, rfl, rfl, by decide +kernel, rfl, by decide +kernel, by decide +kernel⟩
theorem ck__law_cell_at : chkS ["_law_script", "_law_k"] B__law_cell_at (defScope st__law_cell_at) (fun _ => true) (.sts (defBody st__law_cell_at)) = true := by decide +kernel
abbrev st__law_pen_of : Stmt := PySem.Challenge.pw_meanrings_k71_texts_that_write_none.main.body.getD 27 (.Pass ⟨0, 0, 0, 0⟩)
theorem sc__law_pen_of : FnScope ["_law_cell", "_law_left"] ["_law_cell"] (defScope st__law_pen_of) := ⟨rfl, rfl, rfl, by decide +kernel, rfl, by decide +kernel, by decide +kernel⟩
theorem ck__law_pen_of : chkS ["_law_cell", "_law_left"] B__law_pen_of (defScope st__law_pen_of) (fun _ => true) (.sts (defBody st__law_pen_of)) = true := by decide +kernel
abbrev st__law_next : Stmt := PySem.Challenge.pw_meanrings_k71_texts_that_write_none.main.body.getD 26 (.Pass ⟨0, 0, 0, 0⟩)
theorem sc__law_next : FnScope ["_law_seed"] ["_law_seed"] (defScope st__law_next) := ⟨rfl, rfl, rfl, by decide +kernel, rfl, by decide +kernel, by decide +kernel⟩
theorem ck__law_next : chkS ["_law_seed"] B__law_next (defScope st__law_next) (fun _ => true) (.sts (defBody st__law_next)) = true := by decide +kernel
abbrev st__law_draw : Stmt := PySem.Challenge.pw_meanrings_k71_texts_that_write_none.main.body.getD 28 (.Pass ⟨0, 0, 0, 0⟩)
theorem sc__law_draw : FnScope ["_law_pen", "_law_many", "_law_found"] ["_law_pen", "_law_many"] (defScope st__law_draw) := ⟨rfl, rfl, rfl, by decide +kernel, rfl, by decide +kernel, by decide +kernel⟩
theorem ck__law_draw : chkS ["_law_pen", "_law_many", "_law_found"] B__law_draw (defScope st__law_draw) (fun _ => true) (.sts (defBody st__law_draw)) = true := by decide +kernel
abbrev st__law_web_of : Stmt := PySem.Challenge.pw_meanrings_k71_texts_that_write_none.main.body.getD 31 (.Pass ⟨0, 0, 0, 0⟩)
theorem sc__law_web_of : FnScope ["_law_pen", "_law_most", "_law_many", "_law_wide", "_law_thin", "_law_found", "_law_one", "_law_other"] ["_law_pen", "_law_most"] (defScope st__law_web_of) := ⟨rfl, rfl, rfl, by decide +kernel, rfl, by decide +kernel, by decide +kernel⟩
theorem ck__law_web_of : chkS ["_law_pen", "_law_most", "_law_many", "_law_wide", "_law_thin", "_law_found", "_law_one", "_law_other"] B__law_web_of (defScope st__law_web_of) (fun _ => true) (.sts (defBody st__law_web_of)) = true := by decide +kernel
abbrev st__law_text_of : Stmt := PySem.Challenge.pw_meanrings_k71_texts_that_write_none.main.body.getD 32 (.Pass ⟨0, 0, 0, 0⟩)
theorem sc__law_text_of : FnScope ["_law_web", "_law_rows", "_law_arrow", "_law_number"] ["_law_web"] (defScope st__law_text_of) := ⟨rfl, rfl, rfl, by decide +kernel, rfl, by decide +kernel, by decide +kernel⟩
theorem ck__law_text_of : chkS ["_law_web", "_law_rows", "_law_arrow", "_law_number"] B__law_text_of (defScope st__law_text_of) (fun _ => true) (.sts (defBody st__law_text_of)) = true := by decide +kernel
abbrev st_number_in : Stmt := PySem.Challenge.pw_meanrings_k71_texts_that_write_none.main.body.getD 19 (.Pass ⟨0, 0, 0, 0⟩)
theorem sc_number_in : FnScope ["word", "sign"] ["word"] (defScope st_number_in) := ⟨rfl, rfl, rfl, by decide +kernel, rfl, by decide +kernel, by decide +kernel⟩
theorem ck_number_in : chkS ["word", "sign"] B_number_in (defScope st_number_in) (fun _ => true) (.sts (defBody st_number_in)) = true := by decide +kernel
abbrev st_sizes_in : Stmt := PySem.Challenge.pw_meanrings_k71_texts_that_write_none.main.body.getD 21 (.Pass ⟨0, 0, 0, 0⟩)
theorem sc_sizes_in : FnScope ["row", "words", "many", "arrows"] ["row"] (defScope st_sizes_in) := ⟨rfl, rfl, rfl, by decide +kernel, rfl, by decide +kernel, by decide +kernel⟩
theorem ck_sizes_in : chkS ["row", "words", "many", "arrows"] B_sizes_in (defScope st_sizes_in) (fun _ => true) (.sts (defBody st_sizes_in)) = true := by decide +kernel
abbrev st_is_whole : Stmt := PySem.Challenge.pw_meanrings_k71_texts_that_write_none.main.body.getD 14 (.Pass ⟨0, 0, 0, 0⟩)
theorem sc_is_whole : FnScope ["thing"] ["thing"] (defScope st_is_whole) := ⟨rfl, rfl, rfl, by decide +kernel, rfl, by decide +kernel, by decide +kernel⟩
theorem ck_is_whole : chkS ["thing"] B_is_whole (defScope st_is_whole) (fun _ => true) (.sts (defBody st_is_whole)) = true := by decide +kernel
abbrev st_arrow_good : Stmt := PySem.Challenge.pw_meanrings_k71_texts_that_write_none.main.body.getD 15 (.Pass ⟨0, 0, 0, 0⟩)
theorem sc_arrow_good : FnScope ["many", "thing", "one"] ["many", "thing"] (defScope st_arrow_good) := ⟨rfl, rfl, rfl, by decide +kernel, rfl, by decide +kernel, by decide +kernel⟩
theorem ck_arrow_good : chkS ["many", "thing", "one"] B_arrow_good (defScope st_arrow_good) (fun _ => true) (.sts (defBody st_arrow_good)) = true := by decide +kernel
abbrev st_signed_in : Stmt := PySem.Challenge.pw_meanrings_k71_texts_that_write_none.main.body.getD 20 (.Pass ⟨0, 0, 0, 0⟩)
theorem sc_signed_in : FnScope ["word", "found"] ["word"] (defScope st_signed_in) := ⟨rfl, rfl, rfl, by decide +kernel, rfl, by decide +kernel, by decide +kernel⟩
theorem ck_signed_in : chkS ["word", "found"] B_signed_in (defScope st_signed_in) (fun _ => true) (.sts (defBody st_signed_in)) = true := by decide +kernel
abbrev st_arrow_in : Stmt := PySem.Challenge.pw_meanrings_k71_texts_that_write_none.main.body.getD 22 (.Pass ⟨0, 0, 0, 0⟩)
theorem sc_arrow_in : FnScope ["many", "row", "words", "found"] ["many", "row"] (defScope st_arrow_in) := ⟨rfl, rfl, rfl, by decide +kernel, rfl, by decide +kernel, by decide +kernel⟩
theorem ck_arrow_in : chkS ["many", "row", "words", "found"] B_arrow_in (defScope st_arrow_in) (fun _ => true) (.sts (defBody st_arrow_in)) = true := by decide +kernel
abbrev st_web_read : Stmt := PySem.Challenge.pw_meanrings_k71_texts_that_write_none.main.body.getD 23 (.Pass ⟨0, 0, 0, 0⟩)
theorem sc_web_read : FnScope ["text", "rows", "sizes", "found", "number", "row", "arrow"] ["text"] (defScope st_web_read) := ⟨rfl, rfl, rfl, by decide +kernel, rfl, by decide +kernel, by decide +kernel⟩
theorem ck_web_read : chkS ["text", "rows", "sizes", "found", "number", "row", "arrow"] B_web_read (defScope st_web_read) (fun _ => true) (.sts (defBody st_web_read)) = true := by decide +kernel
abbrev st__law_told : Stmt := PySem.Challenge.pw_meanrings_k71_texts_that_write_none.main.body.getD 34 (.Pass ⟨0, 0, 0, 0⟩)
theorem sc__law_told : FnScope ["_law_thing", "_law_e"] ["_law_thing"] (defScope st__law_told) := ⟨rfl, rfl, rfl, by decide +kernel, rfl, by decide +kernel, by decide +kernel⟩
theorem ck__law_told : chkS ["_law_thing", "_law_e"] B__law_told (defScope st__law_told) (fun _ => true) (.sts (defBody st__law_told)) = true := by decide +kernel
abbrev st__law_value : Stmt := PySem.Challenge.pw_meanrings_k71_texts_that_write_none.main.body.getD 33 (.Pass ⟨0, 0, 0, 0⟩)
theorem sc__law_value : FnScope ["_law_word", "_law_sign"] ["_law_word"] (defScope st__law_value) := ⟨rfl, rfl, rfl, by decide +kernel, rfl, by decide +kernel, by decide +kernel⟩
theorem ck__law_value : chkS ["_law_word", "_law_sign"] B__law_value (defScope st__law_value) (fun _ => true) (.sts (defBody st__law_value)) = true := by decide +kernel
abbrev st__law_arrow_in : Stmt := PySem.Challenge.pw_meanrings_k71_texts_that_write_none.main.body.getD 35 (.Pass ⟨0, 0, 0, 0⟩)
theorem sc__law_arrow_in : FnScope ["_law_many", "_law_text", "_law_words", "_law_ends", "_law_size"] ["_law_many", "_law_text"] (defScope st__law_arrow_in) := ⟨rfl, rfl, rfl, by decide +kernel, rfl, by decide +kernel, by decide +kernel⟩
theorem ck__law_arrow_in : chkS ["_law_many", "_law_text", "_law_words", "_law_ends", "_law_size"] B__law_arrow_in (defScope st__law_arrow_in) (fun _ => true) (.sts (defBody st__law_arrow_in)) = true := by decide +kernel
abbrev st__law_due : Stmt := PySem.Challenge.pw_meanrings_k71_texts_that_write_none.main.body.getD 36 (.Pass ⟨0, 0, 0, 0⟩)
theorem sc__law_due : FnScope ["_law_text", "_law_rows", "_law_words", "_law_last", "_law_k", "_law_many", "_law_arrows", "_law_ends"] ["_law_text"] (defScope st__law_due) := ⟨rfl, rfl, rfl, by decide +kernel, rfl, by decide +kernel, by decide +kernel⟩
theorem ck__law_due : chkS ["_law_text", "_law_rows", "_law_words", "_law_last", "_law_k", "_law_many", "_law_arrows", "_law_ends"] B__law_due (defScope st__law_due) (fun _ => true) (.sts (defBody st__law_due)) = true := by decide +kernel
abbrev st__law_odd_row : Stmt := PySem.Challenge.pw_meanrings_k71_texts_that_write_none.main.body.getD 37 (.Pass ⟨0, 0, 0, 0⟩)
theorem sc__law_odd_row : FnScope ["_law_pen", "_law_text", "_law_words", "_law_spot", "_law_odd", "_law_one", "_law_some", "_law_way"] ["_law_pen", "_law_text"] (defScope st__law_odd_row) := ⟨rfl, rfl, rfl, by decide +kernel, rfl, by decide +kernel, by decide +kernel⟩
theorem ck__law_odd_row : chkS ["_law_pen", "_law_text", "_law_words", "_law_spot", "_law_odd", "_law_one", "_law_some", "_law_way"] B__law_odd_row (defScope st__law_odd_row) (fun _ => true) (.sts (defBody st__law_odd_row)) = true := by decide +kernel
abbrev st__law_spoilt_of : Stmt := PySem.Challenge.pw_meanrings_k71_texts_that_write_none.main.body.getD 38 (.Pass ⟨0, 0, 0, 0⟩)
theorem sc__law_spoilt_of : FnScope ["_law_pen", "_law_rows", "_law_spot", "_law_other", "_law_found", "_law_way"] ["_law_pen", "_law_rows"] (defScope st__law_spoilt_of) := ⟨rfl, rfl, rfl, by decide +kernel, rfl, by decide +kernel, by decide +kernel⟩
theorem ck__law_spoilt_of : chkS ["_law_pen", "_law_rows", "_law_spot", "_law_other", "_law_found", "_law_way"] B__law_spoilt_of (defScope st__law_spoilt_of) (fun _ => true) (.sts (defBody st__law_spoilt_of)) = true := by decide +kernel
abbrev st_law : Stmt := PySem.Challenge.pw_meanrings_k71_texts_that_write_none.main.body.getD 39 (.Pass ⟨0, 0, 0, 0⟩)
theorem sc_law : FnScope ["_law_script", "_law_thing", "_law_full", "_law_text", "_law_rows", "_law_cell", "_law_pen", "_law_turn", "_law_spoilt", "_law_k"] ["_law_script"] (defScope st_law) := ⟨rfl, rfl, rfl, by decide +kernel, rfl, by decide +kernel, by decide +kernel⟩
theorem ck_law : chkS ["_law_script", "_law_thing", "_law_full", "_law_text", "_law_rows", "_law_cell", "_law_pen", "_law_turn", "_law_spoilt", "_law_k"] B_law (defScope st_law) (fun _ => true) (.sts (defBody st_law)) = true := by decide +kernel
abbrev st__law_kind_of : Stmt := PySem.Challenge.pw_meanrings_k71_texts_that_write_none.main.body.getD 30 (.Pass ⟨0, 0, 0, 0⟩)
theorem sc__law_kind_of : FnScope ["_law_e", "_law_marks"] ["_law_e"] (defScope st__law_kind_of) := ⟨rfl, rfl, rfl, by decide +kernel, rfl, by decide +kernel, by decide +kernel⟩
abbrev st_NoText : Stmt := (clsBody (PySem.Challenge.pw_meanrings_k71_texts_that_write_none.main.body.getD 8 (.Pass ⟨0, 0, 0, 0⟩))).getD 0 (.Pass ⟨0, 0, 0, 0⟩)
theorem sc_NoText : FnScope ["self", "row"] ["self", "row"] (defScope st_NoText) := ⟨rfl, rfl, rfl, by decide +kernel, rfl, by decide +kernel, by decide +kernel⟩
set_option maxHeartbeats 0 in
theorem all_mk {l : PySem.W.OpenLaw} {w : World} {K : PySem.W.Frag} {h : Heap} {mg : Str → Option Value} {fa : Addr} (X : K.In h) (G : h.Ns mainGlobals mg) (hfa : mg "law" = some (.ref fa))
    {f0 : Addr} {od0 an0 : Option Addr} {sl0 : Array (Option Value)} {oc0 kV0 dc0 pm0 cd0 ct0 : Value}
    {f1 : Addr} {od1 an1 : Option Addr} {sl1 : Array (Option Value)} {oc1 kV1 dc1 pm1 cd1 ct1 : Value}
    {f2 : Addr} {od2 an2 : Option Addr} {sl2 : Array (Option Value)} {oc2 kV2 dc2 pm2 cd2 ct2 : Value}
    {f3 : Addr} {od3 an3 : Option Addr} {sl3 : Array (Option Value)} {oc3 kV3 dc3 pm3 cd3 ct3 : Value}
    {f4 : Addr} {od4 an4 : Option Addr} {sl4 : Array (Option Value)} {oc4 kV4 dc4 pm4 cd4 ct4 : Value}
    {f5 : Addr} {od5 an5 : Option Addr} {sl5 : Array (Option Value)} {oc5 kV5 dc5 pm5 cd5 ct5 : Value}
    {f6 : Addr} {od6 an6 : Option Addr} {sl6 : Array (Option Value)} {oc6 kV6 dc6 pm6 cd6 ct6 : Value}
    {f7 : Addr} {od7 an7 : Option Addr} {sl7 : Array (Option Value)} {oc7 kV7 dc7 pm7 cd7 ct7 : Value}
    {f8 : Addr} {od8 an8 : Option Addr} {sl8 : Array (Option Value)} {oc8 kV8 dc8 pm8 cd8 ct8 : Value}
    {f9 : Addr} {od9 an9 : Option Addr} {sl9 : Array (Option Value)} {oc9 kV9 dc9 pm9 cd9 ct9 : Value}
    {f10 : Addr} {od10 an10 : Option Addr} {sl10 : Array (Option Value)} {oc10 kV10 dc10 pm10 cd10 ct10 : Value}
    {f11 : Addr} {od11 an11 : Option Addr} {sl11 : Array (Option Value)} {oc11 kV11 dc11 pm11 cd11 ct11 : Value}
    {f12 : Addr} {od12 an12 : Option Addr} {sl12 : Array (Option Value)} {oc12 kV12 dc12 pm12 cd12 ct12 : Value}
    {f13 : Addr} {od13 an13 : Option Addr} {sl13 : Array (Option Value)} {oc13 kV13 dc13 pm13 cd13 ct13 : Value}
    {f14 : Addr} {od14 an14 : Option Addr} {sl14 : Array (Option Value)} {oc14 kV14 dc14 pm14 cd14 ct14 : Value}
    {f15 : Addr} {od15 an15 : Option Addr} {sl15 : Array (Option Value)} {oc15 kV15 dc15 pm15 cd15 ct15 : Value}
    {f16 : Addr} {od16 an16 : Option Addr} {sl16 : Array (Option Value)} {oc16 kV16 dc16 pm16 cd16 ct16 : Value}
    {f17 : Addr} {od17 an17 : Option Addr} {sl17 : Array (Option Value)} {oc17 kV17 dc17 pm17 cd17 ct17 : Value}
    {f18 : Addr} {od18 an18 : Option Addr} {sl18 : Array (Option Value)} {oc18 kV18 dc18 pm18 cd18 ct18 : Value}
    {f19 : Addr} {od19 an19 : Option Addr} {sl19 : Array (Option Value)} {oc19 kV19 dc19 pm19 cd19 ct19 : Value}
    {f20 : Addr} {od20 an20 : Option Addr} {sl20 : Array (Option Value)} {oc20 kV20 dc20 pm20 cd20 ct20 : Value}
    {t0 : Tok}
    {t1 : Tok}
    {t2 : Tok}
    {t3 : Tok}
    {t4 : Tok}
    {C0 C1 C2 C3 C4 C5 C6 C7 CM : Addr}
    {fi6 N6 B6 : Addr} {nm6 q6 : Str} {bs6 sub6 : List Value} {sn6 : List Str} {ab6 : Bool} {col6 : Option Bool} {dd6 iod6 ian6 : Option Addr} {m06 m16 m26 m36 m56 : Option Value} {ioc6 ikV6 idc6 ipm6 icd6 ict6 : Value} {isl6 : Array (Option Value)}
    {fk : Addr} {odk ank : Option Addr} {slk : Array (Option Value)} {ock kVk dck pmk cdk ctk : Value}
    (a0 : PySem.W.nsIn K mainGlobals "_law_whole" = some (some (.ref f0)))
    (l0 : K.lookup f0 = some ⟨oc0, od0, .func (PySem.W.fnOf "_law_whole" "_law_whole" (defArgs st__law_whole) (defBody st__law_whole) (defScope st__law_whole) .none kV0 dc0 pm0 an0 cd0 ct0), sl0⟩)
    (c0 : PySem.W.codeIn K cd0 "_law_whole" = true)
    (k0 : PySem.W.keepIn K (.ref f0) = true)
    (a1 : PySem.W.nsIn K mainGlobals "_law_cell_at" = some (some (.ref f1)))
    (l1 : K.lookup f1 = some ⟨oc1, od1, .func (PySem.W.fnOf "_law_cell_at" "_law_cell_at" (defArgs st__law_cell_at) (defBody st__law_cell_at) (defScope st__law_cell_at) .none kV1 dc1 pm1 an1 cd1 ct1), sl1⟩)
    (c1 : PySem.W.codeIn K cd1 "_law_cell_at" = true)
    (k1 : PySem.W.keepIn K (.ref f1) = true)
    (a2 : PySem.W.nsIn K mainGlobals "_law_pen_of" = some (some (.ref f2)))
    (l2 : K.lookup f2 = some ⟨oc2, od2, .func (PySem.W.fnOf "_law_pen_of" "_law_pen_of" (defArgs st__law_pen_of) (defBody st__law_pen_of) (defScope st__law_pen_of) .none kV2 dc2 pm2 an2 cd2 ct2), sl2⟩)
    (c2 : PySem.W.codeIn K cd2 "_law_pen_of" = true)
    (k2 : PySem.W.keepIn K (.ref f2) = true)
    (a3 : PySem.W.nsIn K mainGlobals "_law_next" = some (some (.ref f3)))
    (l3 : K.lookup f3 = some ⟨oc3, od3, .func (PySem.W.fnOf "_law_next" "_law_next" (defArgs st__law_next) (defBody st__law_next) (defScope st__law_next) .none kV3 dc3 pm3 an3 cd3 ct3), sl3⟩)
    (c3 : PySem.W.codeIn K cd3 "_law_next" = true)
    (k3 : PySem.W.keepIn K (.ref f3) = true)
    (a4 : PySem.W.nsIn K mainGlobals "_law_draw" = some (some (.ref f4)))
    (l4 : K.lookup f4 = some ⟨oc4, od4, .func (PySem.W.fnOf "_law_draw" "_law_draw" (defArgs st__law_draw) (defBody st__law_draw) (defScope st__law_draw) .none kV4 dc4 pm4 an4 cd4 ct4), sl4⟩)
    (c4 : PySem.W.codeIn K cd4 "_law_draw" = true)
    (k4 : PySem.W.keepIn K (.ref f4) = true)
    (a5 : PySem.W.nsIn K mainGlobals "_law_web_of" = some (some (.ref f5)))
    (l5 : K.lookup f5 = some ⟨oc5, od5, .func (PySem.W.fnOf "_law_web_of" "_law_web_of" (defArgs st__law_web_of) (defBody st__law_web_of) (defScope st__law_web_of) .none kV5 dc5 pm5 an5 cd5 ct5), sl5⟩)
    (c5 : PySem.W.codeIn K cd5 "_law_web_of" = true)
    (k5 : PySem.W.keepIn K (.ref f5) = true)
    (a6 : PySem.W.nsIn K mainGlobals "_law_text_of" = some (some (.ref f6)))
    (l6 : K.lookup f6 = some ⟨oc6, od6, .func (PySem.W.fnOf "_law_text_of" "_law_text_of" (defArgs st__law_text_of) (defBody st__law_text_of) (defScope st__law_text_of) .none kV6 dc6 pm6 an6 cd6 ct6), sl6⟩)
    (c6 : PySem.W.codeIn K cd6 "_law_text_of" = true)
    (k6 : PySem.W.keepIn K (.ref f6) = true)
    (a7 : PySem.W.nsIn K mainGlobals "number_in" = some (some (.ref f7)))
    (l7 : K.lookup f7 = some ⟨oc7, od7, .func (PySem.W.fnOf "number_in" "number_in" (defArgs st_number_in) (defBody st_number_in) (defScope st_number_in) .none kV7 dc7 pm7 an7 cd7 ct7), sl7⟩)
    (c7 : PySem.W.codeIn K cd7 "number_in" = true)
    (k7 : PySem.W.keepIn K (.ref f7) = true)
    (a8 : PySem.W.nsIn K mainGlobals "sizes_in" = some (some (.ref f8)))
    (l8 : K.lookup f8 = some ⟨oc8, od8, .func (PySem.W.fnOf "sizes_in" "sizes_in" (defArgs st_sizes_in) (defBody st_sizes_in) (defScope st_sizes_in) .none kV8 dc8 pm8 an8 cd8 ct8), sl8⟩)
    (c8 : PySem.W.codeIn K cd8 "sizes_in" = true)
    (k8 : PySem.W.keepIn K (.ref f8) = true)
    (a9 : PySem.W.nsIn K mainGlobals "is_whole" = some (some (.ref f9)))
    (l9 : K.lookup f9 = some ⟨oc9, od9, .func (PySem.W.fnOf "is_whole" "is_whole" (defArgs st_is_whole) (defBody st_is_whole) (defScope st_is_whole) .none kV9 dc9 pm9 an9 cd9 ct9), sl9⟩)
    (c9 : PySem.W.codeIn K cd9 "is_whole" = true)
    (k9 : PySem.W.keepIn K (.ref f9) = true)
    (a10 : PySem.W.nsIn K mainGlobals "arrow_good" = some (some (.ref f10)))
    (l10 : K.lookup f10 = some ⟨oc10, od10, .func (PySem.W.fnOf "arrow_good" "arrow_good" (defArgs st_arrow_good) (defBody st_arrow_good) (defScope st_arrow_good) .none kV10 dc10 pm10 an10 cd10 ct10), sl10⟩)
    (c10 : PySem.W.codeIn K cd10 "arrow_good" = true)
    (k10 : PySem.W.keepIn K (.ref f10) = true)
    (a11 : PySem.W.nsIn K mainGlobals "signed_in" = some (some (.ref f11)))
    (l11 : K.lookup f11 = some ⟨oc11, od11, .func (PySem.W.fnOf "signed_in" "signed_in" (defArgs st_signed_in) (defBody st_signed_in) (defScope st_signed_in) .none kV11 dc11 pm11 an11 cd11 ct11), sl11⟩)
    (c11 : PySem.W.codeIn K cd11 "signed_in" = true)
    (k11 : PySem.W.keepIn K (.ref f11) = true)
    (a12 : PySem.W.nsIn K mainGlobals "arrow_in" = some (some (.ref f12)))
    (l12 : K.lookup f12 = some ⟨oc12, od12, .func (PySem.W.fnOf "arrow_in" "arrow_in" (defArgs st_arrow_in) (defBody st_arrow_in) (defScope st_arrow_in) .none kV12 dc12 pm12 an12 cd12 ct12), sl12⟩)
    (c12 : PySem.W.codeIn K cd12 "arrow_in" = true)
    (k12 : PySem.W.keepIn K (.ref f12) = true)
    (a13 : PySem.W.nsIn K mainGlobals "web_read" = some (some (.ref f13)))
    (l13 : K.lookup f13 = some ⟨oc13, od13, .func (PySem.W.fnOf "web_read" "web_read" (defArgs st_web_read) (defBody st_web_read) (defScope st_web_read) .none kV13 dc13 pm13 an13 cd13 ct13), sl13⟩)
    (c13 : PySem.W.codeIn K cd13 "web_read" = true)
    (k13 : PySem.W.keepIn K (.ref f13) = true)
    (a14 : PySem.W.nsIn K mainGlobals "_law_told" = some (some (.ref f14)))
    (l14 : K.lookup f14 = some ⟨oc14, od14, .func (PySem.W.fnOf "_law_told" "_law_told" (defArgs st__law_told) (defBody st__law_told) (defScope st__law_told) .none kV14 dc14 pm14 an14 cd14 ct14), sl14⟩)
    (c14 : PySem.W.codeIn K cd14 "_law_told" = true)
    (k14 : PySem.W.keepIn K (.ref f14) = true)
    (a15 : PySem.W.nsIn K mainGlobals "_law_value" = some (some (.ref f15)))
    (l15 : K.lookup f15 = some ⟨oc15, od15, .func (PySem.W.fnOf "_law_value" "_law_value" (defArgs st__law_value) (defBody st__law_value) (defScope st__law_value) .none kV15 dc15 pm15 an15 cd15 ct15), sl15⟩)
    (c15 : PySem.W.codeIn K cd15 "_law_value" = true)
    (k15 : PySem.W.keepIn K (.ref f15) = true)
    (a16 : PySem.W.nsIn K mainGlobals "_law_arrow_in" = some (some (.ref f16)))
    (l16 : K.lookup f16 = some ⟨oc16, od16, .func (PySem.W.fnOf "_law_arrow_in" "_law_arrow_in" (defArgs st__law_arrow_in) (defBody st__law_arrow_in) (defScope st__law_arrow_in) .none kV16 dc16 pm16 an16 cd16 ct16), sl16⟩)
    (c16 : PySem.W.codeIn K cd16 "_law_arrow_in" = true)
    (k16 : PySem.W.keepIn K (.ref f16) = true)
    (a17 : PySem.W.nsIn K mainGlobals "_law_due" = some (some (.ref f17)))
    (l17 : K.lookup f17 = some ⟨oc17, od17, .func (PySem.W.fnOf "_law_due" "_law_due" (defArgs st__law_due) (defBody st__law_due) (defScope st__law_due) .none kV17 dc17 pm17 an17 cd17 ct17), sl17⟩)
    (c17 : PySem.W.codeIn K cd17 "_law_due" = true)
    (k17 : PySem.W.keepIn K (.ref f17) = true)
    (a18 : PySem.W.nsIn K mainGlobals "_law_odd_row" = some (some (.ref f18)))
    (l18 : K.lookup f18 = some ⟨oc18, od18, .func (PySem.W.fnOf "_law_odd_row" "_law_odd_row" (defArgs st__law_odd_row) (defBody st__law_odd_row) (defScope st__law_odd_row) .none kV18 dc18 pm18 an18 cd18 ct18), sl18⟩)
    (c18 : PySem.W.codeIn K cd18 "_law_odd_row" = true)
    (k18 : PySem.W.keepIn K (.ref f18) = true)
    (a19 : PySem.W.nsIn K mainGlobals "_law_spoilt_of" = some (some (.ref f19)))
    (l19 : K.lookup f19 = some ⟨oc19, od19, .func (PySem.W.fnOf "_law_spoilt_of" "_law_spoilt_of" (defArgs st__law_spoilt_of) (defBody st__law_spoilt_of) (defScope st__law_spoilt_of) .none kV19 dc19 pm19 an19 cd19 ct19), sl19⟩)
    (c19 : PySem.W.codeIn K cd19 "_law_spoilt_of" = true)
    (k19 : PySem.W.keepIn K (.ref f19) = true)
    (a20 : PySem.W.nsIn K mainGlobals "law" = some (some (.ref f20)))
    (l20 : K.lookup f20 = some ⟨oc20, od20, .func (PySem.W.fnOf "law" "law" (defArgs st_law) (defBody st_law) (defScope st_law) .none kV20 dc20 pm20 an20 cd20 ct20), sl20⟩)
    (c20 : PySem.W.codeIn K cd20 "law" = true)
    (k20 : PySem.W.keepIn K (.ref f20) = true)
    (z0 : PySem.W.nsIn K mainGlobals "len" = some none)
    (z1 : PySem.W.nsIn K mainGlobals "abs" = some none)
    (z2 : PySem.W.nsIn K mainGlobals "max" = some none)
    (z3 : PySem.W.nsIn K mainGlobals "min" = some none)
    (z4 : PySem.W.nsIn K mainGlobals "sum" = some none)
    (z5 : PySem.W.nsIn K mainGlobals "all" = some none)
    (z6 : PySem.W.nsIn K mainGlobals "tuple" = some none)
    (z7 : PySem.W.nsIn K mainGlobals "list" = some none)
    (z8 : PySem.W.nsIn K mainGlobals "sorted" = some none)
    (z9 : PySem.W.nsIn K mainGlobals "int" = some none)
    (z10 : PySem.W.nsIn K mainGlobals "str" = some none)
    (z11 : PySem.W.nsIn K mainGlobals "dict" = some none)
    (z12 : PySem.W.nsIn K mainGlobals "bool" = some none)
    (z13 : PySem.W.nsIn K mainGlobals "isinstance" = some none)
    (z14 : PySem.W.nsIn K mainGlobals "range" = some none)
    (z15 : PySem.W.nsIn K mainGlobals "enumerate" = some none)
    (z16 : PySem.W.nsIn K mainGlobals "zip" = some none)
    (z17 : PySem.W.nsIn K mainGlobals "ValueError" = some none)
    (z18 : PySem.W.nsIn K mainGlobals "set" = some none)
    (cst0 : PySem.W.nsIn K mainGlobals "FIGURES" = some (some (.str "0123456789" t0)))
    (cst1 : PySem.W.nsIn K mainGlobals "MOST_FIGURES" = some (some (.int 60 t1)))
    (cst2 : PySem.W.nsIn K mainGlobals "MOST_ARROWS" = some (some (.int 24 t2)))
    (cst3 : PySem.W.nsIn K mainGlobals "MOST_PLACES" = some (some (.int 8 t3)))
    (cst4 : PySem.W.nsIn K mainGlobals "MOST_WORTH" = some (some (.int 1000000000000000000000000000000 t4)))
    (xg0 : PySem.W.nsIn K mainGlobals "NoPlace" = some (some (.ref C0)))
    (xg1 : PySem.W.nsIn K mainGlobals "NoArrow" = some (some (.ref C1)))
    (xg2 : PySem.W.nsIn K mainGlobals "NoRing" = some (some (.ref C2)))
    (xg3 : PySem.W.nsIn K mainGlobals "NoNumber" = some (some (.ref C3)))
    (xg4 : PySem.W.nsIn K mainGlobals "NoRow" = some (some (.ref C4)))
    (xg5 : PySem.W.nsIn K mainGlobals "NoWeb" = some (some (.ref C5)))
    (xg6 : PySem.W.nsIn K mainGlobals "NoText" = some (some (.ref C6)))
    (xg7 : PySem.W.nsIn K mainGlobals "TooGreat" = some (some (.ref C7)))
    (xgM : PySem.W.nsIn K mainGlobals "MeanError" = some (some (.ref CM)))
    (xf : xfB K [C0, C1, C2, C3, C4, C5, C6, C7] CM = true)
    (xL6 : K.lookup C6 = some (excClassObj nm6 q6 C6 N6 bs6 [.ref B6, .type "ValueError", .type "Exception", .type "BaseException", .type "object"] true sn6 sub6 ab6 col6 dd6 m06 m16 m26 m36 m56 "ValueError.__new__"))
    (xs6 : PySem.W.findIn K (.ref C6) "__setattr__" = some (some (.builtin "object.__setattr__")))
    (xi6 : PySem.W.findIn K (.ref C6) "__init__" = some (some (.ref fi6)))
    (xt6 : PySem.W.typeIn K (.ref fi6) = some (.type "function"))
    (xl6 : K.lookup fi6 = some ⟨ioc6, iod6, .func (PySem.W.fnOf "__init__" "NoText.__init__" (defArgs st_NoText) (defBody st_NoText) (defScope st_NoText) .none ikV6 idc6 ipm6 ian6 icd6 ict6), isl6⟩)
    (xc6 : PySem.W.codeIn K icd6 "NoText.__init__" = true)
    (xk6 : PySem.W.keepIn K (.ref fi6) = true)
    (ak : PySem.W.nsIn K mainGlobals "_law_kind_of" = some (some (.ref fk)))
    (lk : K.lookup fk = some ⟨ock, odk, .func (PySem.W.fnOf "_law_kind_of" "_law_kind_of" (defArgs st__law_kind_of) (defBody st__law_kind_of) (defScope st__law_kind_of) .none kVk dck pmk ank cdk ctk), slk⟩)
    (ck : PySem.W.codeIn K cdk "_law_kind_of" = true)
    (kk : PySem.W.keepIn K (.ref fk) = true) :
    ∃ fd : FuncData, (∀ (s : Shared) (v : Value), BindsTo s fd ⟨[v], []⟩ [("_law_script", v)]) ∧ ∀ base : Heap, K.In base → base.Ns mainGlobals mg → FnOk l.prog w K mg base (L2N.CX l.prog w) 8 fa fd ["_law_script"] (spA K 1 F_law) := by
  have e := hfa.symm.trans (PySem.W.mg_of X G a20)
  cases e
  have hblt : ∀ y ∈ bltNames, mg y = none := by
    intro y hy
    simp only [bltNames, List.mem_cons, List.not_mem_nil, or_false] at hy
    rcases hy with rfl | rfl | rfl | rfl | rfl | rfl | rfl | rfl | rfl | rfl | rfl | rfl | rfl | rfl | rfl | rfl | rfl | rfl | rfl
    · exact PySem.W.mg_none_of X G z0
    · exact PySem.W.mg_none_of X G z1
    · exact PySem.W.mg_none_of X G z2
    · exact PySem.W.mg_none_of X G z3
    · exact PySem.W.mg_none_of X G z4
    · exact PySem.W.mg_none_of X G z5
    · exact PySem.W.mg_none_of X G z6
    · exact PySem.W.mg_none_of X G z7
    · exact PySem.W.mg_none_of X G z8
    · exact PySem.W.mg_none_of X G z9
    · exact PySem.W.mg_none_of X G z10
    · exact PySem.W.mg_none_of X G z11
    · exact PySem.W.mg_none_of X G z12
    · exact PySem.W.mg_none_of X G z13
    · exact PySem.W.mg_none_of X G z14
    · exact PySem.W.mg_none_of X G z15
    · exact PySem.W.mg_none_of X G z16
    · exact PySem.W.mg_none_of X G z17
    · exact PySem.W.mg_none_of X G z18
  have cg0 := PySem.W.mg_of X G cst0
  have cg1 := PySem.W.mg_of X G cst1
  have cg2 := PySem.W.mg_of X G cst2
  have cg3 := PySem.W.mg_of X G cst3
  have cg4 := PySem.W.mg_of X G cst4
  refine ⟨PySem.W.fnOf "law" "law" (defArgs st_law) (defBody st_law) (defScope st_law) .none kV20 dc20 pm20 an20 cd20 ct20, fun s v => .of_eq rfl, fun base _ _ => ?_⟩
  have g8 := names8 (PySem.W.mg_of X G xg0) (PySem.W.mg_of X G xg1) (PySem.W.mg_of X G xg2) (PySem.W.mg_of X G xg3) (PySem.W.mg_of X G xg4) (PySem.W.mg_of X G xg5) (PySem.W.mg_of X G xg6) (PySem.W.mg_of X G xg7)
  have tn : ∀ lv, 1 ≤ lv → TryNeed ⟨l.prog, w, K, mg, base⟩ lv := fun lv hl => try_need hl xf g8 (PySem.W.mg_of X G xgM)
  obtain ⟨T6, hn6⟩ := oex_of (M := ⟨l.prog, w, K, mg, base⟩) (C := C6) xf (by simp) xL6 xs6
  have Fi6 := fun_mk (st := st_NoText) xl6 xc6 xk6
  have bi6 := Fi6.binds (ps := ["self", "row"]) fun _ _ _ _ _ _ us hl => match us, hl with | [_, _], _ => rfl
  have rn6 : ∀ lv, 2 ≤ lv → RaiseNeed ⟨l.prog, w, K, mg, base⟩ lv "NoText" ["row"] := fun lv hl => raise1_need hl (PySem.W.mg_of X G xg6) T6 (hn6 _ (by decide)) xi6 xt6 Fi6 sc_NoText rfl (by decide +kernel) bi6
  have Fk := fun_mk (st := st__law_kind_of) lk ck kk
  have bk := Fk.binds (ps := ["_law_e"]) fun _ _ _ _ _ _ us hl => match us, hl with | [_], _ => rfl
  have kn : KindNeed ⟨l.prog, w, K, mg, base⟩ := kind_need Fk sc__law_kind_of (PySem.W.mg_of X G ak) bk (by decide +kernel)
  have F0 := fun_mk (st := st__law_whole) l0 c0 k0
  have b0 := F0.binds (ps := ["_law_found"]) fun _ _ _ _ _ _ us hl => match us, hl with | [_], _ => rfl
  have o0 : FnOk l.prog w K mg base (L2N.CX l.prog w) 3 f0 _ ["_law_found"] (spT K (XR1 mg) 1 F__law_whole) := fn_ok F0 sc__law_whole hblt ck__law_whole (by (repeat' apply And.intro) <;> first | trivial)
  have n__law_whole : ∀ lv, 3 ≤ lv → FnNeed ⟨l.prog, w, K, mg, base⟩ (XR1 mg) lv "_law_whole" 1 F__law_whole := fun lv h => need_of (ps := ["_law_found"]) o0 h (PySem.W.mg_of X G a0) k0 b0
  have wn : WholeNeed ⟨l.prog, w, K, mg, base⟩ := whole_need F0 sc__law_whole (PySem.W.mg_of X G a0) b0 (by decide +kernel)
  have F1 := fun_mk (st := st__law_cell_at) l1 c1 k1
  have b1 := F1.binds (ps := ["_law_script", "_law_k"]) fun _ _ _ _ _ _ us hl => match us, hl with | [_, _], _ => rfl
  have o1 : FnOk l.prog w K mg base (L2N.CX l.prog w) 3 f1 _ ["_law_script", "_law_k"] (spT K (XR1 mg) 2 F__law_cell_at) := fn_ok F1 sc__law_cell_at hblt ck__law_cell_at (by (repeat' apply And.intro) <;> first | trivial)
  have n__law_cell_at : ∀ lv, 3 ≤ lv → FnNeed ⟨l.prog, w, K, mg, base⟩ (XR1 mg) lv "_law_cell_at" 2 F__law_cell_at := fun lv h => need_of (ps := ["_law_script", "_law_k"]) o1 h (PySem.W.mg_of X G a1) k1 b1
  have F2 := fun_mk (st := st__law_pen_of) l2 c2 k2
  have b2 := F2.binds (ps := ["_law_cell"]) fun _ _ _ _ _ _ us hl => match us, hl with | [_], _ => rfl
  have o2 : FnOk l.prog w K mg base (L2N.CX l.prog w) 3 f2 _ ["_law_cell"] (spT K (XR1 mg) 1 F__law_pen_of) := fn_ok F2 sc__law_pen_of hblt ck__law_pen_of (by (repeat' apply And.intro) <;> first | trivial)
  have n__law_pen_of : ∀ lv, 3 ≤ lv → FnNeed ⟨l.prog, w, K, mg, base⟩ (XR1 mg) lv "_law_pen_of" 1 F__law_pen_of := fun lv h => need_of (ps := ["_law_cell"]) o2 h (PySem.W.mg_of X G a2) k2 b2
  have F3 := fun_mk (st := st__law_next) l3 c3 k3
  have b3 := F3.binds (ps := ["_law_seed"]) fun _ _ _ _ _ _ us hl => match us, hl with | [_], _ => rfl
  have o3 : FnOk l.prog w K mg base (L2N.CX l.prog w) 3 f3 _ ["_law_seed"] (spT K (XR1 mg) 1 F__law_next) := fn_ok F3 sc__law_next hblt ck__law_next (by (repeat' apply And.intro) <;> first | trivial)
  have n__law_next : ∀ lv, 3 ≤ lv → FnNeed ⟨l.prog, w, K, mg, base⟩ (XR1 mg) lv "_law_next" 1 F__law_next := fun lv h => need_of (ps := ["_law_seed"]) o3 h (PySem.W.mg_of X G a3) k3 b3
  have F4 := fun_mk (st := st__law_draw) l4 c4 k4
  have b4 := F4.binds (ps := ["_law_pen", "_law_many"]) fun _ _ _ _ _ _ us hl => match us, hl with | [_, _], _ => rfl
  have o4 : FnOk l.prog w K mg base (L2N.CX l.prog w) 4 f4 _ ["_law_pen", "_law_many"] (spT K (XR1 mg) 2 F__law_draw) := fn_ok F4 sc__law_draw hblt ck__law_draw (by (repeat' apply And.intro) <;> first | trivial | exact n__law_next _ (by decide))
  have n__law_draw : ∀ lv, 4 ≤ lv → FnNeed ⟨l.prog, w, K, mg, base⟩ (XR1 mg) lv "_law_draw" 2 F__law_draw := fun lv h => need_of (ps := ["_law_pen", "_law_many"]) o4 h (PySem.W.mg_of X G a4) k4 b4
  have F5 := fun_mk (st := st__law_web_of) l5 c5 k5
  have b5 := F5.binds (ps := ["_law_pen", "_law_most"]) fun _ _ _ _ _ _ us hl => match us, hl with | [_, _], _ => rfl
  have o5 : FnOk l.prog w K mg base (L2N.CX l.prog w) 5 f5 _ ["_law_pen", "_law_most"] (spT K (XR1 mg) 2 F__law_web_of) := fn_ok F5 sc__law_web_of hblt ck__law_web_of (by (repeat' apply And.intro) <;> first | trivial | exact n__law_draw _ (by decide))
  have n__law_web_of : ∀ lv, 5 ≤ lv → FnNeed ⟨l.prog, w, K, mg, base⟩ (XR1 mg) lv "_law_web_of" 2 F__law_web_of := fun lv h => need_of (ps := ["_law_pen", "_law_most"]) o5 h (PySem.W.mg_of X G a5) k5 b5
  have F6 := fun_mk (st := st__law_text_of) l6 c6 k6
  have b6 := F6.binds (ps := ["_law_web"]) fun _ _ _ _ _ _ us hl => match us, hl with | [_], _ => rfl
  have o6 : FnOk l.prog w K mg base (L2N.CX l.prog w) 3 f6 _ ["_law_web"] (spT K (XR1 mg) 1 F__law_text_of) := fn_ok F6 sc__law_text_of hblt ck__law_text_of (by (repeat' apply And.intro) <;> first | trivial)
  have n__law_text_of : ∀ lv, 3 ≤ lv → FnNeed ⟨l.prog, w, K, mg, base⟩ (XR1 mg) lv "_law_text_of" 1 F__law_text_of := fun lv h => need_of (ps := ["_law_web"]) o6 h (PySem.W.mg_of X G a6) k6 b6
  have F7 := fun_mk (st := st_number_in) l7 c7 k7
  have b7 := F7.binds (ps := ["word"]) fun _ _ _ _ _ _ us hl => match us, hl with | [_], _ => rfl
  have o7 : FnOk l.prog w K mg base (L2N.CX l.prog w) 3 f7 _ ["word"] (spT K (XR1 mg) 1 F_number_in) := fn_ok F7 sc_number_in hblt ck_number_in (by (repeat' apply And.intro) <;> first | trivial | exact ⟨_, cg0⟩ | exact ⟨_, cg1⟩)
  have n_number_in : ∀ lv, 3 ≤ lv → FnNeed ⟨l.prog, w, K, mg, base⟩ (XR1 mg) lv "number_in" 1 F_number_in := fun lv h => need_of (ps := ["word"]) o7 h (PySem.W.mg_of X G a7) k7 b7
  have F8 := fun_mk (st := st_sizes_in) l8 c8 k8
  have b8 := F8.binds (ps := ["row"]) fun _ _ _ _ _ _ us hl => match us, hl with | [_], _ => rfl
  have o8 : FnOk l.prog w K mg base (L2N.CX l.prog w) 4 f8 _ ["row"] (spT K (XR1 mg) 1 F_sizes_in) := fn_ok F8 sc_sizes_in hblt ck_sizes_in (by (repeat' apply And.intro) <;> first | trivial | exact n_number_in _ (by decide) | exact ⟨_, cg2⟩ | exact ⟨_, cg3⟩)
  have n_sizes_in : ∀ lv, 4 ≤ lv → FnNeed ⟨l.prog, w, K, mg, base⟩ (XR1 mg) lv "sizes_in" 1 F_sizes_in := fun lv h => need_of (ps := ["row"]) o8 h (PySem.W.mg_of X G a8) k8 b8
  have F9 := fun_mk (st := st_is_whole) l9 c9 k9
  have b9 := F9.binds (ps := ["thing"]) fun _ _ _ _ _ _ us hl => match us, hl with | [_], _ => rfl
  have o9 : FnOk l.prog w K mg base (L2N.CX l.prog w) 3 f9 _ ["thing"] (spT K (XR1 mg) 1 F_is_whole) := fn_ok F9 sc_is_whole hblt ck_is_whole (by (repeat' apply And.intro) <;> first | trivial)
  have n_is_whole : ∀ lv, 3 ≤ lv → FnNeed ⟨l.prog, w, K, mg, base⟩ (XR1 mg) lv "is_whole" 1 F_is_whole := fun lv h => need_of (ps := ["thing"]) o9 h (PySem.W.mg_of X G a9) k9 b9
  have F10 := fun_mk (st := st_arrow_good) l10 c10 k10
  have b10 := F10.binds (ps := ["many", "thing"]) fun _ _ _ _ _ _ us hl => match us, hl with | [_, _], _ => rfl
  have o10 : FnOk l.prog w K mg base (L2N.CX l.prog w) 4 f10 _ ["many", "thing"] (spT K (XR1 mg) 2 F_arrow_good) := fn_ok F10 sc_arrow_good hblt ck_arrow_good (by (repeat' apply And.intro) <;> first | trivial | exact n_is_whole _ (by decide) | exact ⟨_, cg4⟩)
  have n_arrow_good : ∀ lv, 4 ≤ lv → FnNeed ⟨l.prog, w, K, mg, base⟩ (XR1 mg) lv "arrow_good" 2 F_arrow_good := fun lv h => need_of (ps := ["many", "thing"]) o10 h (PySem.W.mg_of X G a10) k10 b10
  have F11 := fun_mk (st := st_signed_in) l11 c11 k11
  have b11 := F11.binds (ps := ["word"]) fun _ _ _ _ _ _ us hl => match us, hl with | [_], _ => rfl
  have o11 : FnOk l.prog w K mg base (L2N.CX l.prog w) 4 f11 _ ["word"] (spT K (XR1 mg) 1 F_signed_in) := fn_ok F11 sc_signed_in hblt ck_signed_in (by (repeat' apply And.intro) <;> first | trivial | exact n_number_in _ (by decide))
  have n_signed_in : ∀ lv, 4 ≤ lv → FnNeed ⟨l.prog, w, K, mg, base⟩ (XR1 mg) lv "signed_in" 1 F_signed_in := fun lv h => need_of (ps := ["word"]) o11 h (PySem.W.mg_of X G a11) k11 b11
  have F12 := fun_mk (st := st_arrow_in) l12 c12 k12
  have b12 := F12.binds (ps := ["many", "row"]) fun _ _ _ _ _ _ us hl => match us, hl with | [_, _], _ => rfl
  have o12 : FnOk l.prog w K mg base (L2N.CX l.prog w) 5 f12 _ ["many", "row"] (spT K (XR1 mg) 2 F_arrow_in) := fn_ok F12 sc_arrow_in hblt ck_arrow_in (by (repeat' apply And.intro) <;> first | trivial | exact n_number_in _ (by decide) | exact n_arrow_good _ (by decide) | exact n_signed_in _ (by decide))
  have n_arrow_in : ∀ lv, 5 ≤ lv → FnNeed ⟨l.prog, w, K, mg, base⟩ (XR1 mg) lv "arrow_in" 2 F_arrow_in := fun lv h => need_of (ps := ["many", "row"]) o12 h (PySem.W.mg_of X G a12) k12 b12
  have F13 := fun_mk (st := st_web_read) l13 c13 k13
  have b13 := F13.binds (ps := ["text"]) fun _ _ _ _ _ _ us hl => match us, hl with | [_], _ => rfl
  have o13 : FnOk l.prog w K mg base (L2N.CX l.prog w) 6 f13 _ ["text"] (spT K (XR1 mg) 1 F_web_read) := fn_ok F13 sc_web_read hblt ck_web_read (by (repeat' apply And.intro) <;> first | trivial | exact n_sizes_in _ (by decide) | exact n_arrow_in _ (by decide) | exact rn6 _ (by decide))
  have n_web_read : ∀ lv, 6 ≤ lv → FnNeed ⟨l.prog, w, K, mg, base⟩ (XR1 mg) lv "web_read" 1 F_web_read := fun lv h => need_of (ps := ["text"]) o13 h (PySem.W.mg_of X G a13) k13 b13
  have F14 := fun_mk (st := st__law_told) l14 c14 k14
  have b14 := F14.binds (ps := ["_law_thing"]) fun _ _ _ _ _ _ us hl => match us, hl with | [_], _ => rfl
  have o14 : FnOk l.prog w K mg base (L2N.CX l.prog w) 7 f14 _ ["_law_thing"] (spT K (XR1 mg) 1 F__law_told) := fn_ok F14 sc__law_told hblt ck__law_told (by (repeat' apply And.intro) <;> first | trivial | exact n_web_read _ (by decide) | exact tn _ (by decide) | exact kn | exact wn)
  have n__law_told : ∀ lv, 7 ≤ lv → FnNeed ⟨l.prog, w, K, mg, base⟩ (XR1 mg) lv "_law_told" 1 F__law_told := fun lv h => need_of (ps := ["_law_thing"]) o14 h (PySem.W.mg_of X G a14) k14 b14
  have F15 := fun_mk (st := st__law_value) l15 c15 k15
  have b15 := F15.binds (ps := ["_law_word"]) fun _ _ _ _ _ _ us hl => match us, hl with | [_], _ => rfl
  have o15 : FnOk l.prog w K mg base (L2N.CX l.prog w) 3 f15 _ ["_law_word"] (spT K (XR1 mg) 1 F__law_value) := fn_ok F15 sc__law_value hblt ck__law_value (by (repeat' apply And.intro) <;> first | trivial)
  have n__law_value : ∀ lv, 3 ≤ lv → FnNeed ⟨l.prog, w, K, mg, base⟩ (XR1 mg) lv "_law_value" 1 F__law_value := fun lv h => need_of (ps := ["_law_word"]) o15 h (PySem.W.mg_of X G a15) k15 b15
  have F16 := fun_mk (st := st__law_arrow_in) l16 c16 k16
  have b16 := F16.binds (ps := ["_law_many", "_law_text"]) fun _ _ _ _ _ _ us hl => match us, hl with | [_, _], _ => rfl
  have o16 : FnOk l.prog w K mg base (L2N.CX l.prog w) 4 f16 _ ["_law_many", "_law_text"] (spT K (XR1 mg) 2 F__law_arrow_in) := fn_ok F16 sc__law_arrow_in hblt ck__law_arrow_in (by (repeat' apply And.intro) <;> first | trivial | exact n__law_value _ (by decide))
  have n__law_arrow_in : ∀ lv, 4 ≤ lv → FnNeed ⟨l.prog, w, K, mg, base⟩ (XR1 mg) lv "_law_arrow_in" 2 F__law_arrow_in := fun lv h => need_of (ps := ["_law_many", "_law_text"]) o16 h (PySem.W.mg_of X G a16) k16 b16
  have F17 := fun_mk (st := st__law_due) l17 c17 k17
  have b17 := F17.binds (ps := ["_law_text"]) fun _ _ _ _ _ _ us hl => match us, hl with | [_], _ => rfl
  have o17 : FnOk l.prog w K mg base (L2N.CX l.prog w) 5 f17 _ ["_law_text"] (spT K (XR1 mg) 1 F__law_due) := fn_ok F17 sc__law_due hblt ck__law_due (by (repeat' apply And.intro) <;> first | trivial | exact n__law_value _ (by decide) | exact n__law_arrow_in _ (by decide))
  have n__law_due : ∀ lv, 5 ≤ lv → FnNeed ⟨l.prog, w, K, mg, base⟩ (XR1 mg) lv "_law_due" 1 F__law_due := fun lv h => need_of (ps := ["_law_text"]) o17 h (PySem.W.mg_of X G a17) k17 b17
  have F18 := fun_mk (st := st__law_odd_row) l18 c18 k18
  have b18 := F18.binds (ps := ["_law_pen", "_law_text"]) fun _ _ _ _ _ _ us hl => match us, hl with | [_, _], _ => rfl
  have o18 : FnOk l.prog w K mg base (L2N.CX l.prog w) 5 f18 _ ["_law_pen", "_law_text"] (spT K (XR1 mg) 2 F__law_odd_row) := fn_ok F18 sc__law_odd_row hblt ck__law_odd_row (by (repeat' apply And.intro) <;> first | trivial | exact n__law_draw _ (by decide))
  have n__law_odd_row : ∀ lv, 5 ≤ lv → FnNeed ⟨l.prog, w, K, mg, base⟩ (XR1 mg) lv "_law_odd_row" 2 F__law_odd_row := fun lv h => need_of (ps := ["_law_pen", "_law_text"]) o18 h (PySem.W.mg_of X G a18) k18 b18
  have F19 := fun_mk (st := st__law_spoilt_of) l19 c19 k19
  have b19 := F19.binds (ps := ["_law_pen", "_law_rows"]) fun _ _ _ _ _ _ us hl => match us, hl with | [_, _], _ => rfl
  have o19 : FnOk l.prog w K mg base (L2N.CX l.prog w) 6 f19 _ ["_law_pen", "_law_rows"] (spT K (XR1 mg) 2 F__law_spoilt_of) := fn_ok F19 sc__law_spoilt_of hblt ck__law_spoilt_of (by (repeat' apply And.intro) <;> first | trivial | exact n__law_draw _ (by decide) | exact n__law_odd_row _ (by decide))
  have n__law_spoilt_of : ∀ lv, 6 ≤ lv → FnNeed ⟨l.prog, w, K, mg, base⟩ (XR1 mg) lv "_law_spoilt_of" 2 F__law_spoilt_of := fun lv h => need_of (ps := ["_law_pen", "_law_rows"]) o19 h (PySem.W.mg_of X G a19) k19 b19
  have F20 := fun_mk (st := st_law) l20 c20 k20
  have o20 : FnOk l.prog w K mg base (L2N.CX l.prog w) 8 fa _ ["_law_script"] (spT K (XR1 mg) 1 F_law) := fn_ok F20 sc_law hblt ck_law (by (repeat' apply And.intro) <;> first | trivial | exact n__law_cell_at _ (by decide) | exact n__law_pen_of _ (by decide) | exact n__law_web_of _ (by decide) | exact n__law_text_of _ (by decide) | exact n__law_told _ (by decide) | exact n__law_due _ (by decide) | exact n__law_spoilt_of _ (by decide))
  exact fn_any o20
end K71
open PySem PySem.W PyProof.Rows
set_option maxHeartbeats 0 in
theorem PySem.Challenge.cw_meanrings_k71_texts_that_write_none_holds : PySem.Challenge.rw_meanrings_k71_texts_that_write_none.Holds := by
  w_on; o_law; k_head; (case hw => w_witness2)
  k_fill
  refine L2.walk_of (l := PySem.Challenge.rw_meanrings_k71_texts_that_write_none) (n := 63) (k := 8) (x := "_law_script") (CX := fun w => L2N.CX PySem.Challenge.rw_meanrings_k71_texts_that_write_none.prog w) (sp := fun w => TL.spA _ 1 K71.F_law) rfl (by decide) rfl ⟨rfl, by decide, by decide⟩ (fun w h Y => PySem.W.kIn_of Y) ?F (fun _ _ a ns hl _ hS => (let ⟨_, q⟩ := K71.law_pure ns hl; fun mg => TL.law_sp q hS)) (fun _ _ _ _ _ h => by obtain ⟨_, _, _, _, _, _, _, _, _, _, _, _, z⟩ := h; exact z)
  case F =>
    intro w mg fa h KX G hmg
    refine' K71.all_mk KX G hmg ?a0 ?l0 ?c0 ?k0 ?a1 ?l1 ?c1 ?k1 ?a2 ?l2 ?c2 ?k2 ?a3 ?l3 ?c3 ?k3 ?a4 ?l4 ?c4 ?k4 ?a5 ?l5 ?c5 ?k5 ?a6 ?l6 ?c6 ?k6 ?a7 ?l7 ?c7 ?k7 ?a8 ?l8 ?c8 ?k8 ?a9 ?l9 ?c9 ?k9 ?a10 ?l10 ?c10 ?k10 ?a11 ?l11 ?c11 ?k11 ?a12 ?l12 ?c12 ?k12 ?a13 ?l13 ?c13 ?k13 ?a14 ?l14 ?c14 ?k14 ?a15 ?l15 ?c15 ?k15 ?a16 ?l16 ?c16 ?k16 ?a17 ?l17 ?c17 ?k17 ?a18 ?l18 ?c18 ?k18 ?a19 ?l19 ?c19 ?k19 ?a20 ?l20 ?c20 ?k20 ?z0 ?z1 ?z2 ?z3 ?z4 ?z5 ?z6 ?z7 ?z8 ?z9 ?z10 ?z11 ?z12 ?z13 ?z14 ?z15 ?z16 ?z17 ?z18 ?cst0 ?cst1 ?cst2 ?cst3 ?cst4 ?xg0 ?xg1 ?xg2 ?xg3 ?xg4 ?xg5 ?xg6 ?xg7 ?xgM ?xf ?xL6 ?xs6 ?xi6 ?xt6 ?xl6 ?xc6 ?xk6 ?ak ?lk ?ck ?kk
    (case a0 => k_is); (case l0 => k_is); (case c0 => k_is); (case k0 => k_is); (case a1 => k_is); (case l1 => k_is); (case c1 => k_is); (case k1 => k_is); (case a2 => k_is); (case l2 => k_is); (case c2 => k_is); (case k2 => k_is); (case a3 => k_is); (case l3 => k_is); (case c3 => k_is); (case k3 => k_is); (case a4 => k_is); (case l4 => k_is); (case c4 => k_is); (case k4 => k_is); (case a5 => k_is); (case l5 => k_is); (case c5 => k_is); (case k5 => k_is); (case a6 => k_is); (case l6 => k_is); (case c6 => k_is); (case k6 => k_is); (case a7 => k_is); (case l7 => k_is); (case c7 => k_is); (case k7 => k_is); (case a8 => k_is); (case l8 => k_is); (case c8 => k_is); (case k8 => k_is); (case a9 => k_is); (case l9 => k_is); (case c9 => k_is); (case k9 => k_is); (case a10 => k_is); (case l10 => k_is); (case c10 => k_is); (case k10 => k_is); (case a11 => k_is); (case l11 => k_is); (case c11 => k_is); (case k11 => k_is); (case a12 => k_is); (case l12 => k_is); (case c12 => k_is); (case k12 => k_is); (case a13 => k_is); (case l13 => k_is); (case c13 => k_is); (case k13 => k_is); (case a14 => k_is); (case l14 => k_is); (case c14 => k_is); (case k14 => k_is); (case a15 => k_is); (case l15 => k_is); (case c15 => k_is); (case k15 => k_is); (case a16 => k_is); (case l16 => k_is); (case c16 => k_is); (case k16 => k_is); (case a17 => k_is); (case l17 => k_is); (case c17 => k_is); (case k17 => k_is); (case a18 => k_is); (case l18 => k_is); (case c18 => k_is); (case k18 => k_is); (case a19 => k_is); (case l19 => k_is); (case c19 => k_is); (case k19 => k_is); (case a20 => k_is); (case l20 => k_is); (case c20 => k_is); (case k20 => k_is); (case z0 => k_is); (case z1 => k_is); (case z2 => k_is); (case z3 => k_is); (case z4 => k_is); (case z5 => k_is); (case z6 => k_is); (case z7 => k_is); (case z8 => k_is); (case z9 => k_is); (case z10 => k_is); (case z11 => k_is); (case z12 => k_is); (case z13 => k_is); (case z14 => k_is); (case z15 => k_is); (case z16 => k_is); (case z17 => k_is); (case z18 => k_is); (case cst0 => k_is); (case cst1 => k_is); (case cst2 => k_is); (case cst3 => k_is); (case cst4 => k_is); (case xg0 => k_is); (case xg1 => k_is); (case xg2 => k_is); (case xg3 => k_is); (case xg4 => k_is); (case xg5 => k_is); (case xg6 => k_is); (case xg7 => k_is); (case xgM => k_is); (case xf => kernel_rfl); (case xL6 => k_is); (case xs6 => k_is); (case xi6 => k_is); (case xt6 => k_is); (case xl6 => k_is); (case xc6 => k_is); (case xk6 => k_is); (case ak => k_is); (case lk => k_is); (case ck => k_is); (case kk => k_is)
