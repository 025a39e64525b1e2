import PyProof.Rows.All
import Wide.All
import OpenK.AllK
import Wide.FinOn
import PyProof.EqAt
import PyProof.EqKinds
import PyProof.TupleCall
import HandS.Base
import HandS.Call
import HandS.List
import HandS.Comp
import HandS.Ends
import HandS.Dict
import HandS.Iter
import HandS.Text
import HandS.Words
import HandS.Exc
import KE.KeyNested
import KE.KDictKeyed
import HandS.WordsDict
import HandS.TupAny
import HandS.TupLe
import HandS.Deep
import HandS.Wide
import HandS.IsInst
import HandS.More
import HandS.SetFor
import HandS.SortInts
import HandS.TupLen
import KE.SortData
import HandS.Set
import PyProof.Rows.SetFrom
import HandS.TupMul
import KE.DataCmp
import HandS.Remove
import HandS.TryOnly
import KE.KDictCopyH
import KE.KDictSum
import PyProof.WalksMore
import HandS.RaiseMore
import HandS.Rev
import HandS.Style
import KE.DataFind
import PyProof.ListNew
import PyProof.StrLawsTight
import PyProof.FitsReplace
import PySem.Challenge.RW_pathask_k10_patterns_written_and_read
set_option Elab.async false
set_option linter.all false
set_option maxRecDepth 100000
set_option maxHeartbeats 4000000
/-! Dat1: the data layer's base. A value is a plain tree (a tuple is its items); lists, dicts, instances stand at
addresses of a data heap. Readings are over slots of such values and the data heap. -/
namespace Dt
open PySem PySem.Spec L2

/-! ### the abstract heap grows -/
structure LeH (H H' : Hp) : Prop where
  tup : ∀ p xs, H p = some (.tup xs) → H' p = some (.tup xs)
  fl : ∀ p o xs, H p = some (.frz o (.lst xs)) → H' p = some (.frz o (.lst xs))
  ft : ∀ p o xs, H p = some (.frz o (.tup xs)) → H' p = some (.frz o (.tup xs))
theorem LeH.refl (H : Hp) : LeH H H := ⟨fun _ _ h => h, fun _ _ _ h => h, fun _ _ _ h => h⟩
theorem LeH.trans {H1 H2 H3 : Hp} (a : LeH H1 H2) (b : LeH H2 H3) : LeH H1 H3 :=
  ⟨fun p xs h => b.tup p xs (a.tup p xs h), fun p o xs h => b.fl p o xs (a.fl p o xs h), fun p o xs h => b.ft p o xs (a.ft p o xs h)⟩
theorem LeH.new {H : Hp} {p : Addr} {o : HO} (h : H p = none) : LeH H (upd H p o) :=
  ⟨fun q xs e => by rw [upd_ne (ne_of_none e h)]; exact e, fun q u xs e => by rw [upd_ne (ne_of_none e h)]; exact e, fun q u xs e => by rw [upd_ne (ne_of_none e h)]; exact e⟩
theorem LeH.put {H : Hp} {p : Addr} {o u : HO} (h : H p = some u) (m : Mut (some u)) : LeH H (upd H p o) := by
  have k : ∀ q v, H q = some v → ¬ Mut (some v) → q ≠ p := fun q v e n z => by
    subst z
    rw [h] at e
    cases e
    exact n m
  exact ⟨fun q xs e => by rw [upd_ne (k q _ e fun z => z)]; exact e, fun q u xs e => by rw [upd_ne (k q _ e fun z => z)]; exact e, fun q u xs e => by rw [upd_ne (k q _ e fun z => z)]; exact e⟩

/-! ### data -/
inductive D where
  | non | bl (b : Bool) | int (i : Int) | str (x : Str) | tup (xs : List D) | rol (xs : List D) | ref (a : Addr)

/-- a list that is read alone, for good -/
def SqR (K : PySem.W.Frag) (H : Hp) (a : Addr) (xs : List V) : Prop :=
  (∃ o, H a = some (.frz o (.lst xs))) ∨
    ∃ (its : Array Value) (n : Nat), K.lookup a = some { cls := .type "list", data := .seq its n } ∧ its.size ≤ sizeLine ∧ Vals xs its.toList
theorem SqR.l {K : PySem.W.Frag} {H : Hp} {a : Addr} {xs : List V} (h : SqR K H a xs) : SqL K H a xs := h.elim (fun z => .inl (.inr z)) fun ⟨its, n, e, hz, r⟩ => .inr ⟨_, its, n, e, rfl, rfl, rfl, hz, r⟩
theorem SqR.le {K : PySem.W.Frag} {H H' : Hp} {a : Addr} {xs : List V} (le : LeH H H') (h : SqR K H a xs) : SqR K H' a xs :=
  h.elim (fun ⟨o, e⟩ => .inl ⟨o, le.fl _ _ _ e⟩) .inr
theorem sqT_le {K : PySem.W.Frag} {H H' : Hp} {a : Addr} {xs : List V} (le : LeH H H') (h : SqT K H a xs) : SqT K H' a xs := by
  rcases h with (h | ⟨o, h⟩) | h
  · exact .inl (.inl (le.tup _ _ h))
  · exact .inl (.inr ⟨o, le.ft _ _ _ h⟩)
  · exact .inr h

mutual
def RD (K : PySem.W.Frag) (H : Hp) : D → V → Prop
  | .non, v => v = .non
  | .bl b, v => v = .bl b
  | .int i, v => v = .int i
  | .str x, v => v = .str x
  | .tup ds, v => ∃ p xs, v = .ref p ∧ SqT K H p xs ∧ RDs K H ds xs
  | .rol ds, v => ∃ p xs, v = .ref p ∧ SqR K H p xs ∧ RDs K H ds xs
  | .ref a, v => v = .ref a
def RDs (K : PySem.W.Frag) (H : Hp) : List D → List V → Prop
  | [], vs => vs = []
  | d :: ds, vs => ∃ v r, vs = v :: r ∧ RD K H d v ∧ RDs K H ds r
end

section
variable {w : World} {K : PySem.W.Frag} {H H' : Hp}
mutual
theorem RD.le (le : LeH H H') : ∀ {d : D} {v : V}, RD K H d v → RD K H' d v
  | .non, _, h => h
  | .bl _, _, h => h
  | .int _, _, h => h
  | .str _, _, h => h
  | .tup ds, _, h => by
    obtain ⟨p, xs, e, t, r⟩ : ∃ p xs, _ = V.ref p ∧ SqT K H p xs ∧ RDs K H ds xs := h
    exact ⟨p, xs, e, sqT_le le t, RDs.le le r⟩
  | .rol ds, _, h => by
    obtain ⟨p, xs, e, t, r⟩ : ∃ p xs, _ = V.ref p ∧ SqR K H p xs ∧ RDs K H ds xs := h
    exact ⟨p, xs, e, t.le le, RDs.le le r⟩
  | .ref _, _, h => h
theorem RDs.le (le : LeH H H') : ∀ {ds : List D} {vs : List V}, RDs K H ds vs → RDs K H' ds vs
  | [], _, h => h
  | _ :: _, _, h => by
    obtain ⟨v, r, e, h1, h2⟩ := h
    exact ⟨v, r, e, RD.le le h1, RDs.le le h2⟩
end
theorem RDs.nil : RDs K H [] [] := rfl
theorem RDs.cons {d : D} {ds : List D} {v : V} {vs : List V} (a : RD K H d v) (b : RDs K H ds vs) : RDs K H (d :: ds) (v :: vs) := ⟨v, vs, rfl, a, b⟩
theorem RDs.length : ∀ {ds : List D} {vs : List V}, RDs K H ds vs → ds.length = vs.length
  | [], _, h => by cases h; rfl
  | _ :: ds, _, h => by
    obtain ⟨v, r, rfl, _, h2⟩ := h
    simp [RDs.length h2]
theorem RDs.get : ∀ {ds : List D} {vs : List V} {i : Nat} {d : D}, RDs K H ds vs → ds[i]? = some d → ∃ v, vs[i]? = some v ∧ RD K H d v
  | [], _, _, _, _, e => by simp at e
  | _ :: _, _, 0, _, h, e => by
    obtain ⟨v, r, rfl, h1, h2⟩ := h
    simp at e
    subst e
    exact ⟨v, rfl, h1⟩
  | _ :: ds, _, i + 1, _, h, e => by
    obtain ⟨v, r, rfl, h1, h2⟩ := h
    obtain ⟨u, e1, e2⟩ := RDs.get (i := i) h2 (by simpa using e)
    exact ⟨u, by simpa using e1, e2⟩
theorem RDs.got : ∀ {ds : List D} {vs : List V} {i : Nat} {v : V}, RDs K H ds vs → vs[i]? = some v → ∃ d, ds[i]? = some d ∧ RD K H d v
  | [], _, _, _, h, e => by cases h; simp at e
  | _ :: _, _, 0, _, h, e => by
    obtain ⟨v, r, rfl, h1, h2⟩ := h
    simp at e
    subst e
    exact ⟨_, rfl, h1⟩
  | _ :: ds, _, i + 1, _, h, e => by
    obtain ⟨v, r, rfl, h1, h2⟩ := h
    obtain ⟨u, e1, e2⟩ := RDs.got (i := i) h2 (by simpa using e)
    exact ⟨u, by simpa using e1, e2⟩
theorem RDs.append : ∀ {ds es : List D} {vs us : List V}, RDs K H ds vs → RDs K H es us → RDs K H (ds ++ es) (vs ++ us)
  | [], _, _, _, h, k => by cases h; exact k
  | _ :: _, _, _, _, h, k => by
    obtain ⟨v, r, rfl, h1, h2⟩ := h
    exact ⟨v, r ++ _, rfl, h1, RDs.append h2 k⟩
theorem RDs.snoc {ds : List D} {vs : List V} {d : D} {v : V} (h : RDs K H ds vs) (k : RD K H d v) : RDs K H (ds ++ [d]) (vs ++ [v]) := h.append (.cons k .nil)
theorem RDs.set : ∀ {ds : List D} {vs : List V} {d : D} {v : V} (i : Nat), RDs K H ds vs → RD K H d v → RDs K H (ds.set i d) (vs.set i v)
  | [], _, _, _, _, h, _ => by cases h; rfl
  | _ :: _, _, _, _, 0, h, k => by
    obtain ⟨v, r, rfl, h1, h2⟩ := h
    exact ⟨_, r, rfl, k, h2⟩
  | _ :: _, _, _, _, i + 1, h, k => by
    obtain ⟨v, r, rfl, h1, h2⟩ := h
    exact ⟨v, _, rfl, h1, RDs.set i h2 k⟩
theorem RDs.take : ∀ {ds : List D} {vs : List V} (n : Nat), RDs K H ds vs → RDs K H (ds.take n) (vs.take n)
  | [], _, _, h => by cases h; simp [RDs]
  | _ :: _, _, 0, h => by simp [RDs]
  | _ :: _, _, n + 1, h => by
    obtain ⟨v, r, rfl, h1, h2⟩ := h
    exact ⟨v, _, rfl, h1, RDs.take n h2⟩
theorem RDs.drop : ∀ {ds : List D} {vs : List V} (n : Nat), RDs K H ds vs → RDs K H (ds.drop n) (vs.drop n)
  | [], _, _, h => by cases h; simp [RDs]
  | _ :: _, _, 0, h => h
  | _ :: _, _, n + 1, h => by
    obtain ⟨v, r, rfl, h1, h2⟩ := h
    exact RDs.drop n h2
theorem RDs.reverse : ∀ {ds : List D} {vs : List V}, RDs K H ds vs → RDs K H ds.reverse vs.reverse
  | [], _, h => by cases h; rfl
  | _ :: _, _, h => by
    obtain ⟨v, r, rfl, h1, h2⟩ := h
    rw [List.reverse_cons, List.reverse_cons]
    exact (RDs.reverse h2).snoc h1
theorem RDs.dropLast : ∀ {ds : List D} {vs : List V}, RDs K H ds vs → RDs K H ds.dropLast vs.dropLast := fun {ds vs} h => by
  rw [List.dropLast_eq_take, List.dropLast_eq_take, h.length]
  exact h.take _
theorem RDs.eraseIdx : ∀ {ds : List D} {vs : List V} (n : Nat), RDs K H ds vs → RDs K H (ds.eraseIdx n) (vs.eraseIdx n)
  | [], _, _, h => by cases h; rfl
  | _ :: _, _, 0, h => by
    obtain ⟨v, r, rfl, h1, h2⟩ := h
    exact h2
  | _ :: _, _, n + 1, h => by
    obtain ⟨v, r, rfl, h1, h2⟩ := h
    exact ⟨v, _, rfl, h1, RDs.eraseIdx n h2⟩
theorem RDs.ints : ∀ {ns : List Int} {vs : List V}, RDs K H (ns.map D.int) vs ↔ vs = ns.map V.int
  | [], _ => Iff.rfl
  | n :: ns, vs => by
    constructor
    · rintro ⟨v, r, rfl, h1, h2⟩
      cases h1
      rw [RDs.ints.mp h2]
      rfl
    · rintro rfl
      exact ⟨_, _, rfl, rfl, RDs.ints.mpr rfl⟩
theorem RDs.strs : ∀ {ns : List Str} {vs : List V}, RDs K H (ns.map D.str) vs ↔ vs = ns.map V.str
  | [], _ => Iff.rfl
  | n :: ns, vs => by
    constructor
    · rintro ⟨v, r, rfl, h1, h2⟩
      cases h1
      rw [RDs.strs.mp h2]
      rfl
    · rintro rfl
      exact ⟨_, _, rfl, rfl, RDs.strs.mpr rfl⟩
theorem RDs.bls : ∀ {ns : List Bool} {vs : List V}, RDs K H (ns.map D.bl) vs ↔ vs = ns.map V.bl
  | [], _ => Iff.rfl
  | n :: ns, vs => by
    constructor
    · rintro ⟨v, r, rfl, h1, h2⟩
      cases h1
      rw [RDs.bls.mp h2]
      rfl
    · rintro rfl
      exact ⟨_, _, rfl, rfl, RDs.bls.mpr rfl⟩
end

/-! ### tables -/
section
variable {κ α : Type} [DecidableEq κ]
def lk : List (κ × α) → κ → Option α
  | [], _ => none
  | (j, v) :: r, k => if j = k then some v else lk r k
def pt (l : List (κ × α)) (k : κ) (v : α) : List (κ × α) :=
  if (lk l k).isSome then l.map (fun q => if q.1 = k then (q.1, v) else q) else l ++ [(k, v)]
def dr (l : List (κ × α)) (k : κ) : List (κ × α) := l.filter fun q => decide (q.1 ≠ k)
end
def RKs {κ : Type} (K : PySem.W.Frag) (H : Hp) : List (κ × D) → List (κ × V) → Prop
  | [], ws => ws = []
  | (k, d) :: r, ws => ∃ v s, ws = (k, v) :: s ∧ RD K H d v ∧ RKs K H r s
section
variable {w : World} {K : PySem.W.Frag} {H H' : Hp} {κ : Type}
theorem RKs.le (le : LeH H H') : ∀ {kvs : List (κ × D)} {ws : List (κ × V)}, RKs K H kvs ws → RKs K H' kvs ws
  | [], _, h => h
  | (_, _) :: _, _, h => by
    obtain ⟨v, r, e, h1, h2⟩ := h
    exact ⟨v, r, e, h1.le le, RKs.le le h2⟩
theorem RKs.length : ∀ {kvs : List (κ × D)} {ws : List (κ × V)}, RKs K H kvs ws → kvs.length = ws.length
  | [], _, h => by cases h; rfl
  | (_, _) :: _, _, h => by
    obtain ⟨v, r, rfl, h1, h2⟩ := h
    simp [RKs.length h2]
theorem RKs.append : ∀ {kvs ls : List (κ × D)} {ws us : List (κ × V)}, RKs K H kvs ws → RKs K H ls us → RKs K H (kvs ++ ls) (ws ++ us)
  | [], _, _, _, h, k => by cases h; exact k
  | (_, _) :: _, _, _, _, h, k => by
    obtain ⟨v, r, rfl, h1, h2⟩ := h
    exact ⟨v, r ++ _, rfl, h1, RKs.append h2 k⟩
theorem RKs.get : ∀ {kvs : List (κ × D)} {ws : List (κ × V)} {i : Nat} {k : κ} {v : V}, RKs K H kvs ws → ws[i]? = some (k, v) → ∃ d, kvs[i]? = some (k, d) ∧ RD K H d v
  | [], _, _, _, _, h, e => by cases h; simp at e
  | (_, _) :: _, _, 0, _, _, h, e => by
    obtain ⟨v, r, rfl, h1, h2⟩ := h
    simp at e
    obtain ⟨rfl, rfl⟩ := e
    exact ⟨_, rfl, h1⟩
  | (_, _) :: _, _, i + 1, _, _, h, e => by
    obtain ⟨v, r, rfl, h1, h2⟩ := h
    obtain ⟨u, e1, e2⟩ := RKs.get (i := i) h2 (by simpa using e)
    exact ⟨u, by simpa using e1, e2⟩
variable [DecidableEq κ]
theorem RKs.lk : ∀ {kvs : List (κ × D)} {ws : List (κ × V)} (k : κ), RKs K H kvs ws → match Dt.lk kvs k, valV ws k with | some d, some v => RD K H d v | none, none => True | _, _ => False
  | [], _, k, h => by cases h; simp [Dt.lk, valV]
  | (j, d) :: r, _, k, h => by
    obtain ⟨v, s, rfl, h1, h2⟩ := h
    by_cases e : j = k
    · rw [valV_pos e]
      simp [Dt.lk, e, h1]
    · rw [valV_neg e]
      simp only [Dt.lk, if_neg e]
      exact RKs.lk k h2
theorem RKs.nn {kvs : List (κ × D)} {ws : List (κ × V)} {k : κ} (h : RKs K H kvs ws) (e : Dt.lk kvs k = none) : valV ws k = none := by
  have := h.lk k
  rw [e] at this
  cases q : valV ws k with
  | none => rfl
  | some v => rw [q] at this; exact this.elim
theorem RKs.ss {kvs : List (κ × D)} {ws : List (κ × V)} {k : κ} {d : D} (h : RKs K H kvs ws) (e : Dt.lk kvs k = some d) : ∃ v, valV ws k = some v ∧ RD K H d v := by
  have := h.lk k
  rw [e] at this
  cases q : valV ws k with
  | none => rw [q] at this; exact this.elim
  | some v => rw [q] at this; exact ⟨v, rfl, this⟩
theorem RKs.isSome {kvs : List (κ × D)} {ws : List (κ × V)} (k : κ) (h : RKs K H kvs ws) : (valV ws k).isSome = (Dt.lk kvs k).isSome := by
  cases e : Dt.lk kvs k with
  | none => rw [h.nn e]; rfl
  | some d =>
    obtain ⟨v, q, _⟩ := h.ss e
    rw [q]
    rfl
theorem RKs.mapv {k : κ} {d : D} {v : V} (rv : RD K H d v) : ∀ {kvs : List (κ × D)} {ws : List (κ × V)}, RKs K H kvs ws →
    RKs K H (kvs.map fun q => if q.1 = k then (q.1, d) else q) (ws.map fun q => if q.1 = k then (q.1, v) else q)
  | [], _, h => by cases h; rfl
  | (j, _) :: _, _, h => by
    obtain ⟨w, s, rfl, h1, h2⟩ := h
    by_cases e : j = k
    · simp only [List.map_cons, if_pos e]
      exact ⟨v, _, rfl, rv, RKs.mapv rv h2⟩
    · simp only [List.map_cons, if_neg e]
      exact ⟨w, _, rfl, h1, RKs.mapv rv h2⟩
theorem RKs.pt {kvs : List (κ × D)} {ws : List (κ × V)} {k : κ} {d : D} {v : V} (h : RKs K H kvs ws) (rv : RD K H d v) : RKs K H (Dt.pt kvs k d) (putK ws k v) := by
  unfold Dt.pt putK
  rw [valV_any, h.isSome k]
  split
  · exact RKs.mapv rv h
  · exact h.append ⟨v, [], rfl, rv, rfl⟩
theorem RKs.dr {k : κ} : ∀ {kvs : List (κ × D)} {ws : List (κ × V)}, RKs K H kvs ws → RKs K H (Dt.dr kvs k) (dropK ws k)
  | [], _, h => by cases h; rfl
  | (j, _) :: _, _, h => by
    obtain ⟨w, s, rfl, h1, h2⟩ := h
    unfold Dt.dr dropK
    by_cases e : j = k
    · simp only [List.filter_cons, decide_eq_true_eq, ne_eq, e, not_true, decide_false, Bool.false_eq_true, if_false]
      exact RKs.dr h2
    · simp only [List.filter_cons, decide_eq_true_eq, ne_eq, e, not_false_eq_true, decide_true, if_true]
      exact ⟨w, _, rfl, h1, RKs.dr h2⟩
end

/-! ### data may be told apart -/
mutual
def deq : D → D → Bool
  | .non, .non => true
  | .bl a, .bl b => decide (a = b)
  | .int a, .int b => decide (a = b)
  | .str a, .str b => decide (a = b)
  | .tup a, .tup b => deqs a b
  | .rol a, .rol b => deqs a b
  | .ref a, .ref b => decide (a = b)
  | _, _ => false
def deqs : List D → List D → Bool
  | [], [] => true
  | a :: as, b :: bs => deq a b && deqs as bs
  | _, _ => false
end
mutual
theorem deq_self : ∀ a : D, deq a a = true
  | .non => rfl
  | .bl a => by simp [deq]
  | .int a => by simp [deq]
  | .str a => by simp [deq]
  | .tup a => by rw [deq]; exact deqs_self a
  | .rol a => by rw [deq]; exact deqs_self a
  | .ref a => by simp [deq]
theorem deqs_self : ∀ a : List D, deqs a a = true
  | [] => rfl
  | a :: as => by rw [deqs, deq_self a, deqs_self as]; rfl
end
mutual
theorem of_deq : ∀ a b : D, deq a b = true → a = b
  | .non, b, h => by cases b <;> simp [deq] at h; rfl
  | .bl a, b, h => by cases b <;> simp [deq] at h; rw [h]
  | .int a, b, h => by cases b <;> simp [deq] at h; rw [h]
  | .str a, b, h => by cases b <;> simp [deq] at h; rw [h]
  | .tup a, b, h => by
    cases b <;> simp [deq] at h
    rw [of_deqs a _ h]
  | .rol a, b, h => by
    cases b <;> simp [deq] at h
    rw [of_deqs a _ h]
  | .ref a, b, h => by cases b <;> simp [deq] at h; rw [h]
theorem of_deqs : ∀ a b : List D, deqs a b = true → a = b
  | [], b, h => by cases b <;> simp [deqs] at h; rfl
  | x :: xs, b, h => by
    cases b with
    | nil => simp [deqs] at h
    | cons y ys =>
      simp [deqs] at h
      rw [of_deq x y h.1, of_deqs xs ys h.2]
end
instance : DecidableEq D := fun a b => if h : deq a b = true then .isTrue (of_deq a b h) else .isFalse fun e => h (e ▸ deq_self a)
/-! ### keys that are tuples -/
mutual
def nkey : D → Option NestedKey
  | .non => some .none
  | .int i => some (.num i)
  | .str x => some (.text x)
  | .tup ds => match nkeys ds with | some ks => some (.tup ks) | none => none
  | _ => none
def nkeys : List D → Option (List NestedKey)
  | [] => some []
  | d :: ds => match nkey d, nkeys ds with | some k, some ks => some (k :: ks) | _, _ => none
end
mutual
theorem nkey_inj : ∀ (a b : D) (k : NestedKey), nkey a = some k → nkey b = some k → a = b
  | .non, b, k, h, h' => by
    simp only [nkey, Option.some.injEq] at h
    subst h
    cases b with
    | tup ds => simp only [nkey] at h'; split at h' <;> cases h'
    | non => rfl
    | _ => simp [nkey] at h'
  | .int i, b, k, h, h' => by
    simp only [nkey, Option.some.injEq] at h
    subst h
    cases b with
    | tup ds => simp only [nkey] at h'; split at h' <;> cases h'
    | int j => simp [nkey] at h'; rw [h']
    | _ => simp [nkey] at h'
  | .str i, b, k, h, h' => by
    simp only [nkey, Option.some.injEq] at h
    subst h
    cases b with
    | tup ds => simp only [nkey] at h'; split at h' <;> cases h'
    | str j => simp [nkey] at h'; rw [h']
    | _ => simp [nkey] at h'
  | .tup ds, b, k, h, h' => by
    simp only [nkey] at h
    split at h
    · rename_i ks e
      cases h
      cases b with
      | tup es =>
        simp only [nkey] at h'
        split at h'
        · rename_i ks' e'
          cases h'
          rw [nkeys_inj ds es _ e e']
        · cases h'
      | _ => simp [nkey] at h'
    · cases h
  | .bl _, _, _, h, _ => by simp [nkey] at h
  | .rol _, _, _, h, _ => by simp [nkey] at h
  | .ref _, _, _, h, _ => by simp [nkey] at h
theorem nkeys_inj : ∀ (a b : List D) (k : List NestedKey), nkeys a = some k → nkeys b = some k → a = b
  | [], b, k, h, h' => by
    simp only [nkeys, Option.some.injEq] at h
    subst h
    cases b with
    | nil => rfl
    | cons y ys => simp only [nkeys] at h'; split at h' <;> cases h'
  | x :: xs, b, k, h, h' => by
    simp only [nkeys] at h
    split at h
    · rename_i k1 ks e1 e2
      cases h
      cases b with
      | nil => simp [nkeys] at h'
      | cons y ys =>
        simp only [nkeys] at h'
        split at h'
        · rename_i k2 ks2 f1 f2
          cases h'
          rw [nkey_inj x y _ e1 f1, nkeys_inj xs ys _ e2 f2]
        · cases h'
    · cases h
end
/-- a dict's rows as they lie: the key, its address, the value -/
def RawRows (w : World) (rows : List (NestedKey × Addr × V)) (a : Addr) (h : Heap) : Prop := (a == sysModules) = false ∧ ∃ o es ep, h.get? a = some o ∧ o.ExactDict ∧ o.data = .dict es ep ∧
  Paired (fun (r : NestedKey × Addr × V) (e : DictEntry) => e.hash = r.1.hash w ∧ e.key = .ref r.2.1 ∧ RelV r.2.2 e.val) rows es.toList
abbrev dnHO (w : World) (rows : List (NestedKey × Addr × V)) (a : Addr) : HO := .ext (RawRows w rows a)
/-- rows beside keys and values -/
def RRows (K : PySem.W.Frag) (H : Hp) : List (D × D) → List (NestedKey × Addr × V) → Prop
  | [], rows => rows = []
  | (k, d) :: r, rows => ∃ nk b v s, rows = (nk, b, v) :: s ∧ nkey k = some nk ∧ nk.depth ≤ 8 ∧ RD K H k (.ref b) ∧ RD K H d v ∧ RRows K H r s
theorem RRows.le {K : PySem.W.Frag} {H H' : Hp} (le : LeH H H') : ∀ {kvs : List (D × D)} {rows : List (NestedKey × Addr × V)}, RRows K H kvs rows → RRows K H' kvs rows
  | [], _, h => h
  | (_, _) :: _, _, ⟨nk, b, v, s, e, e1, e2, r1, r2, h⟩ => ⟨nk, b, v, s, e, e1, e2, r1.le le, r2.le le, RRows.le le h⟩
/-! ### the data heap -/
inductive Ob where
  | lst (xs : List D) | dK (kvs : List (Key × D)) | dN (kvs : List (D × D)) | ins (C : Addr) (fs : List (Str × D))
abbrev DH := Addr → Option Ob
def upo (S : DH) (a : Addr) (o : Ob) : DH := fun b => if b = a then some o else S b
@[simp] theorem upo_same {S : DH} {a : Addr} {o : Ob} : upo S a o a = some o := if_pos rfl
theorem upo_ne {S : DH} {a b : Addr} {o : Ob} (h : b ≠ a) : upo S a o b = S b := if_neg h
@[simp] theorem upo_upo {S : DH} {a : Addr} {o u : Ob} : upo (upo S a o) a u = upo S a u := by
  funext b
  unfold upo
  split <;> rfl
/-- a new object o: p its address, the heap with it -/
def newO (S : DH) (o : Ob) (Q : Addr → DH → Prop) : Prop := ∀ p, S p = none → Q p (upo S p o)
theorem newO_mono {S : DH} {o : Ob} {Q Q' : Addr → DH → Prop} (k : ∀ p S', Q p S' → Q' p S') (h : newO S o Q) : newO S o Q' := fun p hp => k _ _ (h p hp)
def ROb (w : World) (K : PySem.W.Frag) (H : Hp) (a : Addr) : Ob → Prop
  | .lst ds => ∃ xs, H a = some (.lst xs) ∧ RDs K H ds xs
  | .dK kvs => ∃ ws, H a = some (.dK ws) ∧ RKs K H kvs ws
  | .dN kvs => ∃ rows, H a = some (dnHO w rows a) ∧ kvs.length ≤ sizeLine ∧ (kvs.map (·.1)).Nodup ∧ RRows K H kvs rows
  | .ins C fs => ∃ dx ws, H a = some (.ins C dx ws) ∧ RKs K H fs ws
def Rep (w : World) (K : PySem.W.Frag) (S : DH) (H : Hp) : Prop := ∀ a o, S a = some o → ROb w K H a o
section
variable {w : World} {K : PySem.W.Frag} {H H' : Hp} {S : DH} {a p : Addr} {o : Ob}
theorem ROb.mut (h : ROb w K H a o) : ∃ u, H a = some u ∧ Mut (some u) := by
  cases o with
  | lst _ => obtain ⟨xs, e, _⟩ := h; exact ⟨_, e, trivial⟩
  | dK _ => obtain ⟨xs, e, _⟩ := h; exact ⟨_, e, trivial⟩
  | dN _ => obtain ⟨xs, e, _⟩ := h; exact ⟨_, e, trivial⟩
  | ins _ _ => obtain ⟨dx, xs, e, _⟩ := h; exact ⟨_, e, trivial⟩
theorem ROb.at (h : ROb w K H a o) (le : LeH H H') (e : H' a = H a) : ROb w K H' a o := by
  cases o with
  | lst _ => obtain ⟨xs, q, r⟩ := h; exact ⟨xs, e.trans q, r.le le⟩
  | dK _ => obtain ⟨xs, q, r⟩ := h; exact ⟨xs, e.trans q, r.le le⟩
  | dN _ => obtain ⟨xs, q, l, n, r⟩ := h; exact ⟨xs, e.trans q, l, n, r.le le⟩
  | ins _ _ => obtain ⟨dx, xs, q, r⟩ := h; exact ⟨dx, xs, e.trans q, r.le le⟩
theorem Rep.free (r : Rep w K S H) (h : H p = none) : S p = none := by
  cases e : S p with
  | none => rfl
  | some o =>
    obtain ⟨u, q, _⟩ := (r p o e).mut
    rw [h] at q
    cases q
/-- a new object that the data heap does not tell -/
theorem Rep.garb {u : HO} (r : Rep w K S H) (h : H p = none) : Rep w K S (upd H p u) := fun b o e => by
  obtain ⟨v, q, _⟩ := (r b o e).mut
  exact (r b o e).at (LeH.new h) (upd_ne (ne_of_none q h))
theorem Rep.new {u : HO} (r : Rep w K S H) (h : H p = none) (n : ROb w K (upd H p u) p o) : Rep w K (upo S p o) (upd H p u) := fun b ob e => by
  by_cases z : b = p
  · subst z
    rw [upo_same] at e
    cases e
    exact n
  · rw [upo_ne z] at e
    exact (r b ob e).at (LeH.new h) (upd_ne z)
theorem Rep.put {u v : HO} (r : Rep w K S H) (h : H p = some v) (m : Mut (some v)) (n : ROb w K (upd H p u) p o) : Rep w K (upo S p o) (upd H p u) := fun b ob e => by
  by_cases z : b = p
  · subst z
    rw [upo_same] at e
    cases e
    exact n
  · rw [upo_ne z] at e
    exact (r b ob e).at (LeH.put h m) (upd_ne z)
end

def opt {α : Type} (o : Option α) (k : α → Prop) : Prop := match o with | some x => k x | none => False
@[simp] theorem opt_some {α : Type} (x : α) (k : α → Prop) : opt (some x) k = k x := rfl
@[simp] theorem opt_none {α : Type} (k : α → Prop) : opt none k = False := rfl
theorem opt_mono {α : Type} {o : Option α} {k k' : α → Prop} (h : ∀ x, k x → k' x) (q : opt o k) : opt o k' := by
  cases o with
  | none => exact q
  | some x => exact h x q
theorem opt_ex {α : Type} {o : Option α} {k : α → Prop} (q : opt o k) : ∃ x, o = some x ∧ k x := by
  cases o with
  | none => exact q.elim
  | some x => exact ⟨x, rfl, q⟩
/-- the items of a list -/
def seqD (S : DH) (d : D) : Option (List D) := match d with
  | .rol xs => some xs
  | .ref a => (match S a with | some (.lst xs) => some xs | _ => none)
  | _ => none
section
variable {S : DH}
@[simp] theorem seqD_rol (xs : List D) : seqD S (.rol xs) = some xs := rfl
@[simp] theorem seqD_ref (a : Addr) : seqD S (.ref a) = (match S a with | some (.lst xs) => some xs | _ => none) := rfl
@[simp] theorem seqD_tup (xs : List D) : seqD S (.tup xs) = none := rfl
@[simp] theorem seqD_str (xs : Str) : seqD S (.str xs) = none := rfl
@[simp] theorem seqD_int (xs : Int) : seqD S (.int xs) = none := rfl
@[simp] theorem seqD_non : seqD S .non = none := rfl
@[simp] theorem seqD_bl (b : Bool) : seqD S (.bl b) = none := rfl
end
/-- a list of ours, written or not -/
def SqX (K : PySem.W.Frag) (H : Hp) (a : Addr) (xs : List V) : Prop := H a = some (.lst xs) ∨ SqR K H a xs
theorem SqX.l {K : PySem.W.Frag} {H : Hp} {a : Addr} {xs : List V} (h : SqX K H a xs) : SqL K H a xs := h.elim (fun z => .inl (.inl z)) SqR.l
theorem seqD_rd {w : World} {K : PySem.W.Frag} {S : DH} {H : Hp} {d : D} {v : V} {ds : List D} (rep : Rep w K S H) (rd : RD K H d v) (e : seqD S d = some ds) : ∃ a xs, v = .ref a ∧ SqX K H a xs ∧ RDs K H ds xs := by
  cases d with
  | rol xs =>
    cases e
    obtain ⟨p, ys, rfl, sq, rs⟩ : ∃ p xs, v = V.ref p ∧ SqR K H p xs ∧ RDs K H ds xs := rd
    exact ⟨p, ys, rfl, .inr sq, rs⟩
  | ref a =>
    simp only [seqD_ref] at e
    split at e
    · rename_i xs ea
      cases e
      obtain ⟨ys, e0, rs⟩ : ∃ ys, H a = some (.lst ys) ∧ RDs K H ds ys := rep a _ ea
      exact ⟨a, ys, rd, .inl e0, rs⟩
    · cases e
  | _ => simp at e
theorem sqX_get {X : Cx} {pins : List (Addr × Obj)} {σ : L2.St} {H : Hp} {s : Shared} {a : Addr} {xs : List V} (I : Inv X pins σ H s) (h : SqX X.K H a xs) :
    ∃ (its : List Value) (n : Nat), Vals xs its ∧ xs.length ≤ sizeLine ∧ xs.length = its.length ∧ s.heap.get? a = some { cls := .type "list", data := .seq its.toArray n } := by
  rcases h with h | ⟨o, h⟩ | ⟨its, n, h, hz, r⟩
  · obtain ⟨z, its, n, r, e⟩ := I.hok a _ h
    exact ⟨its, n, r, z, r.length, e⟩
  · obtain ⟨_, z, its, n, r, e⟩ := I.hok a _ h
    exact ⟨its, n, r, z, r.length, e⟩
  · exact ⟨its.toList, n, r, by rw [r.length, Array.length_toList]; exact hz, r.length, by simpa using I.kIn a _ h⟩
def catD (S : DH) (d e : D) (k : List D → Prop) : Prop := opt (seqD S d) fun xs => opt (seqD S e) fun ys => xs.length + ys.length ≤ sizeLine ∧ k (xs ++ ys)
/-! ### slots -/
abbrev DSt := List (Option D)
abbrev DK := D → DH → Prop
/-- what is wanted of an exception: its class, its fields, the slots, the heap -/
abbrev DW := Addr → List (Str × D) → DSt → DH → Prop
abbrev DTE := DW → DSt → DH → DK → Prop
abbrev DTT := DW → DSt → DH → (Bool → DH → Prop) → Prop
abbrev DTA := DW → DSt → DH → (List D → DH → Prop) → Prop
structure RSt (K : PySem.W.Frag) (H : Hp) (τ : DSt) (σ : St) : Prop where
  len : τ.length = σ.length
  get : ∀ (i : Nat) d, τ[i]? = some (some d) → ∃ v, σ[i]? = some (some v) ∧ RD K H d v
structure Rel (w : World) (K : PySem.W.Frag) (τ : DSt) (S : DH) (σ : St) (H : Hp) : Prop where
  st : RSt K H τ σ
  rep : Rep w K S H
theorem RSt.le {K : PySem.W.Frag} {H H' : Hp} {τ : DSt} {σ : St} (le : LeH H H') (r : RSt K H τ σ) : RSt K H' τ σ := ⟨r.len, fun i d e => by
  obtain ⟨v, q, rv⟩ := r.get i d e
  exact ⟨v, q, rv.le le⟩⟩
theorem RSt.set {K : PySem.W.Frag} {H : Hp} {τ : DSt} {σ : St} (r : RSt K H τ σ) (i : Nat) {d : D} {v : V} (rv : RD K H d v) : RSt K H (τ.set i (some d)) (σ.set i (some v)) := by
  refine ⟨by simp [r.len], fun j e h => ?_⟩
  rw [List.getElem?_set] at h ⊢
  by_cases z : i = j
  · subst z
    rw [if_pos rfl] at h
    rw [if_pos rfl]
    by_cases l : i < τ.length
    · rw [if_pos l] at h
      cases h
      rw [if_pos (by rw [← r.len]; exact l)]
      exact ⟨v, rfl, rv⟩
    · rw [if_neg l] at h
      cases h
  · rw [if_neg z] at h
    rw [if_neg z]
    exact r.get j e h
theorem Rel.le {w : World} {K : PySem.W.Frag} {H H' : Hp} {τ : DSt} {S S' : DH} {σ : St} (r : Rel w K τ S σ H) (le : LeH H H') (h : Rep w K S' H') : Rel w K τ S' σ H' := ⟨r.st.le le, h⟩

/-! ### wishes, lifts -/
def upW (w : World) (K : PySem.W.Frag) (E : DW) (H0 : Hp) : WX := fun cls d σ H => ∃ (C : Addr) (fs : List (Str × D)) (τ : DSt) (S : DH) (dd : Addr) (ws : List (Str × V)),
  cls = .ref C ∧ d = some dd ∧ LeH H0 H ∧ Rel w K τ S σ H ∧ H dd = some (.xd ws) ∧ RKs K H fs ws ∧ E C fs τ S
theorem upW.imp {w : World} {K : PySem.W.Frag} {E E' : DW} {H0 H1 : Hp} (le : LeH H0 H1) (k : ∀ C fs τ S, E C fs τ S → E' C fs τ S) {cls : Value} {d : Option Addr} {σ : St} {H : Hp} (h : upW w K E H1 cls d σ H) : upW w K E' H0 cls d σ H := by
  obtain ⟨C, fs, τ, S, dd, ws, e1, e2, l, r, x, y, q⟩ := h
  exact ⟨C, fs, τ, S, dd, ws, e1, e2, le.trans l, r, x, y, k _ _ _ _ q⟩
def Wish (X : Cx) (E : DW) (H0 : Hp) : Prop := Takes X (upW X.w X.K E H0)
theorem Wish.le {X : Cx} {E : DW} {H0 H1 : Hp} (w : Wish X E H0) (le : LeH H0 H1) : Wish X E H1 := Takes.imp w fun _ _ _ _ h => upW.imp le (fun _ _ _ _ q => q) h
abbrev DW0 : DW := fun _ _ _ _ => False
theorem wish0 {X : Cx} {H0 : Hp} : Wish X DW0 H0 := fun u s' ⟨a, B, sI, pins, σ, H, cls, d, e, I, nb, up, sky, na, os, ag, w⟩ => by
  obtain ⟨_, _, _, _, _, _, _, _, _, _, _, _, q⟩ := w
  exact q.elim

def upE (X : Cx) (t : DTE) : TE := fun σ H Q => ∃ E τ S, Wish X E H ∧ Rel X.w X.K τ S σ H ∧ t E τ S fun d S' => ∀ v H', LeH H H' → Rep X.w X.K S' H' → RD X.K H' d v → Q v H'
def upT (X : Cx) (t : DTT) : TT := fun σ H Q => ∃ E τ S, Wish X E H ∧ Rel X.w X.K τ S σ H ∧ t E τ S fun b S' => ∀ H', LeH H H' → Rep X.w X.K S' H' → Q b H'
def upA (X : Cx) (t : DTA) : TA := fun σ H Q => ∃ E τ S, Wish X E H ∧ Rel X.w X.K τ S σ H ∧ t E τ S fun ds S' => ∀ vs H', LeH H H' → Rep X.w X.K S' H' → RDs X.K H' ds vs → Q vs H'
structure DE (X : Cx) (e : Expr) (t : DTE) : Prop where
  mono : ∀ (E E' : DW) τ S (Q Q' : DK), (∀ C fs τ S, E C fs τ S → E' C fs τ S) → (∀ d S', Q d S' → Q' d S') → t E τ S Q → t E' τ S Q'
  run : PE X e (upE X t)
structure DT (X : Cx) (e : Expr) (t : DTT) : Prop where
  mono : ∀ (E E' : DW) τ S (Q Q' : Bool → DH → Prop), (∀ C fs τ S, E C fs τ S → E' C fs τ S) → (∀ d S', Q d S' → Q' d S') → t E τ S Q → t E' τ S Q'
  run : PT X e (upT X t)
structure DWt (X : Cx) (e : Expr) (t : DTT) : Prop where
  mono : ∀ (E E' : DW) τ S (Q Q' : Bool → DH → Prop), (∀ C fs τ S, E C fs τ S → E' C fs τ S) → (∀ d S', Q d S' → Q' d S') → t E τ S Q → t E' τ S Q'
  run : PW X e (upT X t)
structure DA (X : Cx) (es : List Expr) (t : DTA) : Prop where
  mono : ∀ (E E' : DW) τ S (Q Q' : List D → DH → Prop), (∀ C fs τ S, E C fs τ S → E' C fs τ S) → (∀ d S', Q d S' → Q' d S') → t E τ S Q → t E' τ S Q'
  run : PA X es (upA X t)
theorem pE_imp {X : Cx} {e : Expr} {t t' : TE} (h : PE X e t) (k : ∀ σ H Q, t' σ H Q → t σ H Q) : PE X e t' := ⟨fun pins s σ H Q I q => h.run pins s σ H Q I (k σ H Q q)⟩
theorem pT_imp {X : Cx} {e : Expr} {t t' : TT} (h : PT X e t) (k : ∀ σ H Q, t' σ H Q → t σ H Q) : PT X e t' := ⟨fun pins s σ H Q I q => h.run pins s σ H Q I (k σ H Q q)⟩
theorem pW_imp {X : Cx} {e : Expr} {t t' : TT} (h : PW X e t) (k : ∀ σ H Q, t' σ H Q → t σ H Q) : PW X e t' := ⟨fun wh pins s σ H Q I q => h.run wh pins s σ H Q I (k σ H Q q)⟩
theorem pA_imp {X : Cx} {e : List Expr} {t t' : TA} (h : PA X e t) (k : ∀ σ H Q, t' σ H Q → t σ H Q) : PA X e t' := ⟨fun pos pins s σ H Q I q => h.run pos pins s σ H Q I (k σ H Q q)⟩
theorem pS_imp {X : Cx} {e : Stmt} {t t' : TS} (h : PS X e t) (k : ∀ D σ H, t' D σ H → t D σ H) : PS X e t' := ⟨fun pins s σ H D I q => h.run pins s σ H D I (k D σ H q)⟩
theorem pSs_imp {X : Cx} {e : List Stmt} {t t' : TS} (h : PSs X e t) (k : ∀ D σ H, t' D σ H → t D σ H) : PSs X e t' := ⟨fun pins s σ H D I q => h.run pins s σ H D I (k D σ H q)⟩

section
variable {X : Cx} {e : Expr} {es : List Expr} {E : DW} {τ : DSt} {S : DH} {σ : St} {H : Hp}
/-- from a data reading to the layer's, the end weakened -/
theorem DE.to {t : DTE} (h : DE X e t) {Q0 : DK} {Q : VK} (w : Wish X E H) (r : Rel X.w X.K τ S σ H) (q : t E τ S Q0)
    (k : ∀ d S' v H', LeH H H' → Wish X E H' → Rel X.w X.K τ S' σ H' → RD X.K H' d v → Q0 d S' → Q v H') : upE X t σ H Q :=
  ⟨E, τ, S, w, r, h.mono _ _ _ _ _ _ (fun _ _ _ _ z => z) (fun d S' z v H' le rp rd => k d S' v H' le (w.le le) (r.le le rp) rd z) q⟩
theorem DT.to {t : DTT} (h : DT X e t) {Q0 : Bool → DH → Prop} {Q : Bool → Hp → Prop} (w : Wish X E H) (r : Rel X.w X.K τ S σ H) (q : t E τ S Q0)
    (k : ∀ b S' H', LeH H H' → Wish X E H' → Rel X.w X.K τ S' σ H' → Q0 b S' → Q b H') : upT X t σ H Q :=
  ⟨E, τ, S, w, r, h.mono _ _ _ _ _ _ (fun _ _ _ _ z => z) (fun d S' z H' le rp => k d S' H' le (w.le le) (r.le le rp) z) q⟩
theorem DWt.to {t : DTT} (h : DWt X e t) {Q0 : Bool → DH → Prop} {Q : Bool → Hp → Prop} (w : Wish X E H) (r : Rel X.w X.K τ S σ H) (q : t E τ S Q0)
    (k : ∀ b S' H', LeH H H' → Wish X E H' → Rel X.w X.K τ S' σ H' → Q0 b S' → Q b H') : upT X t σ H Q :=
  ⟨E, τ, S, w, r, h.mono _ _ _ _ _ _ (fun _ _ _ _ z => z) (fun d S' z H' le rp => k d S' H' le (w.le le) (r.le le rp) z) q⟩
theorem DA.to {t : DTA} (h : DA X es t) {Q0 : List D → DH → Prop} {Q : List V → Hp → Prop} (w : Wish X E H) (r : Rel X.w X.K τ S σ H) (q : t E τ S Q0)
    (k : ∀ ds S' vs H', LeH H H' → Wish X E H' → Rel X.w X.K τ S' σ H' → RDs X.K H' ds vs → Q0 ds S' → Q vs H') : upA X t σ H Q :=
  ⟨E, τ, S, w, r, h.mono _ _ _ _ _ _ (fun _ _ _ _ z => z) (fun d S' z vs H' le rp rd => k d S' vs H' le (w.le le) (r.le le rp) rd z) q⟩
end

/-! ### names, constants -/
@[simp] def dVar (i : Nat) : DTE := fun _ τ S Q => match τ[i]? with | some (some d) => Q d S | _ => False
@[simp] def dC (d : D) : DTE := fun _ _ S Q => Q d S
section
variable {X : Cx}
theorem de_var {e : Expr} {i : Nat} (h : PE X e (tVar i)) : DE X e (dVar i) := by
  refine ⟨fun E E' τ S Q Q' _ k q => ?_, pE_imp h fun σ H Q ⟨E, τ, S, w, r, q⟩ => ?_⟩
  · unfold dVar at q ⊢
    split at q
    · exact k _ _ q
    · exact q
  · unfold dVar at q
    split at q
    · rename_i d e'
      obtain ⟨v, e2, rv⟩ := r.st.get i d e'
      exact ⟨v, e2, q v H (LeH.refl H) r.rep rv⟩
    · exact q.elim
theorem de_c {e : Expr} {d : D} {v : V} (h : PE X e (tC v)) (hv : ∀ H, RD X.K H d v) : DE X e (dC d) :=
  ⟨fun E E' τ S Q Q' _ k q => k _ _ q, pE_imp h fun σ H Q ⟨E, τ, S, w, r, q⟩ => q v H (LeH.refl H) r.rep (hv H)⟩
theorem dv (i : Nat) {x : Str} {pos : Pos} (hN : X.N[i]? = some x := by rfl) (hv : Vis X.env.scope x := by first | exact Or.inl rfl | exact Or.inr (Or.inl rfl) | exact Or.inr (Or.inr rfl)) (hd : (x == ("__debug__" : Str)) = false := by decide)
    (hcd : (x == ("__classdict__" : Str)) = false := by decide) : DE X (.Name x pos) (dVar i) := de_var (pe_var hN hv hd hcd)
theorem de_int {i : Int} {j pos} : DE X (.Constant (.int i) j pos) (dC (.int i)) := de_c pe_int fun _ => rfl
theorem de_bl {b : Bool} {j pos} : DE X (.Constant (.bool b) j pos) (dC (.bl b)) := de_c pe_bl fun _ => rfl
theorem de_non {j pos} : DE X (.Constant .none j pos) (dC .non) := de_c pe_non fun _ => rfl
theorem de_str {x : Str} {j pos} : DE X (.Constant (.str x) j pos) (dC (.str x)) := de_c pe_str fun _ => rfl
end

/-! ### operators -/
abbrev R2D := D → D → DH → DK → Prop
def Mono2 (r : R2D) : Prop := ∀ x y S (Q Q' : DK), (∀ d S', Q d S' → Q' d S') → r x y S Q → r x y S Q'
def upO (w : World) (K : PySem.W.Frag) (r : R2D) : R2 := fun x y H Q => ∃ d e S, Rep w K S H ∧ RD K H d x ∧ RD K H e y ∧ r d e S fun z S' => ∀ v H', LeH H H' → Rep w K S' H' → RD K H' z v → Q v H'
structure OpD (X : Cx) (f : Value → Value → Sem Value) (r : R2D) : Prop where
  mono : Mono2 r
  run : OpR X f (upO X.w X.K r)
theorem opR_imp {X : Cx} {f : Value → Value → Sem Value} {r r' : R2} (h : OpR X f r) (k : ∀ x y H Q, r' x y H Q → r x y H Q) : OpR X f r' := fun pins s σ H x y v u Q I rx ry q => h pins s σ H x y v u Q I rx ry (k _ _ _ _ q)
@[simp] def dOp (r : R2D) (ta tb : DTE) : DTE := fun E τ S Q => ta E τ S fun d S1 => tb E τ S1 fun e S2 => r d e S2 Q
section
variable {X : Cx} {a b : Expr} {ta tb : DTE} {pos : Pos} {r : R2D}
theorem dOp_mono {E E' : DW} {τ : DSt} {S : DH} {Q Q' : DK} (ma : DE X a ta) (mb : DE X b tb) (mr : Mono2 r) (he : ∀ C fs τ S, E C fs τ S → E' C fs τ S) (k : ∀ d S', Q d S' → Q' d S') (q : dOp r ta tb E τ S Q) : dOp r ta tb E' τ S Q' :=
  ma.mono _ _ _ _ _ _ he (fun _ _ h => mb.mono _ _ _ _ _ _ he (fun _ _ h => mr _ _ _ _ _ k h) h) q
theorem dOp_up {σ : St} {H : Hp} {Q : VK} (ha : DE X a ta) (hb : DE X b tb) (mr : Mono2 r) (h : upE X (dOp r ta tb) σ H Q) : tOp (upO X.w X.K r) (upE X ta) (upE X tb) σ H Q := by
  obtain ⟨E, τ, S, w, rl, q⟩ := h
  refine ha.to w rl q fun d S1 x H1 le1 w1 r1 rd q1 => ?_
  refine hb.to w1 r1 q1 fun e S2 y H2 le2 w2 r2 re q2 => ?_
  exact ⟨d, e, S2, r2.rep, rd.le le2, re, mr _ _ _ _ _ (fun z S' k v H' le rp rz => k v H' (le1.trans (le2.trans le)) rp rz) q2⟩
theorem de_op {op : Operator} (ho : OpD X (binaryOp op) r) (ha : DE X a ta) (hb : DE X b tb) : DE X (.BinOp a op b pos) (dOp r ta tb) :=
  ⟨fun _ _ _ _ _ _ he k q => dOp_mono ha hb ho.mono he k q, pE_imp (pe_op ho.run ha.run hb.run) fun _ _ _ h => dOp_up ha hb ho.mono h⟩
theorem de_cmp {op : CmpOp} (ho : OpD X (compareOp op) r) (ha : DE X a ta) (hb : DE X b tb) (hm : behindInMarks op b = false) : DE X (.Compare a [op] [b] pos) (dOp r ta tb) :=
  ⟨fun _ _ _ _ _ _ he k q => dOp_mono ha hb ho.mono he k q, pE_imp (pe_cmpR ho.run ha.run hb.run hm) fun _ _ _ h => dOp_up ha hb ho.mono h⟩
/-- a test: a value that is a truth -/
@[simp] def dTest (t : DTE) : DTT := fun E τ S Q => t E τ S fun d S' => match d with | .bl b => Q b S' | _ => False
theorem dTest_mono {e : Expr} {t : DTE} (m : DE X e t) (E E' : DW) (τ : DSt) (S : DH) (Q Q' : Bool → DH → Prop) (he : ∀ C fs τ S, E C fs τ S → E' C fs τ S) (k : ∀ d S', Q d S' → Q' d S') (q : dTest t E τ S Q) : dTest t E' τ S Q' :=
  m.mono _ _ _ _ _ _ he (fun d S' h => by
    cases d with
    | bl b => exact k _ _ h
    | _ => exact h) q
theorem dt_cmp {op : CmpOp} (ho : OpD X (compareOp op) r) (ha : DE X a ta) (hb : DE X b tb) (hm : behindInMarks op b = false) : DT X (.Compare a [op] [b] pos) (dTest (dOp r ta tb)) := by
  refine ⟨dTest_mono (de_cmp ho ha hb hm (pos := pos)), pT_imp (pt_cmpR ho.run ha.run hb.run hm) fun σ H Q ⟨E, τ, S, w, rl, q⟩ => ?_⟩
  refine dOp_up ha hb ho.mono ⟨E, τ, S, w, rl, dOp_mono ha hb ho.mono (fun _ _ _ _ z => z) (fun d S' h v H' le rp rd => ?_) q⟩
  cases d with
  | bl b => exact ⟨b, rd, h H' le rp⟩
  | _ => exact h.elim
theorem dt_val {e : Expr} {t : DTE} (h : DE X e t) (he : ∀ whole, isTrue e X.env whole = (do let v ← whole; standAt e.pos; holding [v] (truthy v)) := by intro _; rfl) : DT X e (dTest t) := by
  refine ⟨dTest_mono h, pT_imp (pt_val h.run he) fun σ H Q ⟨E, τ, S, w, rl, q⟩ => ?_⟩
  refine h.to w rl q fun d S' v H' le w' r' rd q' => ?_
  cases d with
  | bl b => exact ⟨b, rd, q' H' le r'.rep⟩
  | _ => exact q'.elim
end
end Dt
set_option maxRecDepth 100000
set_option maxHeartbeats 4000000
/-! Dat2: tests, statements, loops, comprehensions. -/
namespace Dt
open PySem PySem.Spec L2

/-! ### arguments -/
@[simp] def dNil : DTA := fun _ _ S Q => Q [] S
@[simp] def dCons (ta : DTE) (tr : DTA) : DTA := fun E τ S Q => ta E τ S fun d S1 => tr E τ S1 fun ds S2 => Q (d :: ds) S2
section
variable {X : Cx} {e : Expr} {es : List Expr} {te : DTE} {t : DTA} {pos : Pos}
theorem da_nil : DA X [] dNil := ⟨fun _ _ _ _ _ _ _ k q => k _ _ q, pA_imp pa_nil fun σ H Q ⟨E, τ, S, w, r, q⟩ => q [] H (LeH.refl H) r.rep .nil⟩
theorem da_cons (ha : DE X e te) (hr : DA X es t) (hs : starEach (e :: es) X.env = (false, eval e X.env) :: starEach es X.env := by rfl) : DA X (e :: es) (dCons te t) := by
  refine ⟨fun _ _ _ _ _ _ he k q => ha.mono _ _ _ _ _ _ he (fun _ _ h => hr.mono _ _ _ _ _ _ he (fun _ _ h => k _ _ h) h) q, pA_imp (pa_cons ha.run hr.run hs) fun σ H Q ⟨E, τ, S, w, r, q⟩ => ?_⟩
  refine ha.to w r q fun d S1 v H1 le1 w1 r1 rd q1 => ?_
  exact hr.to w1 r1 q1 fun ds S2 vs H2 le2 w2 r2 rds q2 => q2 (v :: vs) H2 (le1.trans le2) r2.rep (.cons (rd.le le2) rds)
end

/-! ### tests -/
section
variable {X : Cx} {a b : Expr} {rest : List Expr} {ta tb : DTT} {te : DTE} {pos : Pos}
@[simp] def dAnd (t u : DTT) : DTT := fun E τ S Q => t E τ S fun c S1 => if c = true then u E τ S1 Q else Q false S1
@[simp] def dOr (t u : DTT) : DTT := fun E τ S Q => t E τ S fun c S1 => if c = true then Q true S1 else u E τ S1 Q
@[simp] def dNot (t : DTT) : DTT := fun E τ S Q => t E τ S fun c S1 => Q (!c) S1
theorem DWt.pt (h : DWt X a ta) : DT X a ta := ⟨h.mono, h.run.pt⟩
theorem dw_and1 (ha : DT X a ta) : DWt X (.BoolOp .And [a] pos) ta := ⟨ha.mono, pw_and1 ha.run⟩
theorem dw_or1 (ha : DT X a ta) : DWt X (.BoolOp .Or [a] pos) ta := ⟨ha.mono, pw_or1 ha.run⟩
theorem dw_and (ha : DT X a ta) (hb : DWt X (.BoolOp .And (b :: rest) pos) tb) : DWt X (.BoolOp .And (a :: b :: rest) pos) (dAnd ta tb) := by
  refine ⟨fun E E' τ S Q Q' he k q => ha.mono _ _ _ _ _ _ he (fun c S1 h => ?_) q, pW_imp (pw_and ha.run hb.run) fun σ H Q ⟨E, τ, S, w, r, q⟩ => ?_⟩
  · split at h
    · rename_i hc
      rw [if_pos hc]
      exact hb.mono _ _ _ _ _ _ he k h
    · rename_i hc
      rw [if_neg hc]
      exact k _ _ h
  · refine ha.to w r q fun c S1 H1 le w1 r1 h => ?_
    cases c with
    | true => exact hb.to w1 r1 h fun b S2 H2 le2 _ r2 q2 => q2 H2 (le.trans le2) r2.rep
    | false => exact h H1 le r1.rep
theorem dw_or (ha : DT X a ta) (hb : DWt X (.BoolOp .Or (b :: rest) pos) tb) : DWt X (.BoolOp .Or (a :: b :: rest) pos) (dOr ta tb) := by
  refine ⟨fun E E' τ S Q Q' he k q => ha.mono _ _ _ _ _ _ he (fun c S1 h => ?_) q, pW_imp (pw_or ha.run hb.run) fun σ H Q ⟨E, τ, S, w, r, q⟩ => ?_⟩
  · split at h
    · rename_i hc
      rw [if_pos hc]
      exact k _ _ h
    · rename_i hc
      rw [if_neg hc]
      exact hb.mono _ _ _ _ _ _ he k h
  · refine ha.to w r q fun c S1 H1 le w1 r1 h => ?_
    cases c with
    | true => exact h H1 le r1.rep
    | false => exact hb.to w1 r1 h fun b S2 H2 le2 _ r2 q2 => q2 H2 (le.trans le2) r2.rep
theorem dt_not (ha : DT X a ta) : DT X (.UnaryOp .Not a pos) (dNot ta) :=
  ⟨fun _ _ _ _ _ _ he k q => ha.mono _ _ _ _ _ _ he (fun _ _ h => k _ _ h) q, pT_imp (pt_not ha.run) fun σ H Q ⟨E, τ, S, w, r, q⟩ => ha.to w r q fun c S1 H1 le w1 r1 h => h H1 le r1.rep⟩
/-- and, or, not as values, of truths -/
def dBV (t : DTE) (k : Bool → DH → DK → Prop) : DTE := fun E τ S Q => t E τ S fun d S1 => match d with | .bl c => k c S1 Q | _ => False
@[simp] def dAndV (ta tb : DTE) : DTE := fun E τ S Q => ta E τ S fun d S1 => match d with | .bl c => (if c = true then tb E τ S1 Q else Q (.bl false) S1) | _ => False
@[simp] def dOrV (ta tb : DTE) : DTE := fun E τ S Q => ta E τ S fun d S1 => match d with | .bl c => (if c = true then Q (.bl true) S1 else tb E τ S1 Q) | _ => False
@[simp] def dNotV (ta : DTE) : DTE := fun E τ S Q => ta E τ S fun d S1 => match d with | .bl c => Q (.bl (!c)) S1 | _ => False
variable {va vb : DTE}
theorem de_one {op} (h : DE X a te) : DE X (.BoolOp op [a] pos) te := ⟨h.mono, pe_one h.run⟩
theorem de_and (ha : DE X a va) (hb : DE X (.BoolOp .And (b :: rest) pos) vb) : DE X (.BoolOp .And (a :: b :: rest) pos) (dAndV va vb) := by
  refine ⟨fun E E' τ S Q Q' he k q => ha.mono _ _ _ _ _ _ he (fun d S1 h => ?_) q, pE_imp (pe_and ha.run hb.run) fun σ H Q ⟨E, τ, S, w, r, q⟩ => ?_⟩
  · cases d with
    | bl c =>
      cases c with
      | true => exact hb.mono _ _ _ _ _ _ he k h
      | false => exact k _ _ h
    | _ => exact h
  · refine ha.to w r q fun d S1 v H1 le w1 r1 rd h => ?_
    cases d with
    | bl c =>
      refine ⟨c, rd, ?_⟩
      cases c with
      | true => exact hb.to w1 r1 h fun z S2 u H2 le2 _ r2 rz q2 => q2 u H2 (le.trans le2) r2.rep rz
      | false => exact h _ H1 le r1.rep rfl
    | _ => exact h.elim
theorem de_or (ha : DE X a va) (hb : DE X (.BoolOp .Or (b :: rest) pos) vb) : DE X (.BoolOp .Or (a :: b :: rest) pos) (dOrV va vb) := by
  refine ⟨fun E E' τ S Q Q' he k q => ha.mono _ _ _ _ _ _ he (fun d S1 h => ?_) q, pE_imp (pe_or ha.run hb.run) fun σ H Q ⟨E, τ, S, w, r, q⟩ => ?_⟩
  · cases d with
    | bl c =>
      cases c with
      | true => exact k _ _ h
      | false => exact hb.mono _ _ _ _ _ _ he k h
    | _ => exact h
  · refine ha.to w r q fun d S1 v H1 le w1 r1 rd h => ?_
    cases d with
    | bl c =>
      refine ⟨c, rd, ?_⟩
      cases c with
      | true => exact h _ H1 le r1.rep rfl
      | false => exact hb.to w1 r1 h fun z S2 u H2 le2 _ r2 rz q2 => q2 u H2 (le.trans le2) r2.rep rz
    | _ => exact h.elim
theorem de_not (ha : DE X a va) : DE X (.UnaryOp .Not a pos) (dNotV va) := by
  refine ⟨fun E E' τ S Q Q' he k q => ha.mono _ _ _ _ _ _ he (fun d S1 h => ?_) q, pE_imp (pe_not ha.run) fun σ H Q ⟨E, τ, S, w, r, q⟩ => ?_⟩
  · cases d with
    | bl c => exact k _ _ h
    | _ => exact h
  · refine ha.to w r q fun d S1 v H1 le w1 r1 rd h => ?_
    cases d with
    | bl c => exact ⟨c, rd, h _ H1 le r1.rep rfl⟩
    | _ => exact h.elim
@[simp] def dIfE (t : DTT) (ta tb : DTE) : DTE := fun E τ S Q => t E τ S fun c S1 => if c = true then ta E τ S1 Q else tb E τ S1 Q
theorem de_if {c : Expr} (hc : DT X c ta) (ha : DE X a va) (hb : DE X b vb) : DE X (.IfExp c a b pos) (dIfE ta va vb) := by
  refine ⟨fun E E' τ S Q Q' he k q => hc.mono _ _ _ _ _ _ he (fun c S1 h => ?_) q, pE_imp (pe_ifExp hc.run ha.run hb.run) fun σ H Q ⟨E, τ, S, w, r, q⟩ => ?_⟩
  · cases c with
    | true => exact ha.mono _ _ _ _ _ _ he k h
    | false => exact hb.mono _ _ _ _ _ _ he k h
  · refine hc.to w r q fun c S1 H1 le w1 r1 h => ?_
    cases c with
    | true => exact ha.to w1 r1 h fun z S2 u H2 le2 _ r2 rz q2 => q2 u H2 (le.trans le2) r2.rep rz
    | false => exact hb.to w1 r1 h fun z S2 u H2 le2 _ r2 rz q2 => q2 u H2 (le.trans le2) r2.rep rz
end

/-! ### statements -/
structure DEnds where
  nx : DSt → DH → Prop
  rt : DK
  bk : DSt → DH → Prop := fun _ _ => False
  ct : DSt → DH → Prop := fun _ _ => False
  xe : DW := fun _ _ _ _ => False
abbrev DTS := DEnds → DSt → DH → Prop
structure DEnds.Le (A B : DEnds) : Prop where
  nx : ∀ τ S, A.nx τ S → B.nx τ S
  rt : ∀ d S, A.rt d S → B.rt d S
  bk : ∀ τ S, A.bk τ S → B.bk τ S
  ct : ∀ τ S, A.ct τ S → B.ct τ S
  xe : ∀ C fs τ S, A.xe C fs τ S → B.xe C fs τ S
def dnE (w : World) (K : PySem.W.Frag) (H : Hp) (D : Ends) (E : DW) : DEnds where
  nx := fun τ S => ∀ σ H', LeH H H' → Rel w K τ S σ H' → D.nx σ H'
  rt := fun d S => ∀ v H', LeH H H' → Rep w K S H' → RD K H' d v → D.rt v H'
  bk := fun τ S => ∀ σ H', LeH H H' → Rel w K τ S σ H' → D.bk σ H'
  ct := fun τ S => ∀ σ H', LeH H H' → Rel w K τ S σ H' → D.ct σ H'
  xe := E
def upS (X : Cx) (t : DTS) : TS := fun D σ H => ∃ E τ S, Wish X E H ∧ Rel X.w X.K τ S σ H ∧ t (dnE X.w X.K H D E) τ S
structure DS (X : Cx) (st : Stmt) (t : DTS) : Prop where
  mono : ∀ A B τ S, DEnds.Le A B → t A τ S → t B τ S
  run : PS X st (upS X t)
structure DSs (X : Cx) (st : List Stmt) (t : DTS) : Prop where
  mono : ∀ A B τ S, DEnds.Le A B → t A τ S → t B τ S
  run : PSs X st (upS X t)
section
variable {X : Cx} {st : Stmt} {sts : List Stmt} {t u : DTS} {E : DW} {τ : DSt} {S : DH} {σ : St} {H : Hp} {pos : Pos}
theorem dn_le {w : World} {K : PySem.W.Frag} {D : Ends} {H H' : Hp} (le : LeH H H') : DEnds.Le (dnE w K H D E) (dnE w K H' D E) :=
  ⟨fun τ S h σ H2 l => h σ H2 (le.trans l), fun d S h v H2 l => h v H2 (le.trans l), fun τ S h σ H2 l => h σ H2 (le.trans l), fun τ S h σ H2 l => h σ H2 (le.trans l), fun _ _ _ _ h => h⟩
theorem DS.to (h : DS X st t) {A : DEnds} {D : Ends} (w : Wish X E H) (r : Rel X.w X.K τ S σ H) (q : t A τ S) (k : DEnds.Le A (dnE X.w X.K H D E)) : upS X t D σ H := ⟨E, τ, S, w, r, h.mono _ _ _ _ k q⟩
theorem DSs.to (h : DSs X sts t) {A : DEnds} {D : Ends} (w : Wish X E H) (r : Rel X.w X.K τ S σ H) (q : t A τ S) (k : DEnds.Le A (dnE X.w X.K H D E)) : upS X t D σ H := ⟨E, τ, S, w, r, h.mono _ _ _ _ k q⟩
@[simp] def dNx : DTS := fun A τ S => A.nx τ S
@[simp] def dSeq (t u : DTS) : DTS := fun A τ S => t { A with nx := u A } τ S
theorem dss_nil : DSs X [] dNx := ⟨fun _ _ _ _ le q => le.nx _ _ q, pSs_imp pss_nil fun D σ H ⟨E, τ, S, w, r, q⟩ => q σ H (LeH.refl H) r⟩
theorem dss_one (h : DS X st t) : DSs X [st] t := ⟨h.mono, pss_one h.run⟩
theorem dss_cons (h1 : DS X st t) (h2 : DSs X sts u) : DSs X (st :: sts) (dSeq t u) := by
  refine ⟨fun A B τ S le q => h1.mono { A with nx := u A } { B with nx := u B } _ _ ⟨fun τ S z => h2.mono _ _ _ _ le z, le.rt, le.bk, le.ct, le.xe⟩ q, pSs_imp (pss_cons h1.run h2.run) fun D σ H ⟨E, τ, S, w, r, q⟩ => ?_⟩
  exact h1.to w r q ⟨fun τ' S' z σ' H' le r' => h2.to (w.le le) r' z (dn_le le), fun _ _ z => z, fun _ _ z => z, fun _ _ z => z, fun _ _ _ _ z => z⟩
theorem ds_pass : DS X (.Pass pos) dNx := ⟨fun _ _ _ _ le q => le.nx _ _ q, pS_imp ps_pass fun D σ H ⟨E, τ, S, w, r, q⟩ => q σ H (LeH.refl H) r⟩
@[simp] def dBk : DTS := fun A τ S => A.bk τ S
@[simp] def dCt : DTS := fun A τ S => A.ct τ S
theorem ds_break : DS X (.Break pos) dBk := ⟨fun _ _ _ _ le q => le.bk _ _ q, pS_imp ps_break fun D σ H ⟨E, τ, S, w, r, q⟩ => q σ H (LeH.refl H) r⟩
theorem ds_continue : DS X (.Continue pos) dCt := ⟨fun _ _ _ _ le q => le.ct _ _ q, pS_imp ps_continue fun D σ H ⟨E, τ, S, w, r, q⟩ => q σ H (LeH.refl H) r⟩
theorem ds_doc {x : Str} {j pos'} : DS X (.Expr (.Constant (.str x) j pos) pos') dNx := ⟨fun _ _ _ _ le q => le.nx _ _ q, pS_imp ps_doc fun D σ H ⟨E, τ, S, w, r, q⟩ => q σ H (LeH.refl H) r⟩
def dNever : DTS := fun _ _ _ => False
theorem ds_never : DS X st dNever := ⟨fun _ _ _ _ _ q => q.elim, pS_imp (ps_never) fun D σ H ⟨E, τ, S, w, r, q⟩ => q.elim⟩
variable {e c : Expr} {te : DTE} {tc : DTT} {as bs : List Stmt}
@[simp] def dDrop (te : DTE) : DTS := fun A τ S => te A.xe τ S fun _ S' => A.nx τ S'
theorem ds_expr (h : DE X e te) (hs : swapsWith e none pos.line X.env = pure false := by rfl) : DS X (.Expr e pos) (dDrop te) :=
  ⟨fun _ _ _ _ le q => h.mono _ _ _ _ _ _ le.xe (fun _ _ z => le.nx _ _ z) q, pS_imp (ps_expr h.run hs) fun D σ H ⟨E, τ, S, w, r, q⟩ => h.to w r q fun d S' v H' le w' r' rd z => z σ H' le r'⟩
@[simp] def dRet (te : DTE) : DTS := fun A τ S => te A.xe τ S A.rt
theorem ds_ret (h : DE X e te) : DS X (.Return (some e) pos) (dRet te) :=
  ⟨fun _ _ _ _ le q => h.mono _ _ _ _ _ _ le.xe le.rt q, pS_imp (ps_ret h.run) fun D σ H ⟨E, τ, S, w, r, q⟩ => h.to w r q fun d S' v H' le w' r' rd z => z v H' le r'.rep rd⟩
@[simp] def dRetN : DTS := fun A _ S => A.rt .non S
theorem ds_retN : DS X (.Return none pos) dRetN := ⟨fun _ _ _ _ le q => le.rt _ _ q, pS_imp ps_retN fun D σ H ⟨E, τ, S, w, r, q⟩ => q _ H (LeH.refl H) r.rep rfl⟩
@[simp] def dIf (tc : DTT) (t u : DTS) : DTS := fun A τ S => tc A.xe τ S fun b S' => if b = true then t A τ S' else u A τ S'
theorem ds_if (hc : DT X c tc) (ha : DSs X as t) (hb : DSs X bs u) : DS X (.If c as bs pos) (dIf tc t u) := by
  refine ⟨fun A B τ S le q => hc.mono _ _ _ _ _ _ le.xe (fun b S' z => ?_) q, pS_imp (ps_if hc.run ha.run hb.run) fun D σ H ⟨E, τ, S, w, r, q⟩ => ?_⟩
  · cases b with
    | true => exact ha.mono _ _ _ _ le z
    | false => exact hb.mono _ _ _ _ le z
  · refine hc.to w r q fun b S' H' le w' r' z => ?_
    cases b with
    | true => exact ha.to w' r' z (dn_le le)
    | false => exact hb.to w' r' z (dn_le le)
end

/-! ### targets -/
abbrev DTG := D → DSt → DH → (DSt → DH → Prop) → Prop
abbrev DTGs := List D → DSt → DH → (DSt → DH → Prop) → Prop
def upG (X : Cx) (t : DTG) : TG := fun v σ H Q => ∃ d τ S, Rel X.w X.K τ S σ H ∧ RD X.K H d v ∧ t d τ S fun τ' S' => ∀ σ' H', LeH H H' → Rel X.w X.K τ' S' σ' H' → Q σ' H'
def upGs (X : Cx) (t : DTGs) : TGs := fun vs σ H Q => ∃ ds τ S, Rel X.w X.K τ S σ H ∧ RDs X.K H ds vs ∧ t ds τ S fun τ' S' => ∀ σ' H', LeH H H' → Rel X.w X.K τ' S' σ' H' → Q σ' H'
structure DG (X : Cx) (tg : Expr) (t : DTG) : Prop where
  mono : ∀ d τ S (Q Q' : DSt → DH → Prop), (∀ τ S, Q τ S → Q' τ S) → t d τ S Q → t d τ S Q'
  run : PG X tg (upG X t)
structure DGs (X : Cx) (tg : List Expr) (t : DTGs) : Prop where
  mono : ∀ d τ S (Q Q' : DSt → DH → Prop), (∀ τ S, Q τ S → Q' τ S) → t d τ S Q → t d τ S Q'
  run : PGs X tg (upGs X t)
theorem pG_imp {X : Cx} {e : Expr} {t t' : TG} (h : PG X e t) (k : ∀ v σ H Q, t' v σ H Q → t v σ H Q) : PG X e t' := ⟨fun pins s σ H v u Q I r q => h.run pins s σ H v u Q I r (k v σ H Q q)⟩
theorem pGs_imp {X : Cx} {e : List Expr} {t t' : TGs} (h : PGs X e t) (k : ∀ v σ H Q, t' v σ H Q → t v σ H Q) : PGs X e t' := ⟨fun pins s σ H v u Q I r q => h.run pins s σ H v u Q I r (k v σ H Q q)⟩
section
variable {X : Cx} {tg e : Expr} {tgs : List Expr} {t : DTG} {ts : DTGs} {te : DTE} {pos : Pos}
theorem DG.to (h : DG X tg t) {d : D} {v : V} {τ : DSt} {S : DH} {σ : St} {H : Hp} {Q0 : DSt → DH → Prop} {Q : St → Hp → Prop} (r : Rel X.w X.K τ S σ H) (rd : RD X.K H d v) (q : t d τ S Q0) (k : ∀ τ' S' σ' H', LeH H H' → Rel X.w X.K τ' S' σ' H' → Q0 τ' S' → Q σ' H') : upG X t v σ H Q :=
  ⟨d, τ, S, r, rd, h.mono _ _ _ _ _ (fun τ' S' z σ' H' le r' => k _ _ _ _ le r' z) q⟩
@[simp] def dGN (i : Nat) : DTG := fun d τ S Q => Q (τ.set i (some d)) S
theorem dg_name {i : Nat} {x : Str} (hN : X.N.Nodup) (hi : X.N[i]? = some x) (hx : Loc X.env.scope x) (hf : X.fn x = true ∨ X.env.scope.names.lookup x = some .local := by first | exact .inl rfl | exact .inr rfl | assumption) : DG X (.Name x pos) (dGN i) :=
  ⟨fun _ _ _ _ _ k q => k _ _ q, pG_imp (pg_name hN hi hx hf) fun v σ H Q ⟨d, τ, S, r, rd, q⟩ => q _ _ (LeH.refl H) ⟨r.st.set i rd, r.rep⟩⟩
@[simp] def dGNil : DTGs := fun ds τ S Q => match ds with | [] => Q τ S | _ => False
@[simp] def dGCons (t : DTG) (u : DTGs) : DTGs := fun ds τ S Q => match ds with | d :: r => t d τ S fun τ' S' => u r τ' S' Q | _ => False
theorem dgs_nil : DGs X [] dGNil := by
  refine ⟨fun ds _ _ _ _ k q => ?_, pGs_imp pgs_nil fun vs σ H Q ⟨ds, τ, S, r, rd, q⟩ => ?_⟩
  · cases ds with
    | nil => exact k _ _ q
    | cons _ _ => exact q
  · cases ds with
    | nil => exact ⟨rd, q σ H (LeH.refl H) r⟩
    | cons _ _ => exact q.elim
theorem dgs_cons (h1 : DG X tg t) (h2 : DGs X tgs ts) (hs : (assignEach (tg :: tgs) X.env).map (·.2) = assign tg X.env :: (assignEach tgs X.env).map (·.2) := by rfl) : DGs X (tg :: tgs) (dGCons t ts) := by
  refine ⟨fun ds _ _ _ _ k q => ?_, pGs_imp (pgs_cons h1.run h2.run hs) fun vs σ H Q ⟨ds, τ, S, r, rd, q⟩ => ?_⟩
  · cases ds with
    | nil => exact q
    | cons d r => exact h1.mono _ _ _ _ _ (fun _ _ z => h2.mono _ _ _ _ _ k z) q
  · cases ds with
    | nil => exact q.elim
    | cons d ds =>
      obtain ⟨v, s, rfl, rd1, rd2⟩ := rd
      refine ⟨v, s, rfl, h1.to r rd1 q fun τ' S' σ' H' le r' z => ?_⟩
      exact ⟨ds, τ', S', r', rd2.le le, h2.mono _ _ _ _ _ (fun τ2 S2 z2 σ2 H2 le2 r2 => z2 σ2 H2 (le.trans le2) r2) z⟩
@[simp] def dGTup (n : Nat) (t : DTGs) : DTG := fun d τ S Q => match d with | .tup ds => ds.length = n ∧ t ds τ S Q | _ => False
theorem dg_tup {es : List Expr} {k : Nat} {n : Nat} (hc : X.calm = true) (h : DGs X es ts) (hn : (assignEach es X.env).length = n := by rfl) (hst : (assignEach es X.env).findIdx? (·.1) = none := by rfl) : DG X (.Tuple es k pos) (dGTup n ts) := by
  refine ⟨fun d _ _ _ _ k q => ?_, pG_imp (pg_tup hc h.run hn hst) fun v σ H Q ⟨d, τ, S, r, rd, q⟩ => ?_⟩
  · cases d with
    | tup ds => exact ⟨q.1, h.mono _ _ _ _ _ k q.2⟩
    | _ => exact q
  · cases d with
    | tup ds =>
      obtain ⟨p, xs, rfl, sq, rds⟩ : ∃ p xs, v = V.ref p ∧ SqT X.K H p xs ∧ RDs X.K H ds xs := rd
      exact ⟨p, xs, rfl, sq, by rw [← rds.length]; exact q.1, ds, τ, S, r, rds, q.2⟩
    | _ => exact q.elim
@[simp] def dAsg (te : DTE) (t : DTG) : DTS := fun A τ S => te A.xe τ S fun d S' => t d τ S' A.nx
theorem ds_asg (he : DE X e te) (hg : DG X tg t) (hs : swapsWithSole [tg] e pos.line X.env = pure false := by rfl) (hw : swappedStores [tg] e X.env = pure none := by rfl) (h1 : (assignEach [tg] X.env).map (·.2) = [assign tg X.env] := by rfl) : DS X (.Assign [tg] e pos) (dAsg te t) := by
  refine ⟨fun A B τ S le q => he.mono _ _ _ _ _ _ le.xe (fun _ _ z => hg.mono _ _ _ _ _ le.nx z) q, pS_imp (ps_asg he.run hg.run hs hw h1) fun D σ H ⟨E, τ, S, w, r, q⟩ => ?_⟩
  exact he.to w r q fun d S' v H' le w' r' rd z => hg.to r' rd z fun τ2 S2 σ2 H2 le2 r2 z2 => z2 σ2 H2 (le.trans le2) r2
theorem ds_set {i : Nat} {x : Str} {pos' : Pos} (hN : X.N.Nodup) (hi : X.N[i]? = some x) (hx : Loc X.env.scope x) (he : DE X e te) (hs : swapsWith e (some (.Name x pos')) pos.line X.env = pure false := by rfl)
    (hf : X.fn x = true ∨ X.env.scope.names.lookup x = some .local := by first | exact .inl rfl | exact .inr rfl | assumption) : DS X (.Assign [.Name x pos'] e pos) (dAsg te (dGN i)) := by
  refine ⟨fun A B τ S le q => he.mono _ _ _ _ _ _ le.xe (fun _ _ z => le.nx _ _ z) q, pS_imp (ps_set hN hi hx he.run hs hf) fun D σ H ⟨E, τ, S, w, r, q⟩ => ?_⟩
  exact he.to w r q fun d S' v H' le w' r' rd z => z _ H' le ⟨r'.st.set i rd, r'.rep⟩
end

/-! ### while -/
def dWh (c : DTT) (tb : DTS) (A : DEnds) : Nat → DSt → DH → Prop
  | 0, _, _ => False
  | n + 1, τ, S => c A.xe τ S fun b S' => if b = true then tb { A with nx := dWh c tb A n, ct := dWh c tb A n, bk := A.nx } τ S' else A.nx τ S'
def dWhile (c : DTT) (tb : DTS) : DTS := fun A τ S => ∃ n, dWh c tb A n τ S
section
variable {X : Cx} {c : Expr} {body : List Stmt} {tc : DTT} {tb : DTS} {pos : Pos}
theorem dWh_mono (hc : DT X c tc) (hb : DSs X body tb) {A B : DEnds} (le : DEnds.Le A B) : ∀ (n : Nat) (τ : DSt) (S : DH), dWh tc tb A n τ S → dWh tc tb B n τ S
  | 0, _, _, q => q
  | n + 1, τ, S, q => hc.mono _ _ _ _ _ _ le.xe (fun b S' z => by
      cases b with
      | true => exact hb.mono { A with nx := dWh tc tb A n, ct := dWh tc tb A n, bk := A.nx } { B with nx := dWh tc tb B n, ct := dWh tc tb B n, bk := B.nx } _ _ ⟨fun τ S w => dWh_mono hc hb le n τ S w, le.rt, le.nx, fun τ S w => dWh_mono hc hb le n τ S w, le.xe⟩ z
      | false => exact le.nx _ _ z) q
theorem ds_while (hp : PassesOwn (model X.prog X.w) X.A X.env X.xe) (hc : DT X c tc) (hb : DSs X body tb) : DS X (.While c body [] pos) (dWhile tc tb) := by
  refine ⟨fun A B τ S le ⟨n, q⟩ => ⟨n, dWh_mono hc hb le n τ S q⟩, pS_imp (ps_while hp hc.run hb.run) fun D σ H ⟨E, τ, S, w, r, n, q⟩ => ?_⟩
  refine ⟨fun m σ' H' => LeH H H' ∧ ∃ τ' S', Rel X.w X.K τ' S' σ' H' ∧ dWh tc tb (dnE X.w X.K H D E) m τ' S', ⟨n, LeH.refl H, τ, S, r, q⟩, ?_⟩
  rintro m σ1 H1 ⟨le1, τ1, S1, r1, q1⟩
  cases m with
  | zero => exact q1.elim
  | succ m =>
    refine hc.to (w.le le1) r1 q1 fun b S2 H2 le2 w2 r2 z => ?_
    cases b with
    | false => exact z σ1 H2 (le1.trans le2) r2
    | true =>
      rw [if_pos rfl]
      have again : ∀ τ3 S3, dWh tc tb (dnE X.w X.K H D E) m τ3 S3 → ∀ σ3 H3, LeH H2 H3 → Rel X.w X.K τ3 S3 σ3 H3 → LeH H H3 ∧ ∃ τ' S', Rel X.w X.K τ' S' σ3 H3 ∧ dWh tc tb (dnE X.w X.K H D E) m τ' S' :=
        fun τ3 S3 y σ3 H3 le3 r3 => ⟨le1.trans (le2.trans le3), τ3, S3, r3, y⟩
      refine ⟨fun σ3 H3 => LeH H H3 ∧ ∃ τ' S', Rel X.w X.K τ' S' σ3 H3 ∧ dWh tc tb (dnE X.w X.K H D E) m τ' S', fun σ3 H3 y => ⟨m, Nat.lt_succ_self m, y⟩, hb.to w2 r2 z ⟨again, ?_, ?_, again, fun _ _ _ _ y => y⟩⟩
      · exact fun d S3 y v H3 le3 r3 rd => y v H3 (le1.trans (le2.trans le3)) r3 rd
      · exact fun τ3 S3 y σ3 H3 le3 r3 => y σ3 H3 (le1.trans (le2.trans le3)) r3
end

/-! ### what is walked -/
structure Feeds (w : World) (K : PySem.W.Frag) (H0 : Hp) (J : It) (G : DH → Prop) (ds : List D) : Prop where
  go : ∀ i S H, LeH H0 H → Rep w K S H → G S → i < ds.length → J.go i H
  yld : ∀ i S H x H', LeH H0 H → Rep w K S H → G S → i < ds.length → J.yld i H x H' → LeH H H' ∧ Rep w K S H' ∧ ∃ d, ds[i]? = some d ∧ RD K H' d x
  stop : ∀ S H, LeH H0 H → Rep w K S H → G S → J.stop ds.length H
abbrev DTI := DW → DSt → DH → ((DH → Prop) → List D → DH → Prop) → Prop
def upI (X : Cx) (ti : DTI) : TI := fun σ H R => ∃ E τ S, Wish X E H ∧ Rel X.w X.K τ S σ H ∧ ti E τ S fun G ds S' => ∀ J H', LeH H H' → Rep X.w X.K S' H' → Feeds X.w X.K H' J G ds → R J H'
structure DI (X : Cx) (tg iter : Expr) (ti : DTI) : Prop where
  mono : ∀ (E E' : DW) τ S (Q Q' : (DH → Prop) → List D → DH → Prop), (∀ C fs τ S, E C fs τ S → E' C fs τ S) → (∀ G d S', Q G d S' → Q' G d S') → ti E τ S Q → ti E' τ S Q'
  run : PI X tg iter (upI X ti)
theorem pI_imp {X : Cx} {tg e : Expr} {t t' : TI} (h : PI X tg e t) (k : ∀ σ H R, t' σ H R → t σ H R) : PI X tg e t' := ⟨fun pins s σ H R I q => h.run pins s σ H R I (k σ H R q)⟩
@[simp] def dLoop (g : DTG) (tb : DTS) (A : DEnds) (G : DH → Prop) : List D → DSt → DH → Prop
  | [], τ, S => G S ∧ A.nx τ S
  | d :: ds, τ, S => G S ∧ g d τ S fun τ1 S1 => tb { A with nx := dLoop g tb A G ds, ct := dLoop g tb A G ds, bk := A.nx } τ1 S1
@[simp] def dFor (ti : DTI) (g : DTG) (tb : DTS) : DTS := fun A τ S => ti A.xe τ S fun G ds S' => dLoop g tb A G ds τ S'
section
variable {X : Cx} {tg iter : Expr} {body : List Stmt} {ti : DTI} {g : DTG} {tb : DTS} {pos : Pos}
theorem DI.to (h : DI X tg iter ti) {E : DW} {τ : DSt} {S : DH} {σ : St} {H : Hp} {Q0 : (DH → Prop) → List D → DH → Prop} {R : It → Hp → Prop} (w : Wish X E H) (r : Rel X.w X.K τ S σ H) (q : ti E τ S Q0)
    (k : ∀ G ds S' J H', LeH H H' → Wish X E H' → Rel X.w X.K τ S' σ H' → Feeds X.w X.K H' J G ds → Q0 G ds S' → R J H') : upI X ti σ H R :=
  ⟨E, τ, S, w, r, h.mono _ _ _ _ _ _ (fun _ _ _ _ z => z) (fun G ds S' z J H' le rp f => k G ds S' J H' le (w.le le) (r.le le rp) f z) q⟩
theorem dLoop_mono (hg : DG X tg g) (hb : DSs X body tb) {A B : DEnds} (le : DEnds.Le A B) {G : DH → Prop} : ∀ (ds : List D) (τ : DSt) (S : DH), dLoop g tb A G ds τ S → dLoop g tb B G ds τ S
  | [], _, _, q => ⟨q.1, le.nx _ _ q.2⟩
  | d :: ds, τ, S, q => ⟨q.1, hg.mono _ _ _ _ _ (fun τ1 S1 z => hb.mono { A with nx := dLoop g tb A G ds, ct := dLoop g tb A G ds, bk := A.nx } { B with nx := dLoop g tb B G ds, ct := dLoop g tb B G ds, bk := B.nx } _ _ ⟨fun τ S w => dLoop_mono hg hb le ds τ S w, le.rt, le.nx, fun τ S w => dLoop_mono hg hb le ds τ S w, le.xe⟩ z) q.2⟩
theorem drop_at {α : Type} {ds : List α} {i : Nat} {d : α} (h : ds[i]? = some d) : ds.drop i = d :: ds.drop (i + 1) := by
  obtain ⟨hi, e⟩ := List.getElem?_eq_some_iff.mp h
  rw [List.drop_eq_getElem_cons hi, e]
theorem ds_for (hp : PassesOwn (model X.prog X.w) X.A X.env X.xe) (hc : X.calm = true) (hi : DI X tg iter ti) (hg : DG X tg g) (hb : DSs X body tb) (hs : ∀ x, foldedSetIterable iter X.env x = pure x := by intro _; rfl) :
    DS X (.For tg iter body [] pos) (dFor ti g tb) := by
  refine ⟨fun A B τ S le q => hi.mono _ _ _ _ _ _ le.xe (fun G ds S' z => dLoop_mono hg hb le ds τ S' z) q, pS_imp (ps_for hp hc hi.run hg.run hb.run hs) fun D σ H ⟨E, τ, S, w, r, q⟩ => ?_⟩
  refine hi.to w r q fun G ds S0 J H0 le0 w0 r0 f z => ?_
  refine ⟨fun i m σ' H' => m = ds.length - i ∧ i ≤ ds.length ∧ LeH H0 H' ∧ ∃ τ' S', Rel X.w X.K τ' S' σ' H' ∧ dLoop g tb (dnE X.w X.K H D E) G (ds.drop i) τ' S', ⟨ds.length, by omega, Nat.zero_le _, LeH.refl H0, τ, S0, r0, z⟩, ?_⟩
  rintro i m σ1 H1 ⟨rfl, hle, le1, τ1, S1, r1, q1⟩
  by_cases hlt : i < ds.length
  · have e0 : ds[i]? = some ds[i] := List.getElem?_eq_getElem hlt
    rw [drop_at e0] at q1
    obtain ⟨hG, q1⟩ := q1
    refine .inr ⟨f.go i S1 H1 le1 r1.rep hG hlt, fun σ2 H2 => LeH H0 H2 ∧ ∃ τ' S', Rel X.w X.K τ' S' σ2 H2 ∧ dLoop g tb (dnE X.w X.K H D E) G (ds.drop (i + 1)) τ' S', fun σ2 H2 ⟨l, y⟩ => ⟨ds.length - (i + 1), by omega, rfl, hlt, l, y⟩, fun x H2 hy => ?_⟩
    obtain ⟨le2, rp2, d, ed, rd⟩ := f.yld i S1 H1 x H2 le1 r1.rep hG hlt hy
    rw [e0] at ed
    cases ed
    refine hg.to (r1.le le2 rp2) rd q1 fun τ3 S3 σ3 H3 le3 r3 q3 => ?_
    have l03 := le1.trans (le2.trans le3)
    refine hb.to (w0.le l03) r3 q3 ⟨?_, ?_, ?_, ?_, fun _ _ _ _ y => y⟩
    · exact fun τ4 S4 y σ4 H4 le4 r4 => ⟨l03.trans le4, τ4, S4, r4, y⟩
    · exact fun d S4 y v H4 le4 r4 rd => y v H4 (le0.trans (l03.trans le4)) r4 rd
    · exact fun τ4 S4 y σ4 H4 le4 r4 => y σ4 H4 (le0.trans (l03.trans le4)) r4
    · exact fun τ4 S4 y σ4 H4 le4 r4 => ⟨l03.trans le4, τ4, S4, r4, y⟩
  · have e : i = ds.length := by omega
    subst e
    rw [List.drop_length] at q1
    exact .inl ⟨f.stop S1 H1 le1 r1.rep q1.1, q1.2 σ1 H1 (le0.trans le1) r1⟩
end
/-! ### comprehensions -/
@[simp] def wipeD (τ : DSt) : List Nat → DSt
  | [] => τ
  | v :: vs => (wipeD τ vs).set v none
theorem RSt.wipe {K : PySem.W.Frag} {H : Hp} {τ : DSt} {σ : St} (r : RSt K H τ σ) : ∀ vs : List Nat, RSt K H (wipeD τ vs) (L2.wipe σ vs)
  | [] => r
  | v :: vs => by
    have q := RSt.wipe r vs
    refine ⟨by simp only [wipeD, L2.wipe, List.length_set]; exact q.len, fun i d e => ?_⟩
    simp only [wipeD, L2.wipe, List.getElem?_set] at e ⊢
    by_cases z : v = i
    · rw [if_pos z] at e
      split at e <;> cases e
    · rw [if_neg z] at e
      rw [if_neg z]
      exact q.get i d e
@[simp] def dLcL (g : DTG) (tt : DTT) (te : DTE) (E : DW) (τ : DSt) (G : DH → Prop) (p : Addr) (Q : DH → Prop) : List D → DH → Prop
  | [], S => G S ∧ Q S
  | d :: ds, S => G S ∧ g d τ S fun τ1 S1 => tt E τ1 S1 fun b S2 => if b = true then te E τ1 S2 fun y S3 => (match S3 p with | some (.lst acc) => acc.length < sizeLine ∧ dLcL g tt te E τ G p Q ds (upo S3 p (.lst (acc ++ [y]))) | _ => False) else dLcL g tt te E τ G p Q ds S2
@[simp] def dLc (ti : DTI) (g : DTG) (tt : DTT) (te : DTE) (vs : List Nat) : DTE := fun E τ S Q => ti E τ S fun G ds S' => newO S' (.lst []) fun p S1 => dLcL g tt te DW0 (wipeD τ vs) G p (Q (.ref p)) ds S1
structure DTs (X : Cx) (ifs : List Expr) (t : DTT) : Prop where
  mono : ∀ (E E' : DW) τ S (Q Q' : Bool → DH → Prop), (∀ C fs τ S, E C fs τ S → E' C fs τ S) → (∀ d S', Q d S' → Q' d S') → t E τ S Q → t E' τ S Q'
  run : PTs X ifs (upT X t)
@[simp] def dYes : DTT := fun _ _ S Q => Q true S
section
variable {X : Cx} {c : Expr} {t : DTT}
theorem pTs_imp {ifs : List Expr} {t t' : TT} (h : PTs X ifs t) (k : ∀ σ H Q, t' σ H Q → t σ H Q) : PTs X ifs t' := ⟨fun pins s σ H Q I q => h.run pins s σ H Q I (k σ H Q q)⟩
theorem dts_nil : DTs X [] dYes := ⟨fun _ _ _ _ _ _ _ k q => k _ _ q, pTs_imp pts_nil fun σ H Q ⟨E, τ, S, w, r, q⟩ => q H (LeH.refl H) r.rep⟩
theorem dts_one (h : DT X c t) : DTs X [c] t := ⟨h.mono, pts_one h.run⟩
end
def upT0 (w : World) (K : PySem.W.Frag) (t : DTT) : TT := fun σ H Q => ∃ τ S, Rel w K τ S σ H ∧ t DW0 τ S fun b S' => ∀ H', LeH H H' → Rep w K S' H' → Q b H'
def upE0 (w : World) (K : PySem.W.Frag) (t : DTE) : TE := fun σ H Q => ∃ τ S, Rel w K τ S σ H ∧ t DW0 τ S fun d S' => ∀ v H', LeH H H' → Rep w K S' H' → RD K H' d v → Q v H'
theorem DTs.zero {X : Cx} {ifs : List Expr} {t : DTT} (h : DTs X ifs t) : PTs X ifs (upT0 X.w X.K t) := pTs_imp h.run fun σ H Q ⟨τ, S, r, q⟩ => ⟨DW0, τ, S, wish0, r, q⟩
theorem DE.zero {X : Cx} {e : Expr} {t : DTE} (h : DE X e t) : PE X e (upE0 X.w X.K t) := pE_imp h.run fun σ H Q ⟨τ, S, r, q⟩ => ⟨DW0, τ, S, wish0, r, q⟩
theorem wipe_get (σ : L2.St) (j : Nat) : ∀ vs : List Nat, (L2.wipe σ vs)[j]? = if j ∈ vs then σ[j]?.map (fun _ => none) else σ[j]?
  | [] => by simp [L2.wipe]
  | v :: vs => by
    rw [L2.wipe, List.getElem?_set, L2.wipe_length, wipe_get σ j vs]
    by_cases e : v = j
    · subst e
      by_cases l : v < σ.length
      · simp [l]
      · simp [l]
    · have e' : ¬ j = v := fun z => e z.symm
      rw [if_neg e]
      by_cases m : j ∈ vs
      · simp [m]
      · simp [m, e']
theorem wipe_set {σ : L2.St} {i : Nat} {x : Option V} {vs : List Nat} (h : i ∈ vs) : L2.wipe (σ.set i x) vs = L2.wipe σ vs := by
  refine List.ext_getElem? fun j => ?_
  rw [wipe_get, wipe_get, List.getElem?_set]
  by_cases e : i = j
  · subst e
    rw [if_pos h, if_pos h, if_pos rfl]
    by_cases l : i < σ.length
    · simp [l]
    · simp [l]
  · rw [if_neg e]
theorem wipe_wipe (σ : L2.St) (vs : List Nat) : L2.wipe (L2.wipe σ vs) vs = L2.wipe σ vs := by
  refine List.ext_getElem? fun j => ?_
  rw [wipe_get, wipe_get]
  by_cases m : j ∈ vs
  · rw [if_pos m, if_pos m]
    cases σ[j]? <;> rfl
  · rw [if_neg m]
/-- a target that stores in vs alone -/
def upGw (w : World) (K : PySem.W.Frag) (vs : List Nat) (t : DTG) : TG := fun v σ H Q => ∃ d τ S, Rel w K τ S σ H ∧ RD K H d v ∧ t d τ S fun τ' S' => ∀ σ' H', LeH H H' → Rel w K τ' S' σ' H' → L2.wipe σ' vs = L2.wipe σ vs → Q σ' H'
def upGsw (w : World) (K : PySem.W.Frag) (vs : List Nat) (t : DTGs) : TGs := fun us σ H Q => ∃ ds τ S, Rel w K τ S σ H ∧ RDs K H ds us ∧ t ds τ S fun τ' S' => ∀ σ' H', LeH H H' → Rel w K τ' S' σ' H' → L2.wipe σ' vs = L2.wipe σ vs → Q σ' H'
structure DGw (X : Cx) (vs : List Nat) (tg : Expr) (t : DTG) : Prop where
  mono : ∀ d τ S (Q Q' : DSt → DH → Prop), (∀ τ S, Q τ S → Q' τ S) → t d τ S Q → t d τ S Q'
  run : PG X tg (upGw X.w X.K vs t)
structure DGsw (X : Cx) (vs : List Nat) (tg : List Expr) (t : DTGs) : Prop where
  mono : ∀ d τ S (Q Q' : DSt → DH → Prop), (∀ τ S, Q τ S → Q' τ S) → t d τ S Q → t d τ S Q'
  run : PGs X tg (upGsw X.w X.K vs t)
section
variable {X : Cx} {tg e : Expr} {tgs : List Expr} {t : DTG} {ts : DTGs} {te : DTE} {pos : Pos} {vs : List Nat}
theorem dw_name {i : Nat} {x : Str} (hN : X.N.Nodup) (hi : X.N[i]? = some x) (hx : Loc X.env.scope x) (hv : i ∈ vs) (hf : X.fn x = true ∨ X.env.scope.names.lookup x = some .local := by first | exact .inl rfl | exact .inr rfl | assumption) : DGw X vs (.Name x pos) (dGN i) :=
  ⟨fun _ _ _ _ _ k q => k _ _ q, pG_imp (pg_name hN hi hx hf) fun v σ H Q ⟨d, τ, S, r, rd, q⟩ => q _ _ (LeH.refl H) ⟨r.st.set i rd, r.rep⟩ (wipe_set hv)⟩
theorem dws_nil : DGsw X vs [] dGNil := by
  refine ⟨dgs_nil.mono (X := X), pGs_imp pgs_nil fun us σ H Q ⟨ds, τ, S, r, rd, q⟩ => ?_⟩
  cases ds with
  | nil => exact ⟨rd, q σ H (LeH.refl H) r rfl⟩
  | cons _ _ => exact q.elim
theorem dws_cons (h1 : DGw X vs tg t) (h2 : DGsw X vs tgs ts) (hs : (assignEach (tg :: tgs) X.env).map (·.2) = assign tg X.env :: (assignEach tgs X.env).map (·.2) := by rfl) : DGsw X vs (tg :: tgs) (dGCons t ts) := by
  refine ⟨fun ds _ _ _ _ k q => ?_, pGs_imp (pgs_cons h1.run h2.run hs) fun us σ H Q ⟨ds, τ, S, r, rd, q⟩ => ?_⟩
  · cases ds with
    | nil => exact q
    | cons d r => exact h1.mono _ _ _ _ _ (fun _ _ z => h2.mono _ _ _ _ _ k z) q
  · cases ds with
    | nil => exact q.elim
    | cons d ds =>
      obtain ⟨v, s, rfl, rd1, rd2⟩ := rd
      refine ⟨v, s, rfl, d, τ, S, r, rd1, h1.mono _ _ _ _ _ (fun τ' S' z σ' H' le r' hw => ?_) q⟩
      exact ⟨ds, τ', S', r', rd2.le le, h2.mono _ _ _ _ _ (fun τ2 S2 z2 σ2 H2 le2 r2 hw2 => z2 σ2 H2 (le.trans le2) r2 (hw2.trans hw)) z⟩
theorem dw_tup {es : List Expr} {k : Nat} {n : Nat} (hc : X.calm = true) (h : DGsw X vs es ts) (hn : (assignEach es X.env).length = n := by rfl) (hst : (assignEach es X.env).findIdx? (·.1) = none := by rfl) : DGw X vs (.Tuple es k pos) (dGTup n ts) := by
  refine ⟨fun d _ _ _ _ k q => ?_, pG_imp (pg_tup hc h.run hn hst) fun v σ H Q ⟨d, τ, S, r, rd, q⟩ => ?_⟩
  · cases d with
    | tup ds => exact ⟨q.1, h.mono _ _ _ _ _ k q.2⟩
    | _ => exact q
  · cases d with
    | tup ds =>
      obtain ⟨p, xs, rfl, sq, rds⟩ : ∃ p xs, v = V.ref p ∧ SqT X.K H p xs ∧ RDs X.K H ds xs := rd
      exact ⟨p, xs, rfl, sq, by rw [← rds.length]; exact q.1, ds, τ, S, r, rds, q.2⟩
    | _ => exact q.elim
end
/-- the block's parts, at any block -/
structure Blk (X : Cx) (scope : Scope) (vs : List Nat) (elt tg : Expr) (ifs : List Expr) (g : DTG) (tt : DTT) (te : DTE) : Prop where
  hg : ∀ (s : Shared) (H : Hp) (C : Addr) (cl : List (Str × Addr)) (fp : List Addr), DGw (X.blk s H scope (compEnvC scope cl C X.env) fp) vs tg g
  ht : ∀ (s : Shared) (H : Hp) (C : Addr) (cl : List (Str × Addr)) (fp : List Addr), DTs (X.blk s H scope (compEnvC scope cl C X.env) fp) ifs tt
  he : ∀ (s : Shared) (H : Hp) (C : Addr) (cl : List (Str × Addr)) (fp : List Addr), DE (X.blk s H scope (compEnvC scope cl C X.env) fp) elt te
section
variable {X : Cx} {elt tg iter : Expr} {ifs : List Expr} {scope : Scope} {own : List (Str × Nat)} {pos spos py : Pos} {ti : DTI} {g : DTG} {tt : DTT} {te : DTE}
theorem dLcL_mono {X' : Cx} {vs : List Nat} (hg : DGw X' vs tg g) (ht : DTs X' ifs tt) (he : DE X' elt te) {E : DW} {τ : DSt} {G : DH → Prop} {p : Addr} {Q Q' : DH → Prop} (k : ∀ S, Q S → Q' S) : ∀ (ds : List D) (S : DH), dLcL g tt te E τ G p Q ds S → dLcL g tt te E τ G p Q' ds S
  | [], _, q => ⟨q.1, k _ q.2⟩
  | d :: ds, S, q => ⟨q.1, hg.mono _ _ _ _ _ (fun τ1 S1 z => ht.mono _ _ _ _ _ _ (fun _ _ _ _ y => y) (fun b S2 z => by
      cases b with
      | true =>
        refine he.mono _ _ _ _ _ _ (fun _ _ _ _ y => y) (fun y S3 z => ?_) z
        split at z
        · exact ⟨z.1, dLcL_mono hg ht he k ds _ z.2⟩
        · exact z
      | false => exact dLcL_mono hg ht he k ds _ z) z) q.2⟩
theorem dLc_mono {vs : List Nat} (hi : DI X tg iter ti) (B : Blk X scope vs elt tg ifs g tt te) (E E' : DW) (τ : DSt) (S : DH) (Q Q' : DK) (he : ∀ C fs τ S, E C fs τ S → E' C fs τ S) (k : ∀ d S', Q d S' → Q' d S') (q : dLc ti g tt te vs E τ S Q) : dLc ti g tt te vs E' τ S Q' :=
  hi.mono _ _ _ _ _ _ he (fun G ds S' z p hp => dLcL_mono (B.hg X.s_0 (fun _ => none) 0 [] []) (B.ht X.s_0 (fun _ => none) 0 [] []) (B.he X.s_0 (fun _ => none) 0 [] []) (fun S h => k _ _ h) ds _ (z p hp)) q
theorem dLc_up {vs : List Nat} (hi : DI X tg iter ti) (B : Blk X scope vs elt tg ifs g tt te) {σ : L2.St} {H : Hp} {Q : VK} (h : upE X (dLc ti g tt te vs) σ H Q) : tLc (upI X ti) (upGw X.w X.K vs g) (upT0 X.w X.K tt) (upE0 X.w X.K te) vs σ H Q := by
  obtain ⟨E, τ, S, w, r, q⟩ := h
  refine hi.to w r q fun G ds S0 J H0 le0 w0 r0 f z => fun p hp => ?_
  have z1 := z p (r0.rep.free hp)
  refine ⟨fun i m H' => m = ds.length - i ∧ i ≤ ds.length ∧ LeH H0 H' ∧ ∃ S', Rep X.w X.K S' H' ∧ dLcL g tt te DW0 (wipeD τ vs) G p (fun S => ∀ v H', LeH H H' → Rep X.w X.K S H' → RD X.K H' (.ref p) v → Q v H') (ds.drop i) S', ⟨ds.length, by omega, Nat.zero_le _, LeH.new hp, _, r0.rep.new hp (o := .lst []) ⟨[], upd_same, rfl⟩, z1⟩, ?_⟩
  rintro i m H1 ⟨rfl, hle, le1, S1, r1, q1⟩
  have st1 : RSt X.K H1 (wipeD τ vs) (L2.wipe σ vs) := (r0.st.wipe vs).le le1
  by_cases hlt : i < ds.length
  · have e0 : ds[i]? = some ds[i] := List.getElem?_eq_getElem hlt
    rw [drop_at e0] at q1
    obtain ⟨hG, q1⟩ := q1
    have again : ∀ S' H', LeH H1 H' → Rep X.w X.K S' H' → dLcL g tt te DW0 (wipeD τ vs) G p (fun S => ∀ v H', LeH H H' → Rep X.w X.K S H' → RD X.K H' (.ref p) v → Q v H') (ds.drop (i + 1)) S' →
        LeH H0 H' ∧ ∃ S', Rep X.w X.K S' H' ∧ dLcL g tt te DW0 (wipeD τ vs) G p (fun S => ∀ v H', LeH H H' → Rep X.w X.K S H' → RD X.K H' (.ref p) v → Q v H') (ds.drop (i + 1)) S' := fun S' H' le r' y => ⟨le1.trans le, S', r', y⟩
    refine .inr ⟨f.go i S1 H1 le1 r1 hG hlt, _, fun H2 y => ⟨ds.length - (i + 1), by omega, rfl, hlt, y⟩, fun x H2 hy => ?_⟩
    obtain ⟨le2, rp2, d, ed, rd⟩ := f.yld i S1 H1 x H2 le1 r1 hG hlt hy
    rw [e0] at ed
    cases ed
    refine ⟨ds[i], wipeD τ vs, S1, ⟨st1.le le2, rp2⟩, rd, (B.hg X.s_0 (fun _ => none) 0 [] []).mono _ _ _ _ _ (fun τ3 S3 q3 σ3 H3 le3 r3 hw => ?_) q1⟩
    refine ⟨hw.trans (wipe_wipe σ vs), τ3, S3, r3, (B.ht X.s_0 (fun _ => none) 0 [] []).mono _ _ _ _ _ _ (fun _ _ _ _ y => y) (fun b S4 q4 H4 le4 r4 => ?_) q3⟩
    cases b with
    | false => exact again S4 H4 (le2.trans (le3.trans le4)) r4 q4
    | true =>
      refine ⟨τ3, S4, ⟨r3.st.le le4, r4⟩, (B.he X.s_0 (fun _ => none) 0 [] []).mono _ _ _ _ _ _ (fun _ _ _ _ y => y) (fun y S5 q5 v H5 le5 r5 rv => ?_) q4⟩
      split at q5
      · rename_i acc ea
        obtain ⟨xs, hx, rxs⟩ : ∃ xs, H5 p = some (.lst xs) ∧ RDs X.K H5 acc xs := r5 p _ ea
        have le6 : LeH H5 (upd H5 p (.lst (xs ++ [v]))) := LeH.put hx trivial
        exact ⟨xs, hx, by rw [← rxs.length]; exact q5.1, again _ _ (le2.trans (le3.trans (le4.trans (le5.trans le6)))) (r5.put hx trivial (o := .lst (acc ++ [y])) ⟨_, upd_same, (rxs.snoc rv).le le6⟩) q5.2⟩
      · exact q5.elim
  · have e : i = ds.length := by omega
    subst e
    rw [List.drop_length] at q1
    exact .inl ⟨f.stop S1 H1 le1 r1 q1.1, q1.2 _ H1 (le0.trans le1) r1 rfl⟩
theorem de_lc (hc : X.calm = true) (hN : X.N.Nodup) (hi : DI X tg iter ti) (ok : BlkOk X.N X.env.scope scope own) (B : Blk X scope (own.map (·.2)) elt tg ifs g tt te) (hs : ∀ x, foldedSetIterable iter X.env x = pure x := by intro _; rfl) :
    DE X (.ListComp elt [⟨tg, iter, ifs, 0⟩] scope pos) (dLc ti g tt te (own.map (·.2))) :=
  ⟨dLc_mono hi B, pE_imp (pe_lc (g := upGw X.w X.K (own.map (·.2)) g) (tt := upT0 X.w X.K tt) (te := upE0 X.w X.K te) hc hN hi.run ok (fun s H C cl fp => (B.hg s H C cl fp).run) (fun s H C cl fp => (B.ht s H C cl fp).zero) (fun s H C cl fp => (B.he s H C cl fp).zero) hs) fun σ H Q h => dLc_up hi B h⟩
theorem ds_setLc {i : Nat} {y : Str} (hc : X.calm = true) (hN : X.N.Nodup) (hy : X.N[i]? = some y) (hyl : X.env.scope.names.lookup y = some .local)
    (hsw : swapsWith (.ListComp elt [⟨tg, iter, ifs, 0⟩] scope pos) (some (.Name y py)) spos.line X.env = pure true) (hi : DI X tg iter ti) (ok : BlkOk X.N X.env.scope scope own) (B : Blk X scope (own.map (·.2)) elt tg ifs g tt te)
    (hs : ∀ x, foldedSetIterable iter X.env x = pure x := by intro _; rfl) : DS X (.Assign [.Name y py] (.ListComp elt [⟨tg, iter, ifs, 0⟩] scope pos) spos) (dAsg (dLc ti g tt te (own.map (·.2))) (dGN i)) := by
  refine ⟨fun A B' τ S le q => dLc_mono hi B _ _ _ _ _ _ le.xe (fun _ _ z => le.nx _ _ z) q, pS_imp (ps_setLc (g := upGw X.w X.K (own.map (·.2)) g) (tt := upT0 X.w X.K tt) (te := upE0 X.w X.K te) hc hN hy hyl hsw hi.run ok (fun s H C cl fp => (B.hg s H C cl fp).run) (fun s H C cl fp => (B.ht s H C cl fp).zero) (fun s H C cl fp => (B.he s H C cl fp).zero) hs) fun D σ H ⟨E, τ, S, w, r, q⟩ => ?_⟩
  refine dLc_up hi B ⟨E, τ, S, w, r, dLc_mono hi B _ _ _ _ _ _ (fun _ _ _ _ z => z) (fun d S' z v H' le rp rd => ?_) q⟩
  exact z _ H' le ⟨(r.st.le le).set i rd, rp⟩
end
end Dt
set_option maxRecDepth 100000
set_option maxHeartbeats 4000000
/-! Dat3: defs and their promises, calls, instances. -/
namespace Dt
open PySem PySem.Spec L2

abbrev DXK := Addr → List (Str × D) → DH → Prop
abbrev DSp := List D → DH → DK → DXK → Prop
def lQ (w : World) (K : PySem.W.Frag) (H : Hp) (Q : VK) : DK := fun d S' => ∀ v H', LeH H H' → Rep w K S' H' → RD K H' d v → Q v H'
def lX (w : World) (K : PySem.W.Frag) (H : Hp) (E : XK) : DXK := fun C fs S' => ∀ dd ws H', LeH H H' → Rep w K S' H' → H' dd = some (.xd ws) → RKs K H' fs ws → E (.ref C) (some dd) H'
def upSp (w : World) (K : PySem.W.Frag) (sp : DSp) : Sp := fun vs H Q E => ∃ ds S, Rep w K S H ∧ RDs K H ds vs ∧ sp ds S (lQ w K H Q) (lX w K H E)
structure DFn (P : Program) (w : World) (K : PySem.W.Frag) (mg : Str → Option Value) (base : Heap) (k : Nat) (f : Addr) (fd : FuncData) (ps : List Str) (sp : DSp) : Prop where
  mono : ∀ ds S (Q Q' : DK) (E E' : DXK), (∀ d S', Q d S' → Q' d S') → (∀ C fs S', E C fs S' → E' C fs S') → sp ds S Q E → sp ds S Q' E'
  len : ∀ ds S Q E, sp ds S Q E → ds.length = ps.length
  run : ∀ (A : Around) (outer : List Env) (s : Shared) (H : Hp) (args : Args) (us : List Value) (vs : List V) (Q : VK) (E : XK), Room k A → A.guards = some [] → Env0 P w K mg base A outer s H → BindsTo s fd args (ps.zip us) → Vals vs us →
    upSp w K sp vs H Q E → codeAny (model P w) A (.call (.ref f) args) (CR (L2.CX P w) outer P w H s Q E) s
theorem DFn.more {P : Program} {w : World} {K : PySem.W.Frag} {mg : Str → Option Value} {base : Heap} {j k : Nat} {f : Addr} {fd : FuncData} {ps : List Str} {sp : DSp} (F : DFn P w K mg base j f fd ps sp) (h : j ≤ k) : DFn P w K mg base k f fd ps sp :=
  ⟨F.mono, F.len, fun A outer s H args us vs Q E hr => F.run A outer s H args us vs Q E (hr.mono h)⟩

section
variable {X : Cx} {k : Nat} {f C : Addr} {fd : FuncData} {ps : List Str} {sp : DSp} {x m : Str} {p pos apos : Pos} {e o : Expr} {es : List Expr} {ta : DTE} {t : DTA}
theorem run_dfn {pins : List (Addr × Obj)} {s : Shared} {us : List Value} {vs : List V} {ds : List D} {E : DW} {τ : DSt} {S : DH} {σ : L2.St} {H : Hp} {Q0 : DK} {Q : VK} (F : DFn X.prog X.w X.K X.mg X.base k f fd ps sp) (hr : Room k X.A) (gu : X.A.guards = some []) (hb : Binds X.K fd ps [])
    (I : Inv X pins σ H s) (w : Wish X E H) (rl : Rel X.w X.K τ S σ H) (r : Vals vs us) (rd : RDs X.K H ds vs) (h : sp ds S Q0 (fun C fs S' => E C fs τ S')) (kq : ∀ d S' v H', LeH H H' → Rep X.w X.K S' H' → RD X.K H' d v → Q0 d S' → Q v H') :
    wpAny (model X.prog X.w) X.A (call (.ref f) us) (EP X pins σ Q) X.xe s := by
  have hl : (us ++ []).length = ps.length := by rw [List.append_nil, ← r.length, ← rd.length]; exact F.len _ _ _ _ h
  have hbd := hb s us I.kIn hl
  rw [List.append_nil] at hbd
  refine wpAny_call (codeAny_mono (F.run X.A X.stack s H ⟨us, []⟩ us vs Q (fun cls d H' => upW X.w X.K E H cls d σ H') hr gu I.env0 hbd r ⟨ds, S, rl.rep, rd, F.mono _ _ _ _ _ _ (fun d S' q v H' le rp rv => kq d S' v H' le rp rv q)
    (fun C fs S' q dd ws H' le rp hx rk => ⟨C, fs, τ, S', dd, ws, rfl, rfl, le, rl.le le rp, hx, rk, q⟩) h⟩) fun r s' hq => ?_)
  cases r with
  | error e => exact w e s' (XE.of_call I (fun _ _ _ h => h) hq)
  | ok fl =>
    cases fl with
    | ret u => exact I.after hq
    | next => exact False.elim hq
    | brk => exact False.elim hq
    | cont => exact False.elim hq
@[simp] def dCall (sp : DSp) (t : DTA) : DTE := fun E τ S Q => t E τ S fun ds S1 => sp ds S1 Q fun C fs S' => E C fs τ S'
theorem de_call (F : DFn X.prog X.w X.K X.mg X.base k f fd ps sp) (hr : Room k X.A) (gu : X.A.guards = some []) (hg : Gl X x) (hm : X.mg x = some (.ref f)) (hk : PySem.W.keepIn X.K (.ref f) = true) (hb : Binds X.K fd ps []) (ha : DA X (e :: es) t)
    (hdb : (x == ("__debug__" : Str)) = false := by decide) (he : starEach (e :: es) X.env = (false, eval e X.env) :: starEach es X.env := by rfl) (hpl : (backTo pos (starEach es X.env)).any (·.1) = false := by rfl) :
    DE X (.Call (.Name x p) (e :: es) [] pos) (dCall sp t) := by
  refine ⟨fun E E' τ S Q Q' hE kq q => ha.mono _ _ _ _ _ _ hE (fun ds S1 z => F.mono _ _ _ _ _ _ kq (fun C fs S' y => hE _ _ _ _ y) z) q, ⟨fun pins s σ H Q I ⟨E, τ, S, w, r, q⟩ => ?_⟩⟩
  refine PySem.wpAny_Call_Name_kw (ld_glob I hg hm ?_ hdb)
  refine PySem.W.callWith_K (h₀ := X.base) I.ok.mod.kin hk (thn (ha.run.run pos pins s σ H _ I (ha.to w r q fun ds S1 vs H1 le1 w1 r1 rd1 z => (⟨LeH.refl H1, le1, w1, r1, rd1, z⟩ : LeH H1 H1 ∧ LeH H H1 ∧ Wish X E H1 ∧ Rel X.w X.K τ S1 σ H1 ∧ RDs X.K H1 ds vs ∧ _) |> fun a => (⟨ds, S1, a⟩ : ∃ ds S1, LeH H1 H1 ∧ LeH H H1 ∧ Wish X E H1 ∧ Rel X.w X.K τ S1 σ H1 ∧ RDs X.K H1 ds vs ∧ sp ds S1 (fun d S' => ∀ v H', LeH H H' → Rep X.w X.K S' H' → RD X.K H' d v → Q v H') fun C fs S' => E C fs τ S'))) fun us s1 ⟨vs, H1, I1, rv, ds, S1, _, le1, w1, r1, rd1, z⟩ => ⟨I1.kIn, ?_⟩) he hpl
  exact run_dfn F hr gu hb I1 w1 r1 rv rd1 z fun d S' v H' le rp rd q2 => q2 v H' (le1.trans le) rp rd
theorem de_call0 (F : DFn X.prog X.w X.K X.mg X.base k f fd ps sp) (hr : Room k X.A) (gu : X.A.guards = some []) (hg : Gl X x) (hm : X.mg x = some (.ref f)) (hk : PySem.W.keepIn X.K (.ref f) = true) (hb : Binds X.K fd ps [])
    (hdb : (x == ("__debug__" : Str)) = false := by decide) : DE X (.Call (.Name x p) [] [] pos) (dCall sp dNil) := by
  refine ⟨fun E E' τ S Q Q' hE kq q => F.mono _ _ _ _ _ _ kq (fun C fs S' y => hE _ _ _ _ y) q, ⟨fun pins s σ H Q I ⟨E, τ, S, w, r, q⟩ => ?_⟩⟩
  refine PySem.wpAny_Call_Name_kw (ld_glob I hg hm ?_ hdb)
  exact PySem.W.callWith_K0 I.kIn hk (run_dfn (us := []) F hr gu hb I w r .nil .nil q fun d S' v H' le rp rd q2 => q2 v H' le rp rd)

/-! ### fields of instances -/
theorem RKs.lookup {K : PySem.W.Frag} {H : Hp} : ∀ {fs : List (Str × D)} {ws : List (Str × V)} (f : Str), RKs K H fs ws → match fs.lookup f, ws.lookup f with | some d, some v => RD K H d v | none, none => True | _, _ => False
  | [], _, f, h => by cases h; trivial
  | (j, d) :: r, _, f, h => by
    obtain ⟨v, s, rfl, h1, h2⟩ := h
    simp only [List.lookup_cons]
    cases e : f == j with
    | true => exact h1
    | false => exact RKs.lookup f h2
theorem RKs.lookup_some {K : PySem.W.Frag} {H : Hp} {fs : List (Str × D)} {ws : List (Str × V)} {f : Str} {d : D} (h : RKs K H fs ws) (e : fs.lookup f = some d) : ∃ v, ws.lookup f = some v ∧ RD K H d v := by
  have := h.lookup f
  rw [e] at this
  cases q : ws.lookup f with
  | none => rw [q] at this; exact this.elim
  | some v => rw [q] at this; exact ⟨v, rfl, this⟩
theorem RKs.lookup_none {K : PySem.W.Frag} {H : Hp} {fs : List (Str × D)} {ws : List (Str × V)} {f : Str} (h : RKs K H fs ws) (e : fs.lookup f = none) : ws.lookup f = none := by
  have := h.lookup f
  rw [e] at this
  cases q : ws.lookup f with
  | none => rfl
  | some v => rw [q] at this; exact this.elim
/-- o.m(..) -/
@[simp] def dMeth (C : Addr) (m : Str) (sp : DSp) (ta : DTE) (t : DTA) : DTE := fun E τ S Q => ta E τ S fun d S1 => match d with
  | .ref a => (match S1 a with | some (.ins C' fs) => C' = C ∧ fs.lookup m = none ∧ t E τ S1 fun ds S2 => sp (.ref a :: ds) S2 Q fun C fs S' => E C fs τ S' | _ => False)
  | _ => False
theorem dMeth_mono {t : DTA} (F : DFn X.prog X.w X.K X.mg X.base k f fd ps sp) (he : DE X o ta) (ma : ∀ (E E' : DW) τ S (Q Q' : List D → DH → Prop), (∀ C fs τ S, E C fs τ S → E' C fs τ S) → (∀ d S', Q d S' → Q' d S') → t E τ S Q → t E' τ S Q')
    (E E' : DW) (τ : DSt) (S : DH) (Q Q' : DK) (hE : ∀ C fs τ S, E C fs τ S → E' C fs τ S) (kq : ∀ d S', Q d S' → Q' d S') (q : dMeth C m sp ta t E τ S Q) : dMeth C m sp ta t E' τ S Q' :=
  he.mono _ _ _ _ _ _ hE (fun d S1 z => by
    cases d with
    | ref a =>
      revert z
      show (match S1 a with | some (.ins C' fs) => _ | _ => False) → (match S1 a with | some (.ins C' fs) => _ | _ => False)
      split
      · exact fun z => ⟨z.1, z.2.1, ma _ _ _ _ _ _ hE (fun ds S2 y => F.mono _ _ _ _ _ _ kq (fun C fs S' u => hE _ _ _ _ u) y) z.2.2⟩
      · exact fun z => z
    | _ => exact z) q
theorem de_meth {pl : Sem Bool} (he : DE X o ta) (c : Cls X.K C) (hm : Meth X.K C m f) (F : DFn X.prog X.w X.K X.mg X.base k f fd ps sp) (hr : Room k X.A) (gu : X.A.guards = some []) (hb : Binds X.K fd ps []) (ha : DA X (e :: es) t)
    (hst : starEach (e :: es) X.env = (false, eval e X.env) :: starEach es X.env := by rfl) (hpl : (backTo pos (starEach es X.env)).any (·.1) = false := by rfl)
    (ht : eval (.Call (.Attribute o m apos) (e :: es) [] pos) X.env = (do let ov ← eval o X.env; standAt apos.atName; let (f, first) ← holding [ov] (getMethod ov m pl); callWith pos f first (backTo pos (starEach (e :: es) X.env)) (backToKw pos (keywordEach [] X.env))) := by rfl) :
    DE X (.Call (.Attribute o m apos) (e :: es) [] pos) (dMeth C m sp ta t) := by
  refine ⟨dMeth_mono F he ha.mono, ⟨fun pins s σ H Q I ⟨E, τ, S, w, r, q⟩ => ?_⟩⟩
  refine PySem.W.methodCall_KW (pl := pl) (thn (he.run.run pins s σ H _ I (he.to w r q fun d S1 v H1 le1 w1 r1 rd1 z => (⟨d, S1, le1, w1, r1, rd1, z⟩ : ∃ d S1, LeH H H1 ∧ Wish X E H1 ∧ Rel X.w X.K τ S1 σ H1 ∧ RD X.K H1 d v ∧ match d with
    | .ref a => (match S1 a with | some (.ins C' fs) => C' = C ∧ fs.lookup m = none ∧ t E τ S1 fun ds S2 => sp (.ref a :: ds) S2 (fun d S' => ∀ v H', LeH H H' → Rep X.w X.K S' H' → RD X.K H' d v → Q v H') fun C fs S' => E C fs τ S' | _ => False)
    | _ => False))) fun u s1 ⟨v, H1, I1, rv, d, S1, le1, w1, r1, rd1, z⟩ => ?_) ht
  cases d with
  | ref a =>
    obtain rfl : v = V.ref a := rd1
    obtain rfl : u = Value.ref a := rv
    revert z
    show (match S1 a with | some (.ins C' fs) => _ | _ => False) → _
    split
    · rename_i C' fs ea
      rintro ⟨rfl, hl, z⟩
      obtain ⟨dx, ws, eh, rk⟩ : ∃ dx ws, H1 a = some (.ins C' dx ws) ∧ RKs X.K H1 fs ws := r1.rep a _ ea
      refine getmeth_ok I1 eh c hm (rk.lookup_none hl) ?_
      refine PySem.W.callWith_K (first := [.ref a]) (h₀ := X.base) I.ok.mod.kin hm.kp (thn (ha.run.run pos pins s1 σ H1 _ I1 (ha.to w1 r1 z fun ds S2 vs H2 le2 w2 r2 rd2 y => (⟨ds, S2, le2, w2, r2, rd2, y⟩ : ∃ ds S2, LeH H1 H2 ∧ Wish X E H2 ∧ Rel X.w X.K τ S2 σ H2 ∧ RDs X.K H2 ds vs ∧
        sp (.ref a :: ds) S2 (fun d S' => ∀ v H', LeH H H' → Rep X.w X.K S' H' → RD X.K H' d v → Q v H') fun C fs S' => E C fs τ S'))) fun us s2 ⟨vs, H2, I2, rv2, ds, S2, le2, w2, r2, rd2, y⟩ => ⟨I2.kIn, ?_⟩) hst hpl
      exact run_dfn (us := .ref a :: us) (vs := .ref a :: vs) F hr gu hb I2 w2 r2 (.cons rfl rv2) (RDs.cons (d := .ref a) rfl rd2) y fun d S' v H' le rp rd q2 => q2 v H' (le1.trans (le2.trans le)) rp rd
    · exact fun z => z.elim
  | _ => exact z.elim
theorem de_meth0 {pl : Sem Bool} (he : DE X o ta) (c : Cls X.K C) (hm : Meth X.K C m f) (F : DFn X.prog X.w X.K X.mg X.base k f fd ps sp) (hr : Room k X.A) (gu : X.A.guards = some []) (hb : Binds X.K fd ps [])
    (ht : eval (.Call (.Attribute o m apos) [] [] pos) X.env = (do let ov ← eval o X.env; standAt apos.atName; let (f, first) ← holding [ov] (getMethod ov m pl); callWith pos f first (backTo pos (starEach [] X.env)) (backToKw pos (keywordEach [] X.env))) := by rfl) :
    DE X (.Call (.Attribute o m apos) [] [] pos) (dMeth C m sp ta dNil) := by
  refine ⟨dMeth_mono F he (fun _ _ _ _ _ _ _ k q => k _ _ q), ⟨fun pins s σ H Q I ⟨E, τ, S, w, r, q⟩ => ?_⟩⟩
  refine PySem.W.methodCall_KW (pl := pl) (thn (he.run.run pins s σ H _ I (he.to w r q fun d S1 v H1 le1 w1 r1 rd1 z => (⟨d, S1, le1, w1, r1, rd1, z⟩ : ∃ d S1, LeH H H1 ∧ Wish X E H1 ∧ Rel X.w X.K τ S1 σ H1 ∧ RD X.K H1 d v ∧ match d with
    | .ref a => (match S1 a with | some (.ins C' fs) => C' = C ∧ fs.lookup m = none ∧ sp [.ref a] S1 (fun d S' => ∀ v H', LeH H H' → Rep X.w X.K S' H' → RD X.K H' d v → Q v H') fun C fs S' => E C fs τ S' | _ => False)
    | _ => False))) fun u s1 ⟨v, H1, I1, rv, d, S1, le1, w1, r1, rd1, z⟩ => ?_) ht
  cases d with
  | ref a =>
    obtain rfl : v = V.ref a := rd1
    obtain rfl : u = Value.ref a := rv
    revert z
    show (match S1 a with | some (.ins C' fs) => _ | _ => False) → _
    split
    · rename_i C' fs ea
      rintro ⟨rfl, hl, z⟩
      obtain ⟨dx, ws, eh, rk⟩ : ∃ dx ws, H1 a = some (.ins C' dx ws) ∧ RKs X.K H1 fs ws := r1.rep a _ ea
      refine getmeth_ok I1 eh c hm (rk.lookup_none hl) ?_
      exact PySem.W.callWith_K0 (first := [.ref a]) I1.kIn hm.kp (run_dfn (us := [.ref a]) (vs := [.ref a]) F hr gu hb I1 w1 r1 (.cons rfl .nil) (RDs.cons (d := .ref a) rfl .nil) z fun d S' v H' le rp rd q2 => q2 v H' (le1.trans le) rp rd)
    · exact fun z => z.elim
  | _ => exact z.elim
end

/-! ### a def by its body -/
def dstart (N : List Str) (ds : List D) : DSt := ds.map some ++ List.replicate (N.length - ds.length) none
theorem dstart_rel {K : PySem.W.Frag} {H : Hp} {N : List Str} {ds : List D} {vs : List V} (r : RDs K H ds vs) : RSt K H (dstart N ds) (L2.start N vs) := by
  refine ⟨by simp [dstart, L2.start, r.length], fun i d e => ?_⟩
  unfold dstart at e
  unfold L2.start
  by_cases l : i < ds.length
  · rw [List.getElem?_append_left (by simpa using l), List.getElem?_map] at e
    rw [List.getElem?_append_left (by simpa [← r.length] using l), List.getElem?_map]
    cases q : ds[i]? with
    | none => rw [q] at e; cases e
    | some d' =>
      rw [q] at e
      cases e
      obtain ⟨v, h1, h2⟩ := r.get q
      exact ⟨v, by rw [h1]; rfl, h2⟩
  · rw [List.getElem?_append_right (by simpa using l), List.getElem?_replicate] at e
    split at e <;> cases e
theorem guards_deeper {A : Around} {env : Env} (h : A.guards = some []) : (A.deeper env).guards = some [] := by
  first | exact h | (simp [Around.deeper, h])
theorem dfn_of {P : Program} {w : World} {K : PySem.W.Frag} {mg : Str → Option Value} {base : Heap} {x qual : Str} {st : Stmt} {f : Addr} {fd : FuncData} {N ps : List Str} {k : Nat} {sp : DSp} {t : DTS} (F : Fun K x qual st f fd) (Sc : FnScope N ps (defScope st))
    (mono : ∀ ds S (Q Q' : DK) (E E' : DXK), (∀ d S', Q d S' → Q' d S') → (∀ C fs S', E C fs S' → E' C fs S') → sp ds S Q E → sp ds S Q' E') (len : ∀ ds S Q E, sp ds S Q E → ds.length = ps.length)
    (hbody : ∀ (cdv : Value) (A : Around) (outer : List Env) (s : Shared) (H : Hp) (E : XK), Room k (A.deeper (PyProof.Rows.envOfC qual (defScope st) s.heap.objs.size f cdv)) → (A.deeper (PyProof.Rows.envOfC qual (defScope st) s.heap.objs.size f cdv)).guards = some [] →
      DSs (cxOf (L2.CX P w) P w K mg base N qual (defScope st) f cdv A outer s H E) (defBody st) t)
    (hsp : ∀ ds S Q E, sp ds S Q E → t { nx := fun _ S' => Q .non S', rt := Q, xe := fun C fs _ S' => E C fs S' } (dstart N ds) S) : DFn P w K mg base (k + 1) f fd ps sp := by
  obtain ⟨oc, od, kV, doc, pm, an, cdv, ct, osl, rfl, lk, hcd⟩ := F.ex
  refine ⟨mono, len, fun A outer s H args us vs Q E hr gu e0 hb r ⟨ds, S, rep, rds, q⟩ => ?_⟩
  have hl : vs.length = ps.length := by rw [← rds.length]; exact len _ _ _ _ q
  have KX : K.In s.heap := e0.mod.kin.keeps fun b o z => (e0.bs b o z).1
  have lim : s.heap.NoLimit := e0.mod.nolimit.keeps fun b o z => (e0.bs b o z).1
  refine codeAny_call_function hr.depth (KX _ _ lk) rfl Sc.co Sc.gen rfl (PySem.W.codeRec_of KX hcd) (hb _ _ _ _ ?_)
  refine wpAny_newFunctionEnv_cells Sc.kind (fun ⟨n, v⟩ hy => ?_) fun env he s1 x => ?_
  · rcases Sc.par n (List.of_mem_zip hy).1 with z | z
    · exact .inl z
    · exact .inr ⟨z, PySem.W.cellsFrom_some _ _ _ (.inl z)⟩
  subst he
  have B := hbody cdv A outer s H E (hr.deeper _) (guards_deeper gu)
  have I : Inv (cxOf (L2.CX P w) P w K mg base N qual (defScope st) f cdv A outer s H E) [] (L2.start N vs) H s1 := inv_start Sc hr.hd e0 hl r x
  have wi : Wish (cxOf (L2.CX P w) P w K mg base N qual (defScope st) f cdv A outer s H E) (fun C fs _ S' => lX w K H E C fs S') H := by
    refine Takes.imp (takes_of (E := E) rfl rfl rfl rfl) fun cls d σ H' h => ?_
    obtain ⟨C, fs, τ, S', dd, ws, rfl, rfl, le, rl, hx, rk, h⟩ := h
    exact h dd ws H' le rl.rep hx rk
  have fin : ∀ {σ' : L2.St} {H' : Hp} {v : V} {u : Value} {s' : Shared}, Inv (cxOf (L2.CX P w) P w K mg base N qual (defScope st) f cdv A outer s H E) [] σ' H' s' → RelV v u → Q v H' → CE outer P w H s Q u s' :=
    fun {σ' H' v u s'} J rv y => ⟨v, H', J.os, J.bare, J.base, J.hok, rv, y⟩
  refine ⟨lim.keeps x.toInCall.keep, codeAny_func (PySem.wpAny_mono (B.run.run [] s1 (L2.start N vs) H { nx := fun _ H' => Q .non H', rt := Q } I ⟨_, dstart N ds, S, wi, ⟨dstart_rel rds, rep⟩, B.mono { nx := fun _ S' => lQ w K H Q .non S', rt := lQ w K H Q, xe := fun C fs _ S' => lX w K H E C fs S' } _ _ _ ⟨fun τ S' h σ H' le r' => ?_, fun d S' h v H' le r' rv => ?_, fun _ _ h => h.elim, fun _ _ h => h.elim, fun _ _ _ _ h => h⟩ (hsp _ _ _ _ q)⟩) (fun fl s' hs => ?_) fun e s' hs => hs)⟩
  · exact h V.non H' le r'.rep rfl
  · exact h v H' le r' rv
  · cases fl with
    | ret u =>
      obtain ⟨v, σ', H', J, rv, y⟩ := hs
      exact fin J rv y
    | next =>
      obtain ⟨σ', H', J, y⟩ := hs
      exact fin (v := V.non) (u := Value.none) J rfl y
    | brk =>
      obtain ⟨_, _, _, y⟩ := hs
      exact y.elim
    | cont =>
      obtain ⟨_, _, _, y⟩ := hs
      exact y.elim
end Dt
set_option maxRecDepth 100000
set_option maxHeartbeats 4000000
/-! DatU: lists that are written no more are values; what is no more needed is let go. -/
namespace Dt
open PySem PySem.Spec L2

def delo (S : DH) (a : Addr) : DH := fun b => if b = a then none else S b
@[simp] theorem delo_upo {S : DH} {p : Addr} {o : Ob} : delo (upo S p o) p = delo S p := by
  funext b
  unfold delo upo
  split <;> rfl
theorem delo_none {S : DH} {p : Addr} (h : S p = none) : delo S p = S := by
  funext b
  unfold delo
  split
  · rename_i e
    rw [e, h]
  · rfl
/-- a data heap that tells less -/
def Sub (S' S : DH) : Prop := ∀ b o, S' b = some o → S b = some o
theorem Sub.refl (S : DH) : Sub S S := fun _ _ h => h
theorem Sub.trans {S1 S2 S3 : DH} (a : Sub S1 S2) (b : Sub S2 S3) : Sub S1 S3 := fun x o h => b x o (a x o h)
theorem Sub.delo (S : DH) (a : Addr) : Sub (delo S a) S := fun b o h => by
  unfold Dt.delo at h
  split at h
  · cases h
  · exact h
theorem Sub.new {S : DH} {p : Addr} {o : Ob} (h : S p = none) : Sub S (upo S p o) := fun b u e => by
  rw [upo_ne (fun z => by subst z; rw [h] at e; cases e)]
  exact e
section
variable {w : World} {K : PySem.W.Frag} {S S' : DH} {H H' : Hp}
theorem Rep.sub (r : Rep w K S H) (h : Sub S' S) : Rep w K S' H := fun a o e => r a o (h a o e)
end
section
variable {X : Cx} {pins : List (Addr × Obj)} {σ : L2.St} {H : Hp} {s : Shared}
/-- the list at a is written no more -/
theorem inv_frz {a : Addr} {xs : List V} (I : Inv X pins σ H s) (e : H a = some (.lst xs)) : ∃ o, Inv X pins σ (upd H a (.frz o (.lst xs))) s := by
  obtain ⟨hz, its, n, r, eo⟩ := I.hok a _ e
  refine ⟨{ cls := .type "list", data := .seq its.toArray n }, ?_⟩
  have := I.write (t' := s.toks) (h' := s.heap) (x := a) (e := a) (o := .frz { cls := .type "list", data := .seq its.toArray n } (.lst xs)) (by rw [e]; trivial) (.inl rfl) (fun _ _ _ q => q) ⟨_, eo⟩ ⟨eo, hz, its, n, r, eo⟩
  exact this
/-! lists that are written no more, and how a value is seen then -/
mutual
inductive Vw (S : DH) (F : List Addr) : D → D → Prop
  | same (d : D) : Vw S F d d
  | lst {a : Addr} {ds es : List D} : S a = some (.lst ds) → a ∈ F → Vws S F ds es → Vw S F (.ref a) (.rol es)
  | tup {ds es : List D} : Vws S F ds es → Vw S F (.tup ds) (.tup es)
  | rol {ds es : List D} : Vws S F ds es → Vw S F (.rol ds) (.rol es)
inductive Vws (S : DH) (F : List Addr) : List D → List D → Prop
  | nil : Vws S F [] []
  | cons {d e : D} {ds es : List D} : Vw S F d e → Vws S F ds es → Vws S F (d :: ds) (e :: es)
end
theorem Vws.same {S : DH} {F : List Addr} : ∀ ds : List D, Vws S F ds ds
  | [] => .nil
  | d :: ds => .cons (.same d) (Vws.same ds)
/-- what stands behind: F's lists are told as values alone -/
def Bhd (S : DH) (F : List Addr) (S' : DH) : Prop := ∀ b o, S' b = some o → S b = some o ∧ b ∉ F
structure Frzn (w : World) (K : PySem.W.Frag) (S : DH) (F : List Addr) (H : Hp) : Prop where
  get : ∀ a ∈ F, ∀ ds, S a = some (.lst ds) → ∃ xs o, H a = some (.frz o (.lst xs)) ∧ RDs K H ds xs
end
section
variable {w : World} {K : PySem.W.Frag} {S : DH} {F : List Addr} {H : Hp}
mutual
theorem Vw.rd (f : Frzn w K S F H) : ∀ {d e : D} {v : V}, Vw S F d e → RD K H d v → RD K H e v
  | _, _, _, .same _, r => r
  | _, _, v, .lst (a := a) (ds := ds) h1 h2 h3, r => by
    obtain rfl : v = .ref a := r
    obtain ⟨xs, o, e, rs⟩ := f.get _ h2 _ h1
    exact ⟨a, xs, rfl, .inl ⟨o, e⟩, Vws.rd f h3 rs⟩
  | _, _, v, .tup h, r => by
    obtain ⟨p, xs, rfl, sq, rs⟩ : ∃ p xs, v = V.ref p ∧ SqT K H p xs ∧ RDs K H _ xs := r
    exact ⟨p, xs, rfl, sq, Vws.rd f h rs⟩
  | _, _, v, .rol h, r => by
    obtain ⟨p, xs, rfl, sq, rs⟩ : ∃ p xs, v = V.ref p ∧ SqR K H p xs ∧ RDs K H _ xs := r
    exact ⟨p, xs, rfl, sq, Vws.rd f h rs⟩
theorem Vws.rd (f : Frzn w K S F H) : ∀ {ds es : List D} {vs : List V}, Vws S F ds es → RDs K H ds vs → RDs K H es vs
  | _, _, _, .nil, r => r
  | _, _, vs, .cons h1 h2, r => by
    obtain ⟨v, r', rfl, r1, r2⟩ := r
    exact ⟨v, r', rfl, Vw.rd f h1 r1, Vws.rd f h2 r2⟩
end
end
theorem LeH.frz {H : Hp} {a : Addr} {xs : List V} {o : Obj} (e : H a = some (.lst xs)) : LeH H (upd H a (.frz o (.lst xs))) := LeH.put e trivial
section
variable {X : Cx} {pins : List (Addr × Obj)} {σ : L2.St} {s : Shared}
theorem rep_frz {w : World} {K : PySem.W.Frag} {S : DH} {H : Hp} {a : Addr} {xs : List V} {o : Obj} (r : Rep w K S H) (e : H a = some (.lst xs)) : Rep w K (delo S a) (upd H a (.frz o (.lst xs))) := fun b ob h => by
  unfold delo at h
  split at h
  · cases h
  · rename_i hb
    exact (r b ob h).at (LeH.frz e) (upd_ne hb)
/-- all of F, one by one -/
theorem frz_all {S : DH} : ∀ (F : List Addr) {H : Hp}, Inv X pins σ H s → Rep X.w X.K S H → (∀ a ∈ F, ∃ ds, S a = some (.lst ds)) → F.Nodup →
    ∃ H', Inv X pins σ H' s ∧ LeH H H' ∧ Frzn X.w X.K S F H' ∧ Rep X.w X.K (fun b => if b ∈ F then none else S b) H'
  | [], H, I, r, _, _ => ⟨H, I, LeH.refl H, ⟨fun _ h => nomatch h⟩, by simpa using r⟩
  | a :: F, H, I, r, h, nd => by
    obtain ⟨nd1, nd2⟩ := List.nodup_cons.mp nd
    obtain ⟨ds, ea⟩ := h a (List.mem_cons_self ..)
    obtain ⟨xs, eh, rs⟩ : ∃ xs, H a = some (.lst xs) ∧ RDs X.K H ds xs := r a _ ea
    obtain ⟨o, I1⟩ := inv_frz I eh
    have r1 := rep_frz (o := o) r eh
    obtain ⟨H2, I2, le2, f2, r2⟩ := frz_all (S := delo S a) F I1 r1 (fun b hb => by
      obtain ⟨ds', e'⟩ := h b (List.mem_cons_of_mem _ hb)
      refine ⟨ds', ?_⟩
      unfold delo
      rw [if_neg (fun z : b = a => nd1 (by rw [← z]; exact hb))]
      exact e') nd2
    have le1 : LeH H (upd H a (.frz o (.lst xs))) := LeH.frz eh
    refine ⟨H2, I2, le1.trans le2, ⟨fun b hb ds' e' => ?_⟩, fun b ob hb => ?_⟩
    · rcases List.mem_cons.mp hb with rfl | hb
      · rw [ea] at e'
        cases e'
        exact ⟨xs, o, le2.fl _ _ _ upd_same, rs.le (le1.trans le2)⟩
      · refine f2.get b hb ds' ?_
        unfold delo
        rw [if_neg (fun z : b = a => nd1 (by rw [← z]; exact hb))]
        exact e'
    · refine r2 b ob ?_
      have hb : (if b ∈ a :: F then none else S b) = some ob := hb
      show (if b ∈ F then none else delo S a b) = some ob
      simp only [List.mem_cons] at hb
      by_cases z : b = a
      · rw [if_pos (.inl z)] at hb
        cases hb
      · by_cases z2 : b ∈ F
        · rw [if_pos (.inr z2)] at hb
          cases hb
        · rw [if_neg (fun y => y.elim z z2)] at hb
          rw [if_neg z2]
          unfold delo
          rw [if_neg z]
          exact hb
/-- what a def gives: lists may become values, other things may be let go -/
def Rt (Q : DK) : DK := fun d S => ∃ F d' S', Vw S F d d' ∧ (∀ a ∈ F, ∃ ds, S a = some (.lst ds)) ∧ F.Nodup ∧ Bhd S F S' ∧ Q d' S'
theorem Rt.mono {Q Q' : DK} (k : ∀ d S, Q d S → Q' d S) (d : D) (S : DH) (h : Rt Q d S) : Rt Q' d S := by
  obtain ⟨F, d', S', h1, h2, h3, h4, h5⟩ := h
  exact ⟨F, d', S', h1, h2, h3, h4, k _ _ h5⟩
theorem Rt.same {Q : DK} {d : D} {S : DH} (h : Q d S) : Rt Q d S := ⟨[], d, S, .same d, (fun _ z => nomatch z), .nil, fun b o e => ⟨e, List.not_mem_nil⟩, h⟩
theorem Rt.keep {Q : DK} {d : D} {S S' : DH} (x : Sub S S') (h : Q d S) : Rt Q d S' := ⟨[], d, S, .same d, (fun _ z => nomatch z), .nil, fun b o e => ⟨x b o e, List.not_mem_nil⟩, h⟩
/-- a list of its own is given -/
theorem Rt.rol {Q : DK} {p : Addr} {S S' : DH} {ds : List D} (e : S' p = some (.lst ds)) (n : S p = none) (x : Sub S S') (h : Q (.rol ds) S) : Rt Q (.ref p) S' :=
  ⟨[p], .rol ds, S, .lst e (List.mem_singleton.mpr rfl) (Vws.same ds), fun a ha => ⟨ds, by rw [List.mem_singleton.mp ha]; exact e⟩, List.nodup_cons.mpr ⟨List.not_mem_nil, .nil⟩,
    fun b o eb => ⟨x b o eb, fun z => by rw [List.mem_singleton.mp z, n] at eb; cases eb⟩, h⟩
theorem Rt.to {S : DH} {H : Hp} {d : D} {v : V} {u : Value} {Q : DK} {Q' : VK} (I : Inv X pins σ H s) (r : Rep X.w X.K S H) (rd : RD X.K H d v) (ru : RelV v u) (h : Rt Q d S)
    (k : ∀ d S' v H', LeH H H' → Rep X.w X.K S' H' → RD X.K H' d v → Q d S' → Q' v H') : ∃ v H', Inv X pins σ H' s ∧ RelV v u ∧ LeH H H' ∧ Q' v H' := by
  obtain ⟨F, d', S', h1, h2, h3, h4, h5⟩ := h
  obtain ⟨H', I', le, f, r'⟩ := frz_all F I r h2 h3
  refine ⟨v, H', I', ru, le, k d' S' v H' le (r'.sub fun b o e => ?_) (Vw.rd f h1 (rd.le le)) h5⟩
  obtain ⟨e1, e2⟩ := h4 b o e
  show (if b ∈ F then none else S b) = some o
  rw [if_neg e2]
  exact e1
end
/-- a def by its body -/
theorem dfn_of2 {P : Program} {w : World} {K : PySem.W.Frag} {mg : Str → Option Value} {base : Heap} {x qual : Str} {st : Stmt} {f : Addr} {fd : FuncData} {N ps : List Str} {k : Nat} {sp : DSp} {t : DTS} (F : Fun K x qual st f fd) (Sc : FnScope N ps (defScope st))
    (mono : ∀ ds S (Q Q' : DK) (E E' : DXK), (∀ d S', Q d S' → Q' d S') → (∀ C fs S', E C fs S' → E' C fs S') → sp ds S Q E → sp ds S Q' E') (len : ∀ ds S Q E, sp ds S Q E → ds.length = ps.length)
    (hbody : ∀ (cdv : Value) (A : Around) (outer : List Env) (s : Shared) (H : Hp) (E : XK), Room k (A.deeper (PyProof.Rows.envOfC qual (defScope st) s.heap.objs.size f cdv)) → (A.deeper (PyProof.Rows.envOfC qual (defScope st) s.heap.objs.size f cdv)).guards = some [] →
      DSs (cxOf (L2.CX P w) P w K mg base N qual (defScope st) f cdv A outer s H E) (defBody st) t)
    (hsp : ∀ ds S Q E, sp ds S Q E → t { nx := fun _ S' => Rt Q .non S', rt := Rt Q, xe := fun C fs _ S' => ∃ S'', Sub S'' S' ∧ E C fs S'' } (dstart N ds) S) : DFn P w K mg base (k + 1) f fd ps sp := by
  obtain ⟨oc, od, kV, doc, pm, an, cdv, ct, osl, rfl, lk, hcd⟩ := F.ex
  refine ⟨mono, len, fun A outer s H args us vs Q E hr gu e0 hb r ⟨ds, S, rep, rds, q⟩ => ?_⟩
  have hl : vs.length = ps.length := by rw [← rds.length]; exact len _ _ _ _ q
  have KX : K.In s.heap := e0.mod.kin.keeps fun b o z => (e0.bs b o z).1
  have lim : s.heap.NoLimit := e0.mod.nolimit.keeps fun b o z => (e0.bs b o z).1
  refine codeAny_call_function hr.depth (KX _ _ lk) rfl Sc.co Sc.gen rfl (PySem.W.codeRec_of KX hcd) (hb _ _ _ _ ?_)
  refine wpAny_newFunctionEnv_cells Sc.kind (fun ⟨n, v⟩ hy => ?_) fun env he s1 x => ?_
  · rcases Sc.par n (List.of_mem_zip hy).1 with z | z
    · exact .inl z
    · exact .inr ⟨z, PySem.W.cellsFrom_some _ _ _ (.inl z)⟩
  subst he
  have B := hbody cdv A outer s H E (hr.deeper _) (guards_deeper gu)
  have I : Inv (cxOf (L2.CX P w) P w K mg base N qual (defScope st) f cdv A outer s H E) [] (L2.start N vs) H s1 := inv_start Sc hr.hd e0 hl r x
  have wi : Wish (cxOf (L2.CX P w) P w K mg base N qual (defScope st) f cdv A outer s H E) (fun C fs _ S' => ∃ S'', Sub S'' S' ∧ lX w K H E C fs S'') H := by
    refine Takes.imp (takes_of (E := E) rfl rfl rfl rfl) fun cls d σ H' h => ?_
    obtain ⟨C, fs, τ, S', dd, ws, rfl, rfl, le, rl, hx, rk, S'', sb, h⟩ := h
    exact h dd ws H' le (rl.rep.sub sb) hx rk
  have fin : ∀ {σ' : L2.St} {H' : Hp} {v : V} {u : Value} {s' : Shared}, Inv (cxOf (L2.CX P w) P w K mg base N qual (defScope st) f cdv A outer s H E) [] σ' H' s' → RelV v u → (∃ d S', LeH H H' ∧ Rep w K S' H' ∧ RD K H' d v ∧ Rt (lQ w K H Q) d S') → CE outer P w H s Q u s' :=
    fun {σ' H' v u s'} J rv ⟨d, S', le, rp, rd, y⟩ => by
      obtain ⟨v, H', J, rv, le', y⟩ := Rt.to (X := cxOf (L2.CX P w) P w K mg base N qual (defScope st) f cdv A outer s H E) J rp rd rv y fun d S' v H2 le2 rp2 rd2 z => (z v H2 (le.trans le2) rp2 rd2 : Q v H2)
      exact ⟨v, H', J.os, J.bare, J.base, J.hok, rv, y⟩
  refine ⟨lim.keeps x.toInCall.keep, codeAny_func (PySem.wpAny_mono (B.run.run [] s1 (L2.start N vs) H { nx := fun _ H' => ∃ S', LeH H H' ∧ Rep w K S' H' ∧ Rt (lQ w K H Q) .non S', rt := fun v H' => ∃ d S', LeH H H' ∧ Rep w K S' H' ∧ RD K H' d v ∧ Rt (lQ w K H Q) d S' } I ⟨_, dstart N ds, S, wi, ⟨dstart_rel rds, rep⟩, B.mono { nx := fun _ S' => Rt (lQ w K H Q) .non S', rt := Rt (lQ w K H Q), xe := fun C fs _ S' => ∃ S'', Sub S'' S' ∧ lX w K H E C fs S'' } _ _ _ ⟨fun τ S' h σ H' le r' => ?_, fun d S' h v H' le r' rv => ?_, fun _ _ h => h.elim, fun _ _ h => h.elim, fun _ _ _ _ h => h⟩ (hsp _ _ _ _ q)⟩) (fun fl s' hs => ?_) fun e s' hs => hs)⟩
  · exact ⟨S', le, r'.rep, h⟩
  · exact ⟨d, S', le, r', rv, h⟩
  · cases fl with
    | ret u =>
      obtain ⟨v, σ', H', J, rv, y⟩ := hs
      exact fin J rv y
    | next =>
      obtain ⟨σ', H', J, S', le, rp, y⟩ := hs
      exact fin (v := V.non) (u := Value.none) J rfl ⟨.non, S', le, rp, rfl, y⟩
    | brk =>
      obtain ⟨_, _, _, y⟩ := hs
      exact y.elim
    | cont =>
      obtain ⟨_, _, _, y⟩ := hs
      exact y.elim

/-! ### expressions whose list is written no more -/
theorem DE.sub {X : Cx} {e : Expr} {t t' : DTE} (h : DE X e t) (m : ∀ (E E' : DW) τ S (Q Q' : DK), (∀ C fs τ S, E C fs τ S → E' C fs τ S) → (∀ d S', Q d S' → Q' d S') → t' E τ S Q → t' E' τ S Q') (k : ∀ E τ S Q, t' E τ S Q → t E τ S Q) : DE X e t' :=
  ⟨m, pE_imp h.run fun σ H Q ⟨E, τ, S, w, r, q⟩ => ⟨E, τ, S, w, r, k _ _ _ _ q⟩⟩
/-- a list becomes a value -/
@[simp] def fzK (Q : DK) : DK := fun d S => match d with
  | .ref a => (match S a with | some (.lst ds) => Q (.rol ds) (delo S a) | _ => False)
  | d => Q d S
theorem fzK_mono {Q Q' : DK} (k : ∀ d S', Q d S' → Q' d S') (d : D) (S : DH) (h : fzK Q d S) : fzK Q' d S := by
  cases d with
  | ref a =>
    revert h
    show (match S a with | some (.lst ds) => _ | _ => False) → (match S a with | some (.lst ds) => _ | _ => False)
    split
    · exact k _ _
    · exact fun h => h
  | _ => exact k _ _ h
theorem fzK_new {Q : DK} {S : DH} {p : Addr} {ds : List D} (hp : S p = none) (h : Q (.rol ds) S) : fzK Q (.ref p) (upo S p (.lst ds)) := by
  simp only [fzK, upo_same, delo_upo, delo_none hp]
  exact h
def fzK_to {X : Cx} {pins : List (Addr × Obj)} {σ : L2.St} {s : Shared} {S : DH} {H : Hp} {d : D} {v : V} {u : Value} {Q : DK} {Q' : VK} (I : Inv X pins σ H s) (r : Rep X.w X.K S H) (rd : RD X.K H d v) (ru : RelV v u) (h : fzK Q d S)
    (k : ∀ d S' v H', LeH H H' → Rep X.w X.K S' H' → RD X.K H' d v → Q d S' → Q' v H') : EP X pins σ Q' u s := by
  cases d with
  | ref a =>
    obtain rfl : v = .ref a := rd
    revert h
    show (match S a with | some (.lst ds) => _ | _ => False) → _
    split
    · rename_i ds ea
      intro h
      obtain ⟨xs, eh, rs⟩ : ∃ xs, H a = some (.lst xs) ∧ RDs X.K H ds xs := r a _ ea
      obtain ⟨o, I1⟩ := inv_frz I eh
      exact ⟨_, _, I1, ru, k (.rol ds) (delo S a) (.ref a) _ (LeH.frz eh) (rep_frz r eh) ⟨a, xs, rfl, .inl ⟨o, upd_same⟩, rs.le (LeH.frz eh)⟩ h⟩
    · exact fun h => h.elim
  | _ => exact ⟨v, H, I, ru, k _ _ _ _ (LeH.refl H) r rd h⟩
@[simp] def dFz (t : DTE) : DTE := fun E τ S Q => t E τ S (fzK Q)
section
variable {X : Cx} {e : Expr} {t : DTE}
theorem de_fz (h : DE X e t) : DE X e (dFz t) := by
  refine ⟨fun E E' τ S Q Q' he k q => h.mono _ _ _ _ _ _ he (fzK_mono k) q, ⟨fun pins s σ H Q I ⟨E, τ, S, w, r, q⟩ => ?_⟩⟩
  refine thn (h.run.run pins s σ H (fun v H1 => ∃ d S1, LeH H H1 ∧ Rep X.w X.K S1 H1 ∧ RD X.K H1 d v ∧ fzK (fun d S' => ∀ v H', LeH H H' → Rep X.w X.K S' H' → RD X.K H' d v → Q v H') d S1) I (h.to w r q fun d S1 v H1 le w1 r1 rd z => ⟨d, S1, le, r1.rep, rd, z⟩)) fun u s' ⟨v, H1, I1, ru, d, S1, le, rp, rd, z⟩ => ?_
  exact fzK_to I1 rp rd ru z fun d S' v H' le' rp' rd' y => y v H' (le.trans le') rp' rd'
end
@[simp] def rFz (r : R2D) : R2D := fun x y S Q => r x y S (fzK Q)
theorem od_fz {X : Cx} {f : Value → Value → Sem Value} {r : R2D} (h : OpD X f r) : OpD X f (rFz r) := by
  refine ⟨fun x y S Q Q' k q => h.mono _ _ _ _ _ (fzK_mono k) q, fun pins s σ H x y v u Q I rx ry ⟨d, e, S, rep, rd, re, q⟩ => ?_⟩
  refine thn (h.run pins s σ H x y v u (fun v H1 => ∃ d S1, LeH H H1 ∧ Rep X.w X.K S1 H1 ∧ RD X.K H1 d v ∧ fzK (fun d S' => ∀ v H', LeH H H' → Rep X.w X.K S' H' → RD X.K H' d v → Q v H') d S1) I rx ry ⟨d, e, S, rep, rd, re, h.mono _ _ _ _ _ (fun z S' y v H' le rp rz => ⟨z, S', le, rp, rz, y⟩) q⟩) fun u s' ⟨v, H1, I1, ru, d, S1, le, rp, rd, z⟩ => ?_
  exact fzK_to I1 rp rd ru z fun d S' v H' le' rp' rd' y => y v H' (le.trans le') rp' rd'
end Dt
set_option maxRecDepth 100000
set_option maxHeartbeats 4000000
/-! DatN: dicts whose keys are tuples, by the library's nested keys. -/
namespace Dt
open PySem PySem.Spec L2 PySem.W

mutual
theorem rd_nested {X : Cx} {pins : List (Addr × Obj)} {σ : L2.St} {H : Hp} {s : Shared} (I : Inv X pins σ H s) : ∀ (d : D) (nk : NestedKey) (v : V) (u : Value), nkey d = some nk → RD X.K H d v → RelV v u → NestedIs s.heap nk u
  | .non, nk, v, u, e, r, q => by
    simp only [nkey, Option.some.injEq] at e
    subst e
    cases r
    cases (show u = .none from q)
    exact .none
  | .int i, nk, v, u, e, r, q => by
    simp only [nkey, Option.some.injEq] at e
    subst e
    cases r
    obtain ⟨t, rfl⟩ := q
    exact .int i t
  | .str i, nk, v, u, e, r, q => by
    simp only [nkey, Option.some.injEq] at e
    subst e
    cases r
    obtain ⟨t, rfl⟩ := q
    exact .text i t
  | .tup ds, nk, v, u, e, r, q => by
    simp only [nkey] at e
    split at e
    · rename_i ks ek
      cases e
      obtain ⟨p, xs, rfl, sq, rs⟩ : ∃ p xs, v = V.ref p ∧ SqT X.K H p xs ∧ RDs X.K H ds xs := r
      cases (show u = .ref p from q)
      obtain ⟨its, rv, ⟨o, e1, e2, n, e3⟩, hz⟩ := I.tuple sq
      exact .tup e1 e2 e3 (by simpa using rds_nested I ds ks xs its ek rs rv)
    · cases e
  | .bl _, _, _, _, e, _, _ => by simp [nkey] at e
  | .rol _, _, _, _, e, _, _ => by simp [nkey] at e
  | .ref _, _, _, _, e, _, _ => by simp [nkey] at e
theorem rds_nested {X : Cx} {pins : List (Addr × Obj)} {σ : L2.St} {H : Hp} {s : Shared} (I : Inv X pins σ H s) : ∀ (ds : List D) (ks : List NestedKey) (vs : List V) (us : List Value), nkeys ds = some ks → RDs X.K H ds vs → Vals vs us → NestedAll s.heap ks us
  | [], ks, vs, us, e, r, q => by
    simp only [nkeys, Option.some.injEq] at e
    subst e
    cases r
    cases q
    exact .nil
  | d :: ds, ks, vs, us, e, r, q => by
    simp only [nkeys] at e
    split at e
    · rename_i k1 ks1 e1 e2
      cases e
      obtain ⟨v, r', rfl, r1, r2⟩ := r
      cases q with
      | cons q1 q2 => exact .cons (rd_nested I d _ v _ e1 r1 q1) (rds_nested I ds _ r' _ e2 r2 q2)
    · cases e
end
/-- may be a key: a tuple of ints, texts, None, tuples of such -/
def okT (d : D) : Bool := match d, nkey d with | .tup _, some k => decide (k.depth ≤ 8) | _, _ => false
theorem okT_ex {d : D} (h : okT d = true) : ∃ nk, nkey d = some nk ∧ nk.depth ≤ 8 ∧ ∃ ds, d = .tup ds := by
  unfold okT at h
  split at h
  · rename_i ds k e
    exact ⟨k, e, of_decide_eq_true h, ds, rfl⟩
  · cases h
/-- entries beside keys and values -/
def RX (K : PySem.W.Frag) (H : Hp) : List (D × D) → List (NestedKey × Addr × Value) → Prop
  | [], xs => xs = []
  | (k, d) :: r, xs => ∃ nk b u s, xs = (nk, b, u) :: s ∧ (nkey k = some nk ∧ nk.depth ≤ 8 ∧ RD K H k (.ref b) ∧ ∃ v, RelV v u ∧ RD K H d v) ∧ RX K H r s
section
variable {K : PySem.W.Frag} {H H' : Hp}
theorem RX.le (le : LeH H H') : ∀ {kvs : List (D × D)} {xs : List (NestedKey × Addr × Value)}, RX K H kvs xs → RX K H' kvs xs
  | [], _, h => h
  | (_, _) :: _, _, ⟨nk, b, u, s, e, ⟨e1, e2, r1, v, r2, r3⟩, h⟩ => ⟨nk, b, u, s, e, ⟨e1, e2, r1.le le, v, r2, r3.le le⟩, RX.le le h⟩
theorem RX.length : ∀ {kvs : List (D × D)} {xs : List (NestedKey × Addr × Value)}, RX K H kvs xs → kvs.length = xs.length
  | [], _, h => by cases h; rfl
  | (_, _) :: _, _, ⟨nk, b, u, s, e, _, h⟩ => by subst e; simp [RX.length h]
theorem RX.append : ∀ {kvs ls : List (D × D)} {xs ys : List (NestedKey × Addr × Value)}, RX K H kvs xs → RX K H ls ys → RX K H (kvs ++ ls) (xs ++ ys)
  | [], _, _, _, h, k => by cases h; exact k
  | (_, _) :: _, _, _, _, ⟨nk, b, u, s, e, e1, h⟩, k => by subst e; exact ⟨nk, b, u, s ++ _, rfl, e1, RX.append h k⟩
theorem key_iff {k k' : D} {nk nk' : NestedKey} (e : nkey k = some nk) (e' : nkey k' = some nk') : nk = nk' ↔ k = k' :=
  ⟨fun h => nkey_inj k k' nk e (by rw [h]; exact e'), fun h => by rw [h, e'] at e; exact (Option.some.inj e).symm⟩
theorem RX.lk {k : D} {nk : NestedKey} (ek : nkey k = some nk) : ∀ {kvs : List (D × D)} {xs : List (NestedKey × Addr × Value)}, RX K H kvs xs →
    match Dt.lk kvs k, atKey xs nk with | some d, some p => ∃ v, RelV v p.2 ∧ RD K H d v | none, none => True | _, _ => False
  | [], _, h => by cases h; simp [Dt.lk, atKey]
  | (j, d) :: r, _, ⟨nk', b, u, s, e, ⟨e1, e2, r1, r2⟩, h⟩ => by
    subst e
    have ih := RX.lk ek h
    by_cases z : j = k
    · have z' : nk' = nk := (key_iff e1 ek).mpr z
      simp only [Dt.lk, atKey, List.find?_cons, z, z', if_true, decide_true, Option.map_some]
      exact r2
    · have z' : ¬ nk' = nk := fun y => z ((key_iff e1 ek).mp y)
      simp only [Dt.lk, atKey, List.find?_cons, z, z', if_false, decide_false]
      exact ih
theorem RX.ss {kvs : List (D × D)} {xs : List (NestedKey × Addr × Value)} {k d : D} {nk : NestedKey} (h : RX K H kvs xs) (ek : nkey k = some nk) (e : Dt.lk kvs k = some d) : ∃ p, atKey xs nk = some p ∧ ∃ v, RelV v p.2 ∧ RD K H d v := by
  have q := h.lk ek
  rw [e] at q
  split at q
  · rename_i e1 e2
    cases e1
    exact ⟨_, e2, q⟩
  · rename_i e1 _
    cases e1
  · exact q.elim
theorem RX.isSome {kvs : List (D × D)} {xs : List (NestedKey × Addr × Value)} {k : D} {nk : NestedKey} (h : RX K H kvs xs) (ek : nkey k = some nk) : (atKey xs nk).isSome = (Dt.lk kvs k).isSome := by
  have q := h.lk ek
  split at q
  · rename_i e1 e2
    rw [e1, e2]
    rfl
  · rename_i e1 e2
    rw [e1, e2]
    rfl
  · exact q.elim
theorem RX.mapv {k d : D} {nk : NestedKey} {u : Value} {v : V} (ek : nkey k = some nk) (rv : RelV v u) (rd : RD K H d v) : ∀ {kvs : List (D × D)} {xs : List (NestedKey × Addr × Value)}, RX K H kvs xs →
    RX K H (kvs.map fun q => if q.1 = k then (q.1, d) else q) (xs.map (putAt nk u))
  | [], _, h => by cases h; rfl
  | (j, _) :: _, _, ⟨nk', b, u', s, e, ⟨e1, e2, r1, r2⟩, h⟩ => by
    subst e
    by_cases z : j = k
    · have z' : nk' = nk := (key_iff e1 ek).mpr z
      simp only [List.map_cons, putAt, z, z', if_true]
      exact ⟨nk, b, u, _, rfl, ⟨ek, z' ▸ e2, z ▸ r1, v, rv, rd⟩, RX.mapv ek rv rd h⟩
    · have z' : ¬ nk' = nk := fun y => z ((key_iff e1 ek).mp y)
      simp only [List.map_cons, putAt, z, z', if_false]
      exact ⟨nk', b, u', _, rfl, ⟨e1, e2, r1, r2⟩, RX.mapv ek rv rd h⟩
theorem RX.pt {kvs : List (D × D)} {xs : List (NestedKey × Addr × Value)} {k d : D} {nk : NestedKey} {b : Addr} {u : Value} {v : V} (h : RX K H kvs xs) (ek : nkey k = some nk) (hd : nk.depth ≤ 8) (rk : RD K H k (.ref b)) (rv : RelV v u) (rd : RD K H d v) :
    RX K H (Dt.pt kvs k d) (storedH xs nk b u) := by
  unfold Dt.pt storedH
  rw [h.isSome ek]
  split
  · exact RX.mapv ek rv rd h
  · exact h.append ⟨nk, b, u, [], rfl, ⟨ek, hd, rk, v, rv, rd⟩, rfl⟩
theorem RX.dr {k : D} {nk : NestedKey} (ek : nkey k = some nk) : ∀ {kvs : List (D × D)} {xs : List (NestedKey × Addr × Value)}, RX K H kvs xs → RX K H (Dt.dr kvs k) (withoutH xs nk)
  | [], _, h => by cases h; rfl
  | (j, _) :: _, _, ⟨nk', b, u', s, e, ⟨e1, e2, r1, r2⟩, h⟩ => by
    subst e
    have ih := RX.dr ek h
    unfold Dt.dr withoutH at ih ⊢
    by_cases z : j = k
    · have z' : nk' = nk := (key_iff e1 ek).mpr z
      simp only [List.filter_cons, z, z', ne_eq, not_true, decide_false, Bool.false_eq_true, if_false]
      exact ih
    · have z' : ¬ nk' = nk := fun y => z ((key_iff e1 ek).mp y)
      simp only [List.filter_cons, z, z', ne_eq, not_false_eq_true, decide_true, if_true]
      exact ⟨nk', b, u', _, rfl, ⟨e1, e2, r1, r2⟩, ih⟩
theorem RX.get {k d : D} {i : Nat} : ∀ {kvs : List (D × D)} {xs : List (NestedKey × Addr × Value)} {i : Nat} {x : NestedKey × Addr × Value}, RX K H kvs xs → xs[i]? = some x → ∃ k d, kvs[i]? = some (k, d) ∧ nkey k = some x.1 ∧ x.1.depth ≤ 8 ∧ RD K H k (.ref x.2.1) ∧ ∃ v, RelV v x.2.2 ∧ RD K H d v
  | [], _, _, _, h, e => by cases h; simp at e
  | (j, d) :: _, _, 0, _, ⟨nk', b, u', s, e0, ⟨e1, e2, r1, r2⟩, h⟩, e => by
    subst e0
    simp at e
    subst e
    exact ⟨j, d, rfl, e1, e2, r1, r2⟩
  | (_, _) :: _, _, i + 1, _, ⟨nk', b, u', s, e0, _, h⟩, e => by
    subst e0
    obtain ⟨k, d, q⟩ := RX.get (k := .non) (d := .non) (i := 0) h (by simpa using e)
    exact ⟨k, d, by simpa using q⟩
theorem RX.nodup : ∀ {kvs : List (D × D)} {xs : List (NestedKey × Addr × Value)}, RX K H kvs xs → (kvs.map (·.1)).Nodup → (xs.map (·.1)).Nodup
  | [], _, h, _ => by cases h; exact .nil
  | (j, d) :: r, _, ⟨nk', b, u', s, e0, ⟨e1, e2, r1, r2⟩, h⟩, nd => by
    subst e0
    obtain ⟨n1, n2⟩ := List.nodup_cons.mp nd
    refine List.nodup_cons.mpr ⟨fun z => n1 ?_, RX.nodup h n2⟩
    obtain ⟨y, hy, ey⟩ := List.mem_map.mp z
    obtain ⟨i, hi⟩ := List.getElem?_of_mem hy
    obtain ⟨k, d', q1, q2, _⟩ := RX.get (k := .non) (d := .non) (i := 0) h hi
    have : k = j := nkey_inj k j nk' (by rw [q2]; exact congrArg _ ey) e1
    exact List.mem_map.mpr ⟨(k, d'), List.mem_of_getElem? q1, this⟩
end
theorem pt_nodup {kvs : List (D × D)} (k d : D) (h : (kvs.map (·.1)).Nodup) : ((pt kvs k d).map (·.1)).Nodup := by
  unfold pt
  have lkm : ∀ l : List (D × D), (lk l k).isSome = true ∨ k ∉ l.map (·.1) := fun l => by
    induction l with
    | nil => exact .inr (by simp)
    | cons q l ih =>
      obtain ⟨j, v⟩ := q
      by_cases z : j = k
      · exact .inl (by simp [lk, z])
      · rcases ih with ih | ih
        · exact .inl (by simpa [lk, z] using ih)
        · exact .inr (by simp [fun y => z (Eq.symm y)]; exact ⟨fun y => z y.symm, by simpa using ih⟩)
  split
  · have : (kvs.map fun q => if q.1 = k then (q.1, d) else q).map (·.1) = kvs.map (·.1) := by
      rw [List.map_map]
      refine List.map_congr_left fun q _ => ?_
      show (if q.1 = k then (q.1, d) else q).1 = q.1
      split <;> rfl
    rw [this]
    exact h
  · rename_i hn
    rw [List.map_append]
    refine List.nodup_append.mpr ⟨h, by simp, fun a ha b hb => ?_⟩
    simp at hb
    subst hb
    rcases lkm kvs with z | z
    · exact absurd z hn
    · exact fun y => z (y ▸ ha)
theorem dr_nodup {κ α : Type} [DecidableEq κ] {kvs : List (κ × α)} (k : κ) (h : (kvs.map (·.1)).Nodup) : ((dr kvs k).map (·.1)).Nodup :=
  h.sublist (List.Sublist.map _ List.filter_sublist)
theorem pt_len {κ α : Type} [DecidableEq κ] (kvs : List (κ × α)) (k : κ) (d : α) : (pt kvs k d).length ≤ kvs.length + 1 := by
  unfold pt
  split <;> simp
theorem dr_len {κ α : Type} [DecidableEq κ] (kvs : List (κ × α)) (k : κ) : (dr kvs k).length ≤ kvs.length := List.length_filter_le ..
section
variable {X : Cx} {pins : List (Addr × Obj)} {σ : L2.St} {H : Hp} {s : Shared} {a : Addr} {kvs : List (D × D)}
/-- a dict is looked at -/
theorem dn_open (I : Inv X pins σ H s) (r : ROb X.w X.K H a (.dN kvs)) : ∃ xs, s.heap.DictOfH (nestedKind X.prog X.w) a xs ∧ RX X.K H kvs xs ∧ (a == sysModules) = false ∧ kvs.length ≤ sizeLine ∧ (kvs.map (·.1)).Nodup ∧ Mut (H a) := by
  obtain ⟨rows, e, hl, nd, rr⟩ := r
  have x : ObjOk X.prog X.w H s.heap a (.ext (RawRows X.w rows a)) := I.hok a _ e
  obtain ⟨⟨hs, o, es, ep, ho, hx, hd, pr⟩, _⟩ := x
  have go : ∀ {kvs : List (D × D)} {rows : List (NestedKey × Addr × V)} {es : List DictEntry}, RRows X.K H kvs rows → Paired (fun (r : NestedKey × Addr × V) (e : DictEntry) => e.hash = r.1.hash X.w ∧ e.key = .ref r.2.1 ∧ RelV r.2.2 e.val) rows es →
      ∃ xs, RX X.K H kvs xs ∧ es = xs.map (entryOfKey (nestedKind X.prog X.w)) ∧ ∀ x ∈ xs, (nestedKind X.prog X.w).is s.heap x.1 x.2.1 := by
    intro kvs
    induction kvs with
    | nil =>
      intro rows es h p
      cases h
      cases p
      exact ⟨[], rfl, rfl, fun _ z => nomatch z⟩
    | cons q kvs ih =>
      obtain ⟨k, d⟩ := q
      rintro rows es ⟨nk, b, v, s', e, e1, e2, r1, r2, h⟩ p
      subst e
      cases p with
      | @cons _ en _ es' p1 p2 =>
        obtain ⟨xs, h1, h2, h3⟩ := ih h p2
        obtain ⟨hsh, ky, vl⟩ := en
        obtain ⟨q1, q2, q3⟩ := p1
        refine ⟨(nk, b, vl) :: xs, ⟨nk, b, vl, xs, rfl, ⟨e1, e2, r1, v, q3, r2⟩, h1⟩, ?_, fun x hx => ?_⟩
        · rw [List.map_cons, ← h2]
          simp only at q1 q2
          rw [q1, q2]
          rfl
        · rcases List.mem_cons.mp hx with rfl | hx
          · exact ⟨rd_nested I k nk (.ref b) (.ref b) e1 r1 rfl, e2⟩
          · exact h3 x hx
  obtain ⟨xs, h1, h2, h3⟩ := go rr pr
  exact ⟨xs, ⟨o, es, ep, ho, hx, hd, h2, h3, h1.nodup nd⟩, h1, hs, hl, nd, by rw [e]; trivial⟩
theorem rows_of {K : PySem.W.Frag} {w : World} {P : Program} {H : Hp} : ∀ {kvs : List (D × D)} {xs : List (NestedKey × Addr × Value)}, RX K H kvs xs →
    ∃ rows, RRows K H kvs rows ∧ Paired (fun (r : NestedKey × Addr × V) (e : DictEntry) => e.hash = r.1.hash w ∧ e.key = .ref r.2.1 ∧ RelV r.2.2 e.val) rows (xs.map (entryOfKey (nestedKind P w)))
  | [], _, h => by cases h; exact ⟨[], rfl, .nil⟩
  | (k, d) :: r, _, ⟨nk, b, u, s, e, ⟨e1, e2, r1, v, r2, r3⟩, h⟩ => by
    subst e
    obtain ⟨rows, h1, h2⟩ := rows_of (P := P) h
    exact ⟨(nk, b, v) :: rows, ⟨nk, b, v, rows, rfl, e1, e2, r1, r3, h1⟩, .cons ⟨rfl, rfl, r2⟩ h2⟩
/-- a dict was written -/
theorem dn_close {h' : Heap} {t : Nat} {xs : List (NestedKey × Addr × Value)} (I : Inv X pins σ H s) (mu : Mut (H a)) (hs : (a == sysModules) = false) (r : RX X.K H kvs xs) (hl : kvs.length ≤ sizeLine) (nd : (kvs.map (·.1)).Nodup) (hd : h'.DictOfH (nestedKind X.prog X.w) a xs) (sb : Heap.SameBut a s.heap h') :
    ∃ rows, Inv X pins σ (upd H a (dnHO X.w rows a)) { s with heap := h', toks := t } ∧ LeH H (upd H a (dnHO X.w rows a)) ∧ ROb X.w X.K (upd H a (dnHO X.w rows a)) a (.dN kvs) := by
  obtain ⟨rows, r1, r2⟩ := rows_of (P := X.prog) (w := X.w) r
  obtain ⟨o, es, ep, ho, hx, hdd, he, _, _⟩ := hd
  obtain ⟨u, eu⟩ : ∃ u, H a = some u := by
    cases q : H a with
    | none => rw [q] at mu; exact mu.elim
    | some u => exact ⟨u, rfl⟩
  have le : LeH H (upd H a (dnHO X.w rows a)) := LeH.put eu (by rw [← eu]; exact mu)
  refine ⟨rows, I.write (x := a) (e := a) mu (.inl rfl) (fun b u hb q => (sb.2 b hb).trans q) ⟨o, ho⟩ ⟨⟨hs, o, es, ep, ho, hx, hdd, by rw [he]; exact r2⟩, ⟨o, ho⟩, fun h1 h2 z k => ?_⟩, le, ⟨rows, upd_same, hl, nd, r1.le le⟩⟩
  obtain ⟨z1, o', es', ep', q1, q2⟩ := z
  exact ⟨z1, o', es', ep', k _ q1, q2⟩
/-- the key of a dict -/
theorem okT_key (I : Inv X pins σ H s) {k : D} {v : V} {u : Value} (h : okT k = true) (rd : RD X.K H k v) (ru : RelV v u) : ∃ nk b, nkey k = some nk ∧ nk.depth ≤ 8 ∧ v = .ref b ∧ u = .ref b ∧ (nestedKind X.prog X.w).is s.heap nk b := by
  obtain ⟨nk, e, hd, ds, rfl⟩ := okT_ex h
  obtain ⟨p, xs, rfl, _⟩ : ∃ p xs, v = V.ref p ∧ SqT X.K H p xs ∧ RDs X.K H ds xs := id rd
  cases (show u = .ref p from ru)
  exact ⟨nk, p, e, hd, rfl, rfl, rd_nested I _ nk _ _ e rd rfl, hd⟩
end
section
variable {X : Cx} {pos : Pos}
/-- {} whose keys will be tuples -/
@[simp] def dDnN : DTE := fun _ _ S Q => newO S (.dN []) fun p S' => Q (.ref p) S'
theorem de_dnN : DE X (.Dict [] [] pos) dDnN := by
  refine ⟨fun _ _ _ _ _ _ _ k q p hp => k _ _ (q p hp), ⟨fun pins s σ H Q I ⟨E, τ, S, w, r, q⟩ => ?_⟩⟩
  have hp : H s.heap.objs.size = none := I.hok.fresh (Nat.le_refl _)
  have ok : RawRows X.w [] s.heap.objs.size (s.heap.push { cls := .type "dict", data := .dict #[] }) := by
    obtain ⟨z1, z2, _⟩ := dt_empty (P := X.prog) (w := X.w) (H := H) s.heap I.big
    exact ⟨z2, _, #[], 0, Heap.get?_push_size _ rfl, ⟨rfl, rfl, rfl⟩, rfl, .nil⟩
  refine wpAny_Dict_empty ⟨.ref s.heap.objs.size, _, I.laid (a := s.heap.objs.size) (o := dnHO X.w [] s.heap.objs.size) (t' := s.toks) (fun _ _ q => Heap.get?_push_of_some _ q) (Nat.le_refl _) ⟨ok, ⟨_, Heap.get?_push_size _ rfl⟩, fun h1 h2 z k => ?_⟩, rfl, q _ (r.rep.free hp) _ _ (LeH.new hp) (r.rep.new hp (o := .dN []) ⟨[], upd_same, Nat.zero_le _, .nil, rfl⟩) rfl⟩
  obtain ⟨z1, o', es', ep', q1, q2⟩ := z
  exact ⟨z1, o', es', ep', k _ q1, q2⟩
end
end Dt
set_option maxRecDepth 100000
set_option maxHeartbeats 4000000
/-! Dat4: operators, comparisons, repr. -/
namespace Dt
open PySem PySem.Spec L2

/-! ### the library's trees -/
mutual
inductive Pd (S : DH) : D → PyData → Prop
  | non : Pd S .non .none
  | bl (b : Bool) : Pd S (.bl b) (.bool b)
  | int (i : Int) : Pd S (.int i) (.int i)
  | str (x : Str) : Pd S (.str x) (.str x)
  | tup {ds : List D} {ps : List PyData} : PdA S ds ps → Pd S (.tup ds) (.tuple ps)
  | rol {ds : List D} {ps : List PyData} : PdA S ds ps → Pd S (.rol ds) (.list ps)
  | lst {a : Addr} {ds : List D} {ps : List PyData} : S a = some (.lst ds) → PdA S ds ps → Pd S (.ref a) (.list ps)
inductive PdA (S : DH) : List D → List PyData → Prop
  | nil : PdA S [] []
  | cons {d : D} {ds : List D} {p : PyData} {ps : List PyData} : Pd S d p → PdA S ds ps → PdA S (d :: ds) (p :: ps)
end
section
variable {w : World} {K : PySem.W.Frag} {S : DH} {H : Hp}
mutual
theorem Pd.dp (rep : Rep w K S H) : ∀ (p : PyData) (d : D) (v : V), Pd S d p → RD K H d v → Dp K H v p
  | .none, _, _, h, r => by cases h; cases r; exact .non
  | .bool b, _, _, h, r => by cases h; cases r; exact .bl b
  | .int i, _, _, h, r => by cases h; cases r; exact .int i
  | .str x, _, _, h, r => by cases h; cases r; exact .str x
  | .tuple ps, _, v, h, r => by
    cases h with
    | tup hs =>
      obtain ⟨p, xs, rfl, sq, rs⟩ : ∃ p xs, v = V.ref p ∧ SqT K H p xs ∧ RDs K H _ xs := r
      exact .tup sq (PdA.dp rep ps _ _ hs rs)
  | .list ps, _, v, h, r => by
    cases h with
    | rol hs =>
      obtain ⟨p, xs, rfl, sq, rs⟩ : ∃ p xs, v = V.ref p ∧ SqR K H p xs ∧ RDs K H _ xs := r
      exact .lst sq.l (PdA.dp rep ps _ _ hs rs)
    | lst e hs =>
      cases r
      obtain ⟨xs, q, rs⟩ := rep _ _ e
      exact .lst (.of q) (PdA.dp rep ps _ _ hs rs)
  | .dict _, _, _, h, _ => by cases h
theorem PdA.dp (rep : Rep w K S H) : ∀ (ps : List PyData) (ds : List D) (vs : List V), PdA S ds ps → RDs K H ds vs → DpAll K H vs ps
  | [], _, _, h, r => by
    cases h
    cases r
    exact .nil
  | p :: ps, _, _, h, r => by
    cases h with
    | cons h1 h2 =>
      obtain ⟨v, vs, rfl, r1, r2⟩ := r
      exact .cons (Pd.dp rep p _ v h1 r1) (PdA.dp rep ps _ vs h2 r2)
end
end
/-! without addresses -/
mutual
def toP : D → PyData
  | .non => .none
  | .bl b => .bool b
  | .int i => .int i
  | .str x => .str x
  | .tup ds => .tuple (toPs ds)
  | .rol ds => .list (toPs ds)
  | .ref _ => .none
def toPs : List D → List PyData
  | [] => []
  | d :: ds => toP d :: toPs ds
end
mutual
def imm : D → Bool
  | .tup ds => imms ds
  | .rol ds => imms ds
  | .ref _ => false
  | _ => true
def imms : List D → Bool
  | [] => true
  | d :: ds => imm d && imms ds
end
mutual
theorem imm_pd (S : DH) : ∀ d : D, imm d = true → Pd S d (toP d)
  | .non, _ => .non
  | .bl b, _ => .bl b
  | .int i, _ => .int i
  | .str x, _ => .str x
  | .tup ds, h => .tup (imms_pd S ds h)
  | .rol ds, h => .rol (imms_pd S ds h)
theorem imms_pd (S : DH) : ∀ ds : List D, imms ds = true → PdA S ds (toPs ds)
  | [], _ => .nil
  | d :: ds, h => by
    have h' : (imm d && imms ds) = true := h
    rw [Bool.and_eq_true] at h'
    exact .cons (imm_pd S d h'.1) (imms_pd S ds h'.2)
end

/-! ### + - * // % ** -/
@[simp] def dAdd : R2D := fun d e S Q => match d, e with
  | .int i, .int j => Q (.int (i + j)) S
  | .str x, .str y => x.length + y.length ≤ sizeLine ∧ Q (.str (x ++ y)) S
  | .tup xs, .tup ys => xs.length + ys.length ≤ sizeLine ∧ Q (.tup (xs ++ ys)) S
  | d, e => catD S d e fun zs => newO S (.lst zs) fun p S' => Q (.ref p) S'
/-- the same, a list is written no more -/
@[simp] def dAddF : R2D := fun d e S Q => match d, e with
  | .int i, .int j => Q (.int (i + j)) S
  | .str x, .str y => x.length + y.length ≤ sizeLine ∧ Q (.str (x ++ y)) S
  | .tup xs, .tup ys => xs.length + ys.length ≤ sizeLine ∧ Q (.tup (xs ++ ys)) S
  | d, e => catD S d e fun zs => Q (.rol zs) S
theorem OpD.sub {X : Cx} {f : Value → Value → Sem Value} {r r' : R2D} (h : OpD X f r) (m : Mono2 r') (k : ∀ x y S Q, r' x y S Q → r x y S Q) : OpD X f r' :=
  ⟨m, opR_imp h.run fun x y H Q ⟨d, e, S, rep, rd, re, q⟩ => ⟨d, e, S, rep, rd, re, k _ _ _ _ q⟩⟩
section
variable {X : Cx}
theorem rep_new {w : World} {K : PySem.W.Frag} {S : DH} {H : Hp} {Q0 : DK} {Q : VK} {ds : List D} {xs : List V} {q : Addr} (rep : Rep w K S H) (hq : H q = none) (rs : RDs K H ds xs) (h : lQ w K H Q (.ref q) (upo S q (.lst ds))) : Q (.ref q) (upd H q (.lst xs)) :=
  h (.ref q) _ (LeH.new hq) (rep.new hq (o := .lst ds) ⟨xs, upd_same, rs.le (LeH.new hq)⟩) rfl
theorem rep_tup {w : World} {K : PySem.W.Frag} {S : DH} {H : Hp} {Q : VK} {ds : List D} {xs : List V} {q : Addr} (rep : Rep w K S H) (hq : H q = none) (rs : RDs K H ds xs) (h : lQ w K H Q (.tup ds) S) : Q (.ref q) (upd H q (.tup xs)) :=
  h (.ref q) _ (LeH.new hq) (rep.garb hq) ⟨q, xs, rfl, .of upd_same, rs.le (LeH.new hq)⟩
/-- lists, one behind the other -/
def rCatX (K : PySem.W.Frag) : R2 := fun x y H Q => ∃ l b xs zs, x = .ref l ∧ y = .ref b ∧ SqX K H l xs ∧ SqX K H b zs ∧ xs.length + zs.length ≤ sizeLine ∧ ∀ p, H p = none → Q (.ref p) (upd H p (.lst (xs ++ zs)))
theorem op_catX : OpR X (binaryOp .Add) (rCatX X.K) := by
  intro pins s σ H x y v u Q I rx ry h
  obtain ⟨l, b, xs, zs, rfl, rfl, hH, hB, hz, q⟩ := h
  cases rx
  cases ry
  obtain ⟨its, n, r, z, hl, e⟩ := sqX_get I hH
  obtain ⟨its2, n2, r2, z2, hl2, e2⟩ := sqX_get I hB
  refine PySem.P.add_list e e2 ?_ (by rw [List.size_toArray, List.size_toArray]; omega)
  have ea : its.toArray ++ its2.toArray = (its ++ its2).toArray := by simp
  rw [ea]
  exact ⟨.ref _, _, I.lnew (t' := s.toks) (r.append r2) (by rw [List.length_append]; omega), rfl, q _ I.fresh⟩
theorem catD_mono {S : DH} {d e : D} {k k' : List D → Prop} (h : ∀ z, k z → k' z) (q : catD S d e k) : catD S d e k' := opt_mono (fun _ q => opt_mono (fun _ q => ⟨q.1, h _ q.2⟩) q) q
theorem od_add : OpD X (binaryOp .Add) dAdd := by
  refine ⟨fun x y S Q Q' k h => ?_, fun pins s σ H x y v u Q I rx ry ⟨d, e, S, rep, rd, re, h⟩ => ?_⟩
  · unfold dAdd at h ⊢
    split at h
    · exact k _ _ h
    · exact ⟨h.1, k _ _ h.2⟩
    · exact ⟨h.1, k _ _ h.2⟩
    · exact catD_mono (fun z q p hp => k _ _ (q p hp)) h
  · unfold dAdd at h
    split at h
    · cases rd; cases re
      exact op_add pins s σ H _ _ v u Q I rx ry ⟨_, _, rfl, rfl, h _ H (LeH.refl H) rep rfl⟩
    · cases rd; cases re
      exact op_add_str pins s σ H _ _ v u Q I rx ry ⟨_, _, rfl, rfl, h.1, h.2 _ H (LeH.refl H) rep rfl⟩
    · rename_i ds es
      obtain ⟨p, xs, rfl, sq, rs⟩ : ∃ p xs, x = V.ref p ∧ SqT X.K H p xs ∧ RDs X.K H ds xs := rd
      obtain ⟨q, ys, rfl, sq2, rs2⟩ : ∃ p xs, y = V.ref p ∧ SqT X.K H p xs ∧ RDs X.K H es xs := re
      refine op_catA pins s σ H _ _ v u Q I rx ry ⟨p, q, xs, ys, rfl, rfl, sq, sq2, by rw [← rs.length, ← rs2.length]; exact h.1, fun e => ?_, fun _ e => ?_, fun _ _ p2 hp => rep_tup rep hp (rs.append rs2) h.2⟩
      · subst e
        have := rs.length
        have e2 : ds = [] := List.length_eq_zero_iff.mp (by simpa using this)
        subst e2
        exact h.2 _ H (LeH.refl H) rep ⟨q, ys, rfl, sq2, rs2⟩
      · subst e
        have := rs2.length
        have e2 : es = [] := List.length_eq_zero_iff.mp (by simpa using this)
        subst e2
        exact h.2 _ H (LeH.refl H) rep ⟨p, xs, rfl, sq, by rw [List.append_nil]; exact rs⟩
    · obtain ⟨xs, ea, h⟩ := opt_ex h
      obtain ⟨ys, eb, hz, h⟩ := opt_ex h
      obtain ⟨a, us, rfl, sa, r1⟩ := seqD_rd rep rd ea
      obtain ⟨b, ws, rfl, sb, r2⟩ := seqD_rd rep re eb
      exact op_catX pins s σ H _ _ v u Q I rx ry ⟨a, b, us, ws, rfl, rfl, sa, sb, by rw [← r1.length, ← r2.length]; exact hz, fun p hp => rep_new (Q0 := fun _ _ => True) rep hp (r1.append r2) (h p (rep.free hp))⟩
theorem od_addF : OpD X (binaryOp .Add) dAddF := (od_fz od_add).sub (fun x y S Q Q' k h => by
    unfold dAddF at h ⊢
    split at h
    · exact k _ _ h
    · exact ⟨h.1, k _ _ h.2⟩
    · exact ⟨h.1, k _ _ h.2⟩
    · exact catD_mono (fun z q => k _ _ q) h) fun x y S Q h => by
    unfold dAddF at h
    unfold rFz dAdd
    split at h
    · exact h
    · exact h
    · exact h
    · exact catD_mono (fun z q p hp => fzK_new hp q) h
/-- two ints -/
@[simp] def dII (C : Int → Int → Prop) (g : Int → Int → D) : R2D := fun d e S Q => match d, e with | .int i, .int j => C i j ∧ Q (g i j) S | _, _ => False
theorem dII_mono {C : Int → Int → Prop} {g : Int → Int → D} : Mono2 (dII C g) := fun x y S Q Q' k h => by
  cases x <;> cases y <;> first | exact h.elim | exact ⟨h.1, k _ _ h.2⟩
theorem od_II {f : Value → Value → Sem Value} {C : Int → Int → Prop} {g : Int → Int → D} {g' : Int → Int → V} (h : OpR X f (rI C g')) (hg : ∀ H i j, RD X.K H (g i j) (g' i j)) : OpD X f (dII C g) := by
  refine ⟨dII_mono, fun pins s σ H x y v u Q I rx ry ⟨d, e, S, rep, rd, re, q⟩ => ?_⟩
  cases d <;> cases e <;> first | exact q.elim | skip
  cases rd; cases re
  exact h pins s σ H _ _ v u Q I rx ry ⟨_, _, rfl, rfl, q.1, q.2 _ H (LeH.refl H) rep (hg _ _ _)⟩
theorem od_II0 {f : Value → Value → Sem Value} {g : Int → Int → D} {g' : Int → Int → V} (h : OpR X f (rI0 g')) (hg : ∀ H i j, RD X.K H (g i j) (g' i j)) : OpD X f (dII (fun _ _ => True) g) := by
  refine ⟨dII_mono, fun pins s σ H x y v u Q I rx ry ⟨d, e, S, rep, rd, re, q⟩ => ?_⟩
  cases d <;> cases e <;> first | exact q.elim | skip
  cases rd; cases re
  exact h pins s σ H _ _ v u Q I rx ry ⟨_, _, rfl, rfl, q.2 _ H (LeH.refl H) rep (hg _ _ _)⟩
theorem od_sub : OpD X (binaryOp .Sub) (dII (fun _ _ => True) fun i j => .int (i - j)) := od_II0 op_sub fun _ _ _ => rfl
theorem od_mod : OpD X (binaryOp .Mod) (dII (fun _ j => 0 < j) fun i j => .int (i % j)) := od_II op_mod fun _ _ _ => rfl
theorem od_fdiv : OpD X (binaryOp .FloorDiv) (dII CDivW fun i j => .int (i / j)) := od_II op_fdivW fun _ _ _ => rfl
theorem od_pow : OpD X (binaryOp .Pow) (dII CPow fun i j => .int (i ^ j.toNat)) := od_II op_pow fun _ _ _ => rfl
theorem od_lt : OpD X (compareOp .Lt) (dII (fun _ _ => True) fun i j => .bl (decide (i < j))) := od_II0 op_lt fun _ _ _ => rfl
theorem od_le : OpD X (compareOp .LtE) (dII (fun _ _ => True) fun i j => .bl (decide (i ≤ j))) := od_II0 op_le fun _ _ _ => rfl
theorem od_gt : OpD X (compareOp .Gt) (dII (fun _ _ => True) fun i j => .bl (decide (j < i))) := od_II0 op_gt fun _ _ _ => rfl
theorem od_ge : OpD X (compareOp .GtE) (dII (fun _ _ => True) fun i j => .bl (decide (j ≤ i))) := od_II0 op_ge fun _ _ _ => rfl

/-! ### == -/
def dEqG (neg : Bool) : R2D := fun d e S Q => ∃ p q, Pd S d p ∧ Pd S e q ∧ SeqAt.shaped p = true ∧ SeqAt.shaped q = true ∧ Q (.bl (if neg then !PyData.eqv p q else PyData.eqv p q)) S
def dEq (neg : Bool) : R2D := fun d e S Q => match d, e with
  | .int i, .int j => Q (.bl (if neg then !(i == j) else i == j)) S
  | .str i, .str j => Q (.bl (if neg then !(i == j) else i == j)) S
  | .bl i, .bl j => Q (.bl (if neg then !(i == j) else i == j)) S
  | .non, .str j => Q (.bl neg) S
  | .str j, .non => Q (.bl neg) S
  | .int _, .str j => Q (.bl neg) S
  | .str j, .int _ => Q (.bl neg) S
  | d, e => dEqG neg d e S Q
theorem dEq_mono (neg : Bool) : Mono2 (dEq neg) := fun x y S Q Q' k h => by
  unfold dEq at h ⊢
  split at h <;> first | exact k _ _ h | exact (fun ⟨p, q, h1, h2, h3, h4, h⟩ => ⟨p, q, h1, h2, h3, h4, k _ _ h⟩ : dEqG neg _ _ S Q → dEqG neg _ _ S Q') h
theorem od_eq (hu : X.A.units + 64 < cLine) : OpD X (compareOp .Eq) (dEq false) := by
  refine ⟨dEq_mono false, fun pins s σ H x y v u Q I rx ry ⟨d, e, S, rep, rd, re, h⟩ => ?_⟩
  unfold dEq at h
  split at h
  · cases rd; cases re
    exact op_eq pins s σ H _ _ v u Q I rx ry ⟨rfl, by rw [dec_int]; exact h _ H (LeH.refl H) rep rfl⟩
  · cases rd; cases re
    exact op_eq pins s σ H _ _ v u Q I rx ry ⟨rfl, by rw [dec_str]; exact h _ H (LeH.refl H) rep rfl⟩
  · cases rd; cases re
    exact op_eq pins s σ H _ _ v u Q I rx ry ⟨rfl, by rw [dec_bl]; exact h _ H (LeH.refl H) rep rfl⟩
  · cases rd; cases re
    exact op_eq pins s σ H _ _ v u Q I rx ry ⟨rfl, h _ H (LeH.refl H) rep rfl⟩
  · cases rd; cases re
    exact op_eq pins s σ H _ _ v u Q I rx ry ⟨rfl, h _ H (LeH.refl H) rep rfl⟩
  · cases rd; cases re
    exact op_eq pins s σ H _ _ v u Q I rx ry ⟨rfl, h _ H (LeH.refl H) rep rfl⟩
  · cases rd; cases re
    exact op_eq pins s σ H _ _ v u Q I rx ry ⟨rfl, h _ H (LeH.refl H) rep rfl⟩
  · obtain ⟨p, q, h1, h2, h3, h4, h⟩ := h
    exact op_eqD hu pins s σ H _ _ v u Q I rx ry ⟨p, q, h1.dp rep p _ x rd, h2.dp rep q _ y re, h3, h4, h _ H (LeH.refl H) rep rfl⟩
theorem od_ne (hu : X.A.units + 64 < cLine) : OpD X (compareOp .NotEq) (dEq true) := by
  refine ⟨dEq_mono true, fun pins s σ H x y v u Q I rx ry ⟨d, e, S, rep, rd, re, h⟩ => ?_⟩
  unfold dEq at h
  split at h
  · cases rd; cases re
    exact op_ne pins s σ H _ _ v u Q I rx ry ⟨rfl, by rw [dec_int]; exact h _ H (LeH.refl H) rep rfl⟩
  · cases rd; cases re
    exact op_ne pins s σ H _ _ v u Q I rx ry ⟨rfl, by rw [dec_str]; exact h _ H (LeH.refl H) rep rfl⟩
  · cases rd; cases re
    exact op_ne pins s σ H _ _ v u Q I rx ry ⟨rfl, by rw [dec_bl]; exact h _ H (LeH.refl H) rep rfl⟩
  · cases rd; cases re
    exact op_ne pins s σ H _ _ v u Q I rx ry ⟨rfl, h _ H (LeH.refl H) rep rfl⟩
  · cases rd; cases re
    exact op_ne pins s σ H _ _ v u Q I rx ry ⟨rfl, h _ H (LeH.refl H) rep rfl⟩
  · cases rd; cases re
    exact op_ne pins s σ H _ _ v u Q I rx ry ⟨rfl, h _ H (LeH.refl H) rep rfl⟩
  · cases rd; cases re
    exact op_ne pins s σ H _ _ v u Q I rx ry ⟨rfl, h _ H (LeH.refl H) rep rfl⟩
  · obtain ⟨p, q, h1, h2, h3, h4, h⟩ := h
    exact op_neD hu pins s σ H _ _ v u Q I rx ry ⟨p, q, h1.dp rep p _ x rd, h2.dp rep q _ y re, h3, h4, h _ H (LeH.refl H) rep rfl⟩
/-- is None, is not None -/
@[simp] def isNon : D → Bool
  | .non => true
  | _ => false
@[simp] def dIsN (neg : Bool) : R2D := fun d e S Q => match e with | .non => Q (.bl (if neg then !isNon d else isNon d)) S | _ => False
theorem rd_non {K : PySem.W.Frag} {H : Hp} {d : D} {v : V} (r : RD K H d v) : decide (v = .non) = isNon d := by
  cases d with
  | non => cases r; rfl
  | tup ds => obtain ⟨p, xs, rfl, _⟩ : ∃ p xs, v = V.ref p ∧ SqT K H p xs ∧ RDs K H ds xs := r; rfl
  | rol ds => obtain ⟨p, xs, rfl, _⟩ : ∃ p xs, v = V.ref p ∧ SqR K H p xs ∧ RDs K H ds xs := r; rfl
  | _ => cases r; rfl
theorem od_is : OpD X (compareOp .Is) (dIsN false) := by
  refine ⟨fun x y S Q Q' k h => ?_, fun pins s σ H x y v u Q I rx ry ⟨d, e, S, rep, rd, re, h⟩ => ?_⟩
  · cases y <;> first | exact h.elim | exact k _ _ h
  · cases e <;> first | exact h.elim | skip
    cases re
    exact op_isN pins s σ H _ _ v u Q I rx ry ⟨rfl, by rw [rd_non rd]; exact h _ H (LeH.refl H) rep rfl⟩
theorem od_isnt : OpD X (compareOp .IsNot) (dIsN true) := by
  refine ⟨fun x y S Q Q' k h => ?_, fun pins s σ H x y v u Q I rx ry ⟨d, e, S, rep, rd, re, h⟩ => ?_⟩
  · cases y <;> first | exact h.elim | exact k _ _ h
  · cases e <;> first | exact h.elim | skip
    cases re
    refine op_notN pins s σ H _ _ v u Q I rx ry ⟨rfl, ?_⟩
    rw [rd_non rd]
    exact h _ H (LeH.refl H) rep rfl
/-- in, not in: signs in a text; data in a list or tuple of data -/
def inP (p : PyData) (ps : List PyData) : Bool := ps.any fun z => PyData.eqv z p
@[simp] def dInS (neg : Bool) : R2D := fun d e S Q => match d, e with | .str x, .str y => Q (.bl (if neg then !(!(Builtin.Str.occurrences y x 0 y.length 1).isEmpty) else !(Builtin.Str.occurrences y x 0 y.length 1).isEmpty)) S | _, _ => False
theorem od_inS : OpD X (compareOp .In) (dInS false) := by
  refine ⟨fun x y S Q Q' k h => ?_, fun pins s σ H x y v u Q I rx ry ⟨d, e, S, rep, rd, re, h⟩ => ?_⟩
  · cases x <;> cases y <;> first | exact h.elim | exact k _ _ h
  · cases d <;> cases e <;> first | exact h.elim | skip
    cases rd; cases re
    exact op_in_str pins s σ H _ _ v u Q I rx ry ⟨_, _, rfl, rfl, h _ H (LeH.refl H) rep rfl⟩
theorem od_ninS : OpD X (compareOp .NotIn) (dInS true) := by
  refine ⟨fun x y S Q Q' k h => ?_, fun pins s σ H x y v u Q I rx ry ⟨d, e, S, rep, rd, re, h⟩ => ?_⟩
  · cases x <;> cases y <;> first | exact h.elim | exact k _ _ h
  · cases d <;> cases e <;> first | exact h.elim | skip
    cases rd; cases re
    exact op_notin_str pins s σ H _ _ v u Q I rx ry ⟨_, _, rfl, rfl, h _ H (LeH.refl H) rep rfl⟩
def dInL (neg : Bool) : R2D := fun d e S Q => ∃ p ps, Pd S d p ∧ Pd S e (.list ps) ∧ SeqAt.shaped p = true ∧ SeqAt.shaped (.list ps) = true ∧ Q (.bl (if neg then !inP p ps else inP p ps)) S
theorem od_inL (hu : X.A.units + 65 < cLine) : OpD X (compareOp .In) (dInL false) := by
  refine ⟨fun x y S Q Q' k ⟨p, q, h1, h2, h3, h4, h⟩ => ⟨p, q, h1, h2, h3, h4, k _ _ h⟩, fun pins s σ H x y v u Q I rx ry ⟨d, e, S, rep, rd, re, p, q, h1, h2, h3, h4, h⟩ => ?_⟩
  exact op_inD hu pins s σ H _ _ v u Q I rx ry ⟨p, q, h1.dp rep p d x rd, h2.dp rep _ e y re, h3, h4, h _ H (LeH.refl H) rep rfl⟩
theorem od_ninL (hu : X.A.units + 65 < cLine) : OpD X (compareOp .NotIn) (dInL true) := by
  refine ⟨fun x y S Q Q' k ⟨p, q, h1, h2, h3, h4, h⟩ => ⟨p, q, h1, h2, h3, h4, k _ _ h⟩, fun pins s σ H x y v u Q I rx ry ⟨d, e, S, rep, rd, re, p, q, h1, h2, h3, h4, h⟩ => ?_⟩
  exact op_notInD hu pins s σ H _ _ v u Q I rx ry ⟨p, q, h1.dp rep p d x rd, h2.dp rep _ e y re, h3, h4, h _ H (LeH.refl H) rep rfl⟩

/-! ### calls of built-ins -/
abbrev RCD := List D → DH → DK → Prop
def MonoC (r : RCD) : Prop := ∀ ds S (Q Q' : DK), (∀ d S', Q d S' → Q' d S') → r ds S Q → r ds S Q'
def upC (w : World) (K : PySem.W.Frag) (r : RCD) : List V → Hp → VK → Prop := fun vs H Q => ∃ ds S, Rep w K S H ∧ RDs K H ds vs ∧ r ds S (lQ w K H Q)
structure CallD (X : Cx) (f : Value) (r : RCD) : Prop where
  mono : MonoC r
  run : CallR X f (upC X.w X.K r)
@[simp] def dCB (r : RCD) (t : DTA) : DTE := fun E τ S Q => t E τ S fun ds S1 => r ds S1 Q
variable {x : Str} {p pos : Pos} {e : Expr} {es : List Expr} {t : DTA} {id T : String} {r : RCD}
theorem dCB_up (hr : MonoC r) (ha : DA X es t) {σ : L2.St} {H : Hp} {Q : VK} (h : upE X (dCB r t) σ H Q) : tCB (upC X.w X.K r) (upA X t) σ H Q := by
  obtain ⟨E, τ, S, w, rl, q⟩ := h
  exact ha.to w rl q fun ds S1 vs H1 le w1 r1 rd h => ⟨ds, S1, r1.rep, rd, hr _ _ _ _ (fun d S' z v H' le2 rp rv => z v H' (le.trans le2) rp rv) h⟩
theorem de_callB (hc : CallD X (.builtin id) r) (hg : Gl X x) (hm : X.mg x = none) (hv : bootBuiltins x = some (.builtin id)) (ha : DA X (e :: es) t) (hn : x ≠ "__name__" := by decide) (hdb : (x == ("__debug__" : Str)) = false := by decide)
    (he : starEach (e :: es) X.env = (false, eval e X.env) :: starEach es X.env := by rfl) (hpl : (backTo pos (starEach es X.env)).any (·.1) = false := by rfl) : DE X (.Call (.Name x p) (e :: es) [] pos) (dCB r t) :=
  ⟨fun _ _ _ _ _ _ hE k q => ha.mono _ _ _ _ _ _ hE (fun _ _ z => hc.mono _ _ _ _ k z) q, pE_imp (pe_callB hc.run hg hm hv ha.run hn hdb he hpl) fun _ _ _ h => dCB_up hc.mono ha h⟩
theorem de_callTy (hc : CallD X (.type T) r) (hg : Gl X x) (hm : X.mg x = none) (hv : bootBuiltins x = some (.type T)) (ha : DA X (e :: es) t) (hn : x ≠ "__name__" := by decide) (hdb : (x == ("__debug__" : Str)) = false := by decide)
    (he : starEach (e :: es) X.env = (false, eval e X.env) :: starEach es X.env := by rfl) (hpl : (backTo pos (starEach es X.env)).any (·.1) = false := by rfl) : DE X (.Call (.Name x p) (e :: es) [] pos) (dCB r t) :=
  ⟨fun _ _ _ _ _ _ hE k q => ha.mono _ _ _ _ _ _ hE (fun _ _ z => hc.mono _ _ _ _ k z) q, pE_imp (pe_callTy hc.run hg hm hv ha.run hn hdb he hpl) fun _ _ _ h => dCB_up hc.mono ha h⟩
theorem rds1 {K : PySem.W.Frag} {H : Hp} {d : D} {vs : List V} (r : RDs K H [d] vs) : ∃ v, vs = [v] ∧ RD K H d v := by
  obtain ⟨v, _, rfl, h, rfl⟩ := r
  exact ⟨v, rfl, h⟩
theorem rds2 {K : PySem.W.Frag} {H : Hp} {d e : D} {vs : List V} (r : RDs K H [d, e] vs) : ∃ v u, vs = [v, u] ∧ RD K H d v ∧ RD K H e u := by
  obtain ⟨v, _, rfl, h, u, _, rfl, h2, rfl⟩ := r
  exact ⟨v, u, rfl, h, h2⟩
/-- repr -/
def cRepr : RCD := fun ds S Q => match ds with | [d] => ∃ p, Pd S d p ∧ p.showable = true ∧ p.depth ≤ 100 ∧ p.shown.length ≤ sizeLine ∧ Q (.str p.shown) S | _ => False
theorem noDict_pd {S : DH} : ∀ (p : PyData) (d : D), Pd S d p → p.hasDict = false
  | .none, _, h | .bool _, _, h | .int _, _, h | .str _, _, h => rfl
  | .tuple ps, _, h => by cases h with | tup hs => exact go ps _ hs
  | .list ps, _, h => by cases h with | rol hs => exact go ps _ hs | lst _ hs => exact go ps _ hs
  | .dict _, _, h => by cases h
where go : ∀ (ps : List PyData) (ds : List D), PdA S ds ps → PyData.hasDictAll ps = false
  | [], _, _ => rfl
  | p :: ps, _, h => by
    cases h with
    | cons h1 h2 =>
      show (PyData.hasDict p || PyData.hasDictAll ps) = false
      rw [noDict_pd p _ h1, go ps _ h2]
      rfl
theorem cd_repr (hu : X.A.units + 120 < cLine) (hg : X.A.guards = some []) : CallD X (.builtin "repr") cRepr := by
  refine ⟨fun ds S Q Q' k h => ?_, fun pins s σ H vs us Q I rv ⟨ds, S, rep, rd, h⟩ => ?_⟩
  · match ds, h with
    | [d], ⟨p, h1, h2, h3, h4, q⟩ => exact ⟨p, h1, h2, h3, h4, k _ _ q⟩
  · match ds, h with
    | [d], ⟨p, h1, h2, h3, h4, q⟩ =>
      obtain ⟨v, rfl, rd1⟩ := rds1 rd
      obtain ⟨u, rfl, ru⟩ := Vals.one rv
      have dp := h1.dp rep p d v rd1
      have q1 := q (.str p.shown) H (LeH.refl H) rep rfl
      obtain ⟨as, rr⟩ := Dp.reads I p v u dp ru
      cases h1 with
      | non => cases rd1; cases ru; exact PySem.P.repr_of_none ⟨.str _, H, I.tok _, ⟨_, rfl⟩, q1⟩
      | bl b => cases rd1; cases ru; exact PySem.P.repr_of_bool ⟨.str _, H, I.tok _, ⟨_, rfl⟩, by cases b <;> exact q1⟩
      | int i =>
        cases rd1
        obtain ⟨t, rfl⟩ := ru
        have hz : i.natAbs.log2 < 1920 := by simpa [PyData.showable] using h2
        exact PySem.P.repr_of_int hz ⟨.str _, H, I.tok _, ⟨_, rfl⟩, q1⟩
      | str z =>
        cases rd1
        obtain ⟨t, rfl⟩ := ru
        exact PySem.P.repr_of_str ⟨.str _, H, I.tok _, ⟨_, rfl⟩, q1⟩ h4
      | tup hs =>
        obtain ⟨a, xs, rfl, _⟩ : ∃ p xs, v = V.ref p ∧ SqT X.K H p xs ∧ RDs X.K H _ xs := rd1
        cases ru
        exact PySem.repr_of_reads' rr h2 (fun z => by rw [noDict_pd _ _ (.tup hs)] at z; cases z) hg (by omega) (fun _ _ e => e) (fun h' u tk hk => ⟨.str _, H, I.kept hk, ⟨_, rfl⟩, q1⟩) h4
      | rol hs =>
        obtain ⟨a, xs, rfl, _⟩ : ∃ p xs, v = V.ref p ∧ SqR X.K H p xs ∧ RDs X.K H _ xs := rd1
        cases ru
        exact PySem.repr_of_reads' rr h2 (fun z => by rw [noDict_pd _ _ (.rol hs)] at z; cases z) hg (by omega) (fun _ _ e => e) (fun h' u tk hk => ⟨.str _, H, I.kept hk, ⟨_, rfl⟩, q1⟩) h4
      | lst e hs =>
        cases rd1
        cases ru
        exact PySem.repr_of_reads' rr h2 (fun z => by rw [noDict_pd _ _ (.lst e hs)] at z; cases z) hg (by omega) (fun _ _ e => e) (fun h' u tk hk => ⟨.str _, H, I.kept hk, ⟨_, rfl⟩, q1⟩) h4
end
end Dt
set_option maxRecDepth 100000
set_option maxHeartbeats 4000000
/-! Dat5: subscripts, slices, dicts, built-ins, methods, what is walked. -/
namespace Dt
open PySem PySem.Spec L2

/-! ### keys -/
@[simp] def dkey : D → Option Key
  | .int i => some (.inl i)
  | .str x => some (.inr x)
  | _ => none
def dkeys : List D → Option (List Key)
  | [] => some []
  | d :: ds => match dkey d, dkeys ds with | some k, some ks => some (k :: ks) | _, _ => none
def tkey : D → Option (List Key)
  | .tup ds => dkeys ds
  | _ => none
section
variable {w : World} {K : PySem.W.Frag} {S : DH} {H : Hp}
theorem dkey_rd {d : D} {k : Key} {v : V} (e : dkey d = some k) (r : RD K H d v) : v = kV k := by
  cases d <;> cases e <;> exact r
theorem dkeys_rd : ∀ {ds : List D} {ks : List Key} {vs : List V}, dkeys ds = some ks → RDs K H ds vs → vs = ks.map kV
  | [], _, _, e, r => by cases e; cases r; rfl
  | d :: ds, _, _, e, r => by
    obtain ⟨v, vs, rfl, r1, r2⟩ := r
    unfold dkeys at e
    cases e1 : dkey d with
    | none => rw [e1] at e; simp at e
    | some k =>
      cases e2 : dkeys ds with
      | none => rw [e1, e2] at e; simp at e
      | some ks =>
        rw [e1, e2] at e
        cases e
        rw [dkey_rd e1 r1, dkeys_rd e2 r2]
        rfl
/-- a key tuple of the heap: not one of the written part -/
def TrkT (K : PySem.W.Frag) (H : Hp) (d : D) (v : V) : Prop := ∃ p ks, v = .ref p ∧ tkey d = some ks ∧ H p = some (.tup (ks.map kV))
end
/-- the tuple that a value stands for is tracked itself -/
theorem sqT_split {K : PySem.W.Frag} {H : Hp} {p : Addr} {xs : List V} (h : SqT K H p xs) : H p = some (.tup xs) ∨ (∃ o, H p = some (.frz o (.tup xs))) ∨ ∃ (o : Obj) (its : Array Value) (n : Nat), K.lookup p = some o ∧ o.cls = .type "tuple" ∧ o.data = .seq its n ∧ its.size ≤ sizeLine ∧ Vals xs its.toList := by
  rcases h with (h | h) | h
  · exact .inl h
  · exact .inr (.inl h)
  · exact .inr (.inr h)

/-! ### o[i] -/
@[simp] def dIxS : R2D := fun d e S Q => match d, e with
  | .tup ds, .int i => opt (atI ds i) fun x => Q x S
  | .rol ds, .int i => opt (atI ds i) fun x => Q x S
  | .str z, .int i => z.length ≤ sizeLine ∧ opt (atI z.cps.toList i) fun c => Q (.str ⟨#[c]⟩) S
  | .ref a, e => (match S a with
    | some (.lst ds) => (match e with | .int i => opt (atI ds i) fun x => Q x S | _ => False)
    | some (.dK kvs) => opt (dkey e) fun k => opt (lk kvs k) fun x => Q x S
    | some (.dN kvs) => okT e = true ∧ opt (lk kvs e) fun x => Q x S
    | _ => False)
  | _, _ => False
def IxD (X : Cx) (r : R2D) : Prop := Mono2 r ∧ IxR X (upO X.w X.K r)
theorem atI_of {K : PySem.W.Frag} {H : Hp} {ds : List D} {xs : List V} {i : Int} {d : D} (r : RDs K H ds xs) (e : atI ds i = some d) : ∃ v, atI xs i = some v ∧ RD K H d v := by
  unfold atI at e ⊢
  rw [← r.length]
  cases q : ixN ds.length i with
  | none => rw [q] at e; cases e
  | some j =>
    rw [q] at e
    exact r.get e
section
variable {X : Cx} {a b : Expr} {ta tb : DTE} {pos : Pos}
theorem ixD_any (hu : X.A.units + 120 < cLine) : IxD X dIxS := by
  refine ⟨fun x y S Q Q' k h => ?_, fun value slice pins s σ H x y v u Q I rx ry ⟨d, e, S, rep, rd, re, h⟩ hs => ?_⟩
  · cases x with
    | tup ds => cases y <;> first | exact h.elim | exact opt_mono (fun _ z => k _ _ z) h
    | rol ds => cases y <;> first | exact h.elim | exact opt_mono (fun _ z => k _ _ z) h
    | str z => cases y <;> first | exact h.elim | exact ⟨h.1, opt_mono (fun _ z => k _ _ z) h.2⟩
    | ref a =>
      revert h
      show (match S a with | some (.lst ds) => _ | some (.dK kvs) => _ | some (.dN kvs) => _ | _ => False) → (match S a with | some (.lst ds) => _ | some (.dK kvs) => _ | some (.dN kvs) => _ | _ => False)
      split
      · intro h
        cases y <;> first | exact h.elim | exact opt_mono (fun _ z => k _ _ z) h
      · exact fun h => opt_mono (fun _ z => opt_mono (fun _ z => k _ _ z) z) h
      · exact fun h => ⟨h.1, opt_mono (fun _ z => k _ _ z) h.2⟩
      · exact fun h => h
    | _ => exact h.elim
  · cases d with
    | tup ds =>
      cases e <;> first | exact h.elim | skip
      rename_i i
      cases re
      obtain ⟨p, xs, rfl, sq, rs⟩ : ∃ p xs, x = V.ref p ∧ SqT X.K H p xs ∧ RDs X.K H ds xs := rd
      obtain ⟨z, e1, q⟩ := opt_ex h
      obtain ⟨w, e2, rw2⟩ := atI_of rs e1
      exact ix_tup value slice pins s σ H _ _ v u Q I rx ry ⟨p, xs, i, w, rfl, rfl, sq, e2, q w H (LeH.refl H) rep rw2⟩ hs
    | rol ds =>
      cases e <;> first | exact h.elim | skip
      rename_i i
      cases re
      obtain ⟨p, xs, rfl, sq, rs⟩ : ∃ p xs, x = V.ref p ∧ SqR X.K H p xs ∧ RDs X.K H ds xs := rd
      obtain ⟨z, e1, q⟩ := opt_ex h
      obtain ⟨w, e2, rw2⟩ := atI_of rs e1
      exact ix_list value slice pins s σ H _ _ v u Q I rx ry ⟨p, xs, i, w, rfl, rfl, sq.l, e2, q w H (LeH.refl H) rep rw2⟩ hs
    | str z =>
      cases e <;> first | exact h.elim | skip
      rename_i i
      cases re
      cases rd
      obtain ⟨c, e1, q⟩ := opt_ex h.2
      exact ix_str value slice pins s σ H _ _ v u Q I rx ry ⟨z, i, c, rfl, rfl, h.1, e1, q _ H (LeH.refl H) rep rfl⟩ hs
    | ref a =>
      cases rd
      revert h
      show (match S a with | some (.lst ds) => _ | some (.dK kvs) => _ | some (.dN kvs) => _ | _ => False) → _
      split
      · rename_i ds ea
        intro h
        cases e <;> first | exact h.elim | skip
        rename_i i
        cases re
        obtain ⟨xs, e0, rs⟩ : ∃ xs, H a = some (.lst xs) ∧ RDs X.K H ds xs := rep a _ ea
        obtain ⟨z, e1, q⟩ := opt_ex h
        obtain ⟨w, e2, rw2⟩ := atI_of rs e1
        exact ix_list value slice pins s σ H _ _ v u Q I rx ry ⟨a, xs, i, w, rfl, rfl, .of e0, e2, q w H (LeH.refl H) rep rw2⟩ hs
      · rename_i kvs ea
        intro h
        obtain ⟨ws, e0, rk⟩ : ∃ ws, H a = some (.dK ws) ∧ RKs X.K H kvs ws := rep a _ ea
        obtain ⟨k, ek, h⟩ := opt_ex h
        obtain ⟨z, el, q⟩ := opt_ex h
        obtain ⟨w, ew, rw2⟩ := rk.ss el
        have ey := dkey_rd ek re
        subst ey
        cases rx
        have g : DGet H a (kV k) (some w) := ew ▸ DGet.k e0
        exact PyProof.Rows.tail_any (dict_typeIs I g) PySem.F.slot_dict_getitem.lookup (d_getItem (by omega) I g ry fun w' s3 I3 r3 => ⟨w, H, I3, r3, q w H (LeH.refl H) rep rw2⟩) hs
      · rename_i kvs ea
        rintro ⟨hk, h⟩
        obtain ⟨z, el, q⟩ := opt_ex h
        obtain ⟨xs, dd, rx', hsys, hl, nd, mu⟩ := dn_open I (rep a _ ea)
        obtain ⟨nk, b, ek, _, rfl, rfl, his⟩ := okT_key I hk re ry
        obtain ⟨p, hp, w, rw1, rw2⟩ := rx'.ss ek el
        cases rx
        exact PyProof.Rows.tail_any dd.typeIs PySem.F.slot_dict_getitem.lookup (wpAny_getItem_heap (show X.A.units + 1 + 8 < cLine by omega) his dd hp ⟨w, H, I.tok _, rw1, q w H (LeH.refl H) rep rw2⟩) hs
      · exact fun h => h.elim
    | _ => exact h.elim
theorem de_ix {r : R2D} (hr : IxD X r) (ha : DE X a ta) (hb : DE X b tb) (hs : PlainIx b := by exact fun _ _ => rfl) : DE X (.Subscript a b pos) (dOp r ta tb) :=
  ⟨fun _ _ _ _ _ _ he k q => dOp_mono ha hb hr.1 he k q, pE_imp (pe_ix hr.2 ha.run hb.run hs) fun _ _ _ h => dOp_up ha hb hr.1 h⟩
end

/-! ### o[i:j] -/
abbrev DTO := DW → DSt → DH → (Option Int → DH → Prop) → Prop
def upP (X : Cx) (t : DTO) : TO := fun σ H Q => ∃ E τ S, Wish X E H ∧ Rel X.w X.K τ S σ H ∧ t E τ S fun o S' => ∀ H', LeH H H' → Rep X.w X.K S' H' → Q o H'
structure DO (X : Cx) (e : Option Expr) (t : DTO) : Prop where
  mono : ∀ (E E' : DW) τ S (Q Q' : Option Int → DH → Prop), (∀ C fs τ S, E C fs τ S → E' C fs τ S) → (∀ d S', Q d S' → Q' d S') → t E τ S Q → t E' τ S Q'
  run : PO X e (upP X t)
@[simp] def dNoP : DTO := fun _ _ S Q => Q none S
@[simp] def dSoP (te : DTE) : DTO := fun E τ S Q => te E τ S fun d S' => match d with | .int i => Q (some i) S' | _ => False
section
variable {X : Cx} {e o : Expr} {lo hi : Option Expr} {te to : DTE} {tl th : DTO} {pos p2 : Pos}
theorem pP_imp {e : Option Expr} {t t' : TO} (h : PO X e t) (k : ∀ σ H Q, t' σ H Q → t σ H Q) : PO X e t' := ⟨fun pins s σ H Q I q => h.run pins s σ H Q I (k σ H Q q)⟩
theorem do_none : DO X none dNoP := ⟨fun _ _ _ _ _ _ _ k q => k _ _ q, pP_imp po_none fun σ H Q ⟨E, τ, S, w, r, q⟩ => q H (LeH.refl H) r.rep⟩
theorem do_some (h : DE X e te) : DO X (some e) (dSoP te) := by
  refine ⟨fun E E' τ S Q Q' he k q => h.mono _ _ _ _ _ _ he (fun d S' z => ?_) q, pP_imp (po_some h.run) fun σ H Q ⟨E, τ, S, w, r, q⟩ => ?_⟩
  · cases d <;> first | exact z.elim | exact k _ _ z
  · refine h.to w r q fun d S' v H' le w' r' rd z => ?_
    cases d <;> first | exact z.elim | skip
    exact ⟨_, rd, z H' le r'.rep⟩
theorem DO.lead {t : DTO} (h : DO X lo t) {E : DW} {τ : DSt} {S : DH} {σ : L2.St} {H : Hp} {Q0 : Option Int → DH → Prop} {Q : Option Int → Hp → Prop} (w : Wish X E H) (r : Rel X.w X.K τ S σ H) (q : t E τ S Q0)
    (k : ∀ b S' H', LeH H H' → Wish X E H' → Rel X.w X.K τ S' σ H' → Q0 b S' → Q b H') : upP X t σ H Q :=
  ⟨E, τ, S, w, r, h.mono _ _ _ _ _ _ (fun _ _ _ _ z => z) (fun d S' z H' le rp => k d S' H' le (w.le le) (r.le le rp) z) q⟩
def cutD (ds : List D) (lo hi : Option Int) : List D := (ds.drop (HT.sIx ds.length 0 lo)).take (HT.sIx ds.length ds.length hi - HT.sIx ds.length 0 lo)
theorem cut_rd {K : PySem.W.Frag} {H : Hp} {ds : List D} {xs : List V} (r : RDs K H ds xs) (lo hi : Option Int) : RDs K H (cutD ds lo hi) (cutV xs lo hi) := by
  unfold cutD cutV
  rw [r.length]
  exact (r.drop _).take _
@[simp] def dSl (to : DTE) (tl th : DTO) : DTE := fun E τ S Q => to E τ S fun d S1 => tl E τ S1 fun l S2 => th E τ S2 fun h S3 => match d with
  | .str z => z.length ≤ sizeLine ∧ Q (.str (cutS z l h)) S3
  | .tup ds => Q (.tup (cutD ds l h)) S3
  | .ref a => (match S3 a with | some (.lst ds) => newO S3 (.lst (cutD ds l h)) fun p S' => Q (.ref p) S' | _ => False)
  | .rol ds => newO S3 (.lst (cutD ds l h)) fun p S' => Q (.ref p) S'
  | _ => False
theorem de_sl (ho : DE X o to) (hl : DO X lo tl) (hh : DO X hi th) : DE X (.Subscript o (.Slice lo hi none p2) pos) (dSl to tl th) := by
  refine ⟨fun E E' τ S Q Q' he k q => ho.mono _ _ _ _ _ _ he (fun d S1 z => hl.mono _ _ _ _ _ _ he (fun l S2 z => hh.mono _ _ _ _ _ _ he (fun h S3 z => ?_) z) z) q,
    pE_imp (pe_slice (sl_list.or (sl_tupA.or sl_str)) ho.run hl.run hh.run) fun σ H Q ⟨E, τ, S, w, r, q⟩ => ?_⟩
  · cases d with
    | str x => exact ⟨z.1, k _ _ z.2⟩
    | tup ds => exact k _ _ z
    | rol ds => exact fun p hp => k _ _ (z p hp)
    | ref a =>
      revert z
      show (match S3 a with | some (.lst ds) => _ | _ => False) → (match S3 a with | some (.lst ds) => _ | _ => False)
      split
      · exact fun z p hp => k _ _ (z p hp)
      · exact fun z => z
    | _ => exact z
  · refine ho.to w r q fun d S1 x H1 le1 w1 r1 rd z => hl.lead w1 r1 z fun l S2 H2 le2 w2 r2 z => hh.lead w2 r2 z fun h S3 H3 le3 w3 r3 z => ?_
    have rd3 := rd.le (le2.trans le3)
    have le := le1.trans (le2.trans le3)
    cases d with
    | str x =>
      cases rd
      exact .inr (.inr ⟨_, rfl, z.1, z.2 _ H3 le r3.rep rfl⟩)
    | tup ds =>
      obtain ⟨p, xs, rfl, sq, rs⟩ : ∃ p xs, x = V.ref p ∧ SqT X.K H3 p xs ∧ RDs X.K H3 ds xs := rd3
      refine .inr (.inl ⟨p, xs, rfl, sq, fun ⟨h1, h2⟩ => z _ H3 le r3.rep ⟨p, xs, rfl, sq, ?_⟩, fun _ q hq => ?_⟩)
      · have : cutD ds l h = ds := by
          unfold cutD
          rw [rs.length, h1, h2, List.drop_zero, Nat.sub_zero, ← rs.length, List.take_length]
        rw [this]
        exact rs
      · exact z _ _ (le.trans (LeH.new hq)) (r3.rep.garb hq) ⟨q, _, rfl, .of upd_same, (cut_rd rs l h).le (LeH.new hq)⟩
    | rol ds =>
      obtain ⟨p, xs, rfl, sq, rs⟩ : ∃ p xs, x = V.ref p ∧ SqR X.K H3 p xs ∧ RDs X.K H3 ds xs := rd3
      refine .inl ⟨p, xs, rfl, sq.l, fun q hq => ?_⟩
      exact z q (r3.rep.free hq) _ _ (le.trans (LeH.new hq)) (r3.rep.new hq (o := .lst (cutD ds l h)) ⟨_, upd_same, (cut_rd rs l h).le (LeH.new hq)⟩) rfl
    | ref a =>
      cases rd
      revert z
      show (match S3 a with | some (.lst ds) => _ | _ => False) → _
      split
      · rename_i ds ea
        intro z
        obtain ⟨xs, e0, rs⟩ : ∃ xs, H3 a = some (.lst xs) ∧ RDs X.K H3 ds xs := r3.rep a _ ea
        refine .inl ⟨a, xs, rfl, .of e0, fun q hq => ?_⟩
        exact z q (r3.rep.free hq) _ _ (le.trans (LeH.new hq)) (r3.rep.new hq (o := .lst (cutD ds l h)) ⟨_, upd_same, (cut_rd rs l h).le (LeH.new hq)⟩) rfl
      · exact fun z => z.elim
    | _ => exact z.elim
@[simp] def dSlF (to : DTE) (tl th : DTO) : DTE := fun E τ S Q => to E τ S fun d S1 => tl E τ S1 fun l S2 => th E τ S2 fun h S3 => match d with
  | .str z => z.length ≤ sizeLine ∧ Q (.str (cutS z l h)) S3
  | .tup ds => Q (.tup (cutD ds l h)) S3
  | d => opt (seqD S3 d) fun ds => Q (.rol (cutD ds l h)) S3
theorem de_slF (ho : DE X o to) (hl : DO X lo tl) (hh : DO X hi th) : DE X (.Subscript o (.Slice lo hi none p2) pos) (dSlF to tl th) :=
  (de_fz (de_sl ho hl hh)).sub (fun E E' τ S Q Q' he k q => ho.mono _ _ _ _ _ _ he (fun d S1 z => hl.mono _ _ _ _ _ _ he (fun l S2 z => hh.mono _ _ _ _ _ _ he (fun h S3 z => by
      cases d with
      | str x => exact ⟨z.1, k _ _ z.2⟩
      | tup ds => exact k _ _ z
      | _ => exact opt_mono (fun _ q => k _ _ q) z) z) z) q)
    fun E τ S Q q => ho.mono _ _ _ _ _ _ (fun _ _ _ _ z => z) (fun d S1 z => hl.mono _ _ _ _ _ _ (fun _ _ _ _ z => z) (fun l S2 z => hh.mono _ _ _ _ _ _ (fun _ _ _ _ z => z) (fun h S3 z => by
      cases d with
      | str x => exact ⟨z.1, z.2⟩
      | tup ds => exact z
      | rol ds => exact fun p hp => fzK_new hp z
      | ref a =>
        obtain ⟨ds, e, z⟩ := opt_ex z
        simp only [seqD_ref] at e
        split at e
        · rename_i xs ea
          cases e
          simp only [ea]
          exact fun p hp => fzK_new hp z
        · cases e
      | _ => cases z) z) z) q
end

/-! ### displays -/
section
variable {X : Cx} {es : List Expr} {t : DTA} {pos : Pos}
@[simp] def dTup (t : DTA) : DTE := fun E τ S Q => t E τ S fun ds S1 => ds.length ≤ sizeLine ∧ Q (.tup ds) S1
@[simp] def dLst (t : DTA) : DTE := fun E τ S Q => t E τ S fun ds S1 => ds.length ≤ sizeLine ∧ newO S1 (.lst ds) fun p S' => Q (.ref p) S'
theorem de_tup {x1} (h : DA X es t) : DE X (.Tuple es x1 pos) (dTup t) := by
  refine ⟨fun E E' τ S Q Q' he k q => h.mono _ _ _ _ _ _ he (fun ds S1 z => ⟨z.1, k _ _ z.2⟩) q, pE_imp (pe_tup h.run) fun σ H Q ⟨E, τ, S, w, r, q⟩ => ?_⟩
  refine h.to w r q fun ds S1 vs H1 le w1 r1 rd z => ⟨by rw [← rd.length]; exact z.1, fun p hp => ?_⟩
  exact z.2 _ _ (le.trans (LeH.new hp)) (r1.rep.garb hp) ⟨p, vs, rfl, .of upd_same, rd.le (LeH.new hp)⟩
theorem de_lst (h : DA X es t) : DE X (.List es pos) (dLst t) := by
  refine ⟨fun E E' τ S Q Q' he k q => h.mono _ _ _ _ _ _ he (fun ds S1 z => ⟨z.1, fun p hp => k _ _ (z.2 p hp)⟩) q, pE_imp (pe_lst h.run) fun σ H Q ⟨E, τ, S, w, r, q⟩ => ?_⟩
  refine h.to w r q fun ds S1 vs H1 le w1 r1 rd z => ⟨by rw [← rd.length]; exact z.1, fun p hp => ?_⟩
  exact z.2 p (r1.rep.free hp) _ _ (le.trans (LeH.new hp)) (r1.rep.new hp (o := .lst ds) ⟨vs, upd_same, rd.le (LeH.new hp)⟩) rfl
@[simp] def dLstF (t : DTA) : DTE := fun E τ S Q => t E τ S fun ds S1 => ds.length ≤ sizeLine ∧ Q (.rol ds) S1
theorem de_lstF (h : DA X es t) : DE X (.List es pos) (dLstF t) := (de_fz (de_lst h)).sub (fun E E' τ S Q Q' he k q => h.mono _ _ _ _ _ _ he (fun ds S1 z => ⟨z.1, k _ _ z.2⟩) q) fun E τ S Q q => h.mono _ _ _ _ _ _ (fun _ _ _ _ z => z) (fun ds S1 z => ⟨z.1, fun p hp => fzK_new hp z.2⟩) q
/-- {} with int and text keys; with keys that are tuples of such -/
@[simp] def dDnK : DTE := fun _ _ S Q => newO S (.dK []) fun p S' => Q (.ref p) S'
theorem de_dnK : DE X (.Dict [] [] pos) dDnK := ⟨fun _ _ _ _ _ _ _ k q p hp => k _ _ (q p hp), pE_imp pe_dnewK fun σ H Q ⟨E, τ, S, w, r, q⟩ p hp => q p (r.rep.free hp) _ _ (LeH.new hp) (r.rep.new hp (o := .dK []) ⟨[], upd_same, rfl⟩) rfl⟩
/-- {k: v, ..}, the keys written texts -/
@[simp] def dPairs : List (Str × DTE) → DW → DSt → DH → (List (Key × D) → DH → Prop) → Prop
  | [], _, _, S, Q => Q [] S
  | (k, tv) :: r, E, τ, S, Q => tv E τ S fun d S1 => dPairs r E τ S1 fun kvs S2 => Q ((Sum.inr k, d) :: kvs) S2
def mergeD (kvs more : List (Key × D)) : List (Key × D) := more.foldl (fun acc kv => pt acc kv.1 kv.2) kvs
theorem merge_rk {K : PySem.W.Frag} {H : Hp} : ∀ {more kvs : List (Key × D)} {ms ws : List (Key × V)}, RKs K H more ms → RKs K H kvs ws → RKs K H (mergeD kvs more) (mergeK ws ms)
  | [], _, _, _, h, k => by cases h; exact k
  | (j, d) :: r, _, _, _, h, k => by
    obtain ⟨v, s, rfl, h1, h2⟩ := h
    show RKs K H (mergeD (pt _ j d) r) (mergeK (putK _ j v) s)
    exact merge_rk h2 (k.pt h1)
@[simp] def dDisp (prs : List (Str × DTE)) : DTE := fun E τ S Q => newO S (.dK []) fun p S1 => dPairs prs E τ S1 fun kvs S2 => S2 p = some (.dK []) ∧ Q (.ref p) (upo S2 p (.dK (mergeD [] kvs)))
inductive DPs (X : Cx) (pos : Pos) : List (Option Expr) → List Expr → List (Str × DTE) → Prop where
  | nil : DPs X pos [] [] []
  | cons {k : Str} {j : Nat} {kp : Pos} {v : Expr} {ks : List (Option Expr)} {vs : List Expr} {tv : DTE} {prs : List (Str × DTE)} : DE X v tv → DPs X pos ks vs prs → DPs X pos (some (.Constant (.str k) j kp) :: ks) (v :: vs) ((k, tv) :: prs)
def trsOf (X : Cx) (prs : List (Str × DTE)) : List (TE × TE) := prs.map fun q => (tC (.str q.1), upE X q.2)
theorem DPs.pps {ks : List (Option Expr)} {vs : List Expr} {prs : List (Str × DTE)} (h : DPs X pos ks vs prs) : PPs X pos ks vs (trsOf X prs) := by
  induction h with
  | nil => exact pps_nil
  | cons hv _ ih => exact pps_cons pe_str hv.run ih
theorem DPs.mono {ks : List (Option Expr)} {vs : List Expr} {prs : List (Str × DTE)} (h : DPs X pos ks vs prs) : ∀ (E E' : DW) τ S (Q Q' : List (Key × D) → DH → Prop), (∀ C fs τ S, E C fs τ S → E' C fs τ S) → (∀ d S', Q d S' → Q' d S') → dPairs prs E τ S Q → dPairs prs E' τ S Q' := by
  induction h with
  | nil => exact fun _ _ _ _ _ _ _ k q => k _ _ q
  | cons hv _ ih => exact fun _ _ _ _ _ _ he k q => hv.mono _ _ _ _ _ _ he (fun d S1 z => ih _ _ _ _ _ _ he (fun _ _ z => k _ _ z) z) q
theorem DPs.to {ks : List (Option Expr)} {vs : List Expr} {prs : List (Str × DTE)} (h : DPs X pos ks vs prs) : ∀ {E : DW} {τ : DSt} {S : DH} {σ : L2.St} {H : Hp} {Q0 : List (Key × D) → DH → Prop} {Q : List (V × V) → Hp → Prop}, Wish X E H → Rel X.w X.K τ S σ H → dPairs prs E τ S Q0 →
    (∀ kvs S' (ws : List (Key × V)) H', LeH H H' → Wish X E H' → Rel X.w X.K τ S' σ H' → RKs X.K H' kvs ws → kvs.length = prs.length → Q0 kvs S' → Q (ws.map fun kv => (kV kv.1, kv.2)) H') → tPairs (trsOf X prs) σ H Q := by
  induction h with
  | nil => exact fun w r q k => k [] _ [] _ (LeH.refl _) w r rfl rfl q
  | @cons kk j kp v ks vs tv prs hv _ ih =>
    intro E τ S σ H Q0 Q w r q k
    refine hv.to w r q fun d S1 x H1 le1 w1 r1 rd z => ih w1 r1 z fun kvs S2 ws H2 le2 w2 r2 rk hl z => ?_
    exact k ((Sum.inr kk, d) :: kvs) S2 ((Sum.inr kk, x) :: ws) H2 (le1.trans le2) w2 r2 ⟨x, ws, rfl, rd.le le2, rk⟩ (by simp [hl]) z
theorem de_disp {ks : List (Option Expr)} {vs : List Expr} {prs : List (Str × DTE)} (h : DPs X pos ks vs prs) (hall : ks.all (·.isSome) = true := by rfl) (hl : ks.length = vs.length := by rfl) (h0 : ks ≠ [] := by exact fun z => nomatch z) (h15 : ks.length ≤ 15 := by decide) (h16 : prs.length ≤ 15 := by decide) : DE X (.Dict ks vs pos) (dDisp prs) := by
  refine ⟨fun E E' τ S Q Q' he k q p hp => h.mono _ _ _ _ _ _ he (fun kvs S2 z => ⟨z.1, k _ _ z.2⟩) (q p hp), pE_imp (pe_disp h.pps hall hl h0 h15) fun σ H Q ⟨E, τ, S, w, r, q⟩ p hp => ?_⟩
  have le0 : LeH H (upd H p (.dK [])) := LeH.new hp
  have r0 : Rel X.w X.K τ (upo S p (.dK [])) σ (upd H p (.dK [])) := r.le le0 (r.rep.new hp (o := .dK []) ⟨[], upd_same, rfl⟩)
  refine h.to (w.le le0) r0 (q p (r.rep.free hp)) fun kvs S2 ws H2 le2 w2 r2 rk hlen z => ?_
  obtain ⟨ws0, e0, rk0⟩ : ∃ ws, H2 p = some (.dK ws) ∧ RKs X.K H2 [] ws := r2.rep p _ z.1
  cases rk0
  have le3 : LeH H2 (upd H2 p (.dK (mergeK [] ws))) := LeH.put e0 trivial
  exact ⟨e0, ws, rfl, by rw [← rk.length, hlen]; exact h16, z.2 _ _ (le0.trans (le2.trans le3)) (r2.rep.put e0 trivial (o := .dK (mergeD [] kvs)) ⟨_, upd_same, (merge_rk rk (show RKs X.K H2 ([] : List (Key × D)) [] from rfl)).le le3⟩) rfl⟩
end

/-! ### o[i] = e -/
section
variable {X : Cx} {o i value : Expr} {to ti tv : DTE} {pos pos' : Pos}
/-- what the place's object becomes -/
@[simp] def putO (ob : Ob) (k v : D) : Option Ob := match ob, k with
  | .lst ds, .int i => (ixN ds.length i).map fun j => .lst (ds.set j v)
  | .dK kvs, k => (dkey k).bind fun kk => if kvs.length < sizeLine then some (.dK (pt kvs kk v)) else none
  | .dN kvs, k => if okT k = true ∧ kvs.length < sizeLine then some (.dN (pt kvs k v)) else none
  | _, _ => none
@[simp] def dPut (to ti tv : DTE) : DTS := fun A τ S => tv A.xe τ S fun v S1 => to A.xe τ S1 fun d S2 => ti A.xe τ S2 fun k S3 => match d with
  | .ref a => opt (S3 a) fun ob => opt (putO ob k v) fun ob' => A.nx τ (upo S3 a ob')
  | _ => False
/-- what a store asks, told of data -/
def rPutD (K : PySem.W.Frag) (w : World) : TSet := fun o i v H Q => rSetL o i v H Q ∨ (∃ a H4, o = .ref a ∧ DPut H a i v H4 ∧ Q H4) ∨
  ∃ a kvs k d, o = .ref a ∧ ROb w K H a (.dN kvs) ∧ okT k = true ∧ RD K H k i ∧ RD K H d v ∧ kvs.length < sizeLine ∧ ∀ rows, LeH H (upd H a (dnHO w rows a)) → ROb w K (upd H a (dnHO w rows a)) a (.dN (pt kvs k d)) → Q (upd H a (dnHO w rows a))
theorem set_both (hu : X.A.units + 120 < cLine) : PSet X (rPutD X.K X.w) := by
  intro pins s σ H o i v ov iv u Q I ro ri rv h
  rcases h with h | ⟨a, H4, rfl, g, q⟩ | ⟨a, kvs, k, d, rfl, rb, hk, rk, rd, hl, q⟩
  · exact set_list pins s σ H o i v ov iv u Q I ro ri rv h
  · cases ro
    exact d_setItem (by omega) I g ri rv fun s4 I4 => ⟨H4, I4, q⟩
  · cases ro
    obtain ⟨xs, dd, rx', hsys, _, nd, mu⟩ := dn_open I rb
    obtain ⟨nk, b, ek, hd8, rfl, rfl, his⟩ := okT_key I hk rk ri
    refine wpAny_setItem_heap (show X.A.units + 1 + 8 < cLine by omega) his dd (fun h' dd' sb => ?_) (by rw [← rx'.length]; omega)
    obtain ⟨rows, I2, le, rb2⟩ := dn_close (t := s.toks + (nestedKind X.prog X.w).draws nk) I mu hsys (rx'.pt ek hd8 rk rv rd) (by have := pt_len kvs k d; omega) (pt_nodup k d nd) dd' sb
    exact ⟨_, I2, q rows le rb2⟩
theorem ds_put (hu : X.A.units + 120 < cLine) (ho : DE X o to) (hi : DE X i ti) (hv : DE X value tv) (hs : swapsWithSole [.Subscript o i pos'] value pos.line X.env = pure false := by rfl) (hw : swappedStores [.Subscript o i pos'] value X.env = pure none := by rfl)
    (h1 : (assignEach [.Subscript o i pos'] X.env).map (·.2) = [assign (.Subscript o i pos') X.env] := by rfl)
    (ha : ∀ v, assign (.Subscript o i pos') X.env v = (do let ov ← holding [v] (eval o X.env); let iv ← holding [v, ov] (eval i X.env); standAt pos'; holding [v, ov, iv] (setItem ov iv v); release [v, ov, iv] []) := by intro _; rfl) :
    DS X (.Assign [.Subscript o i pos'] value pos) (dPut to ti tv) := by
  refine ⟨fun A B τ S le q => hv.mono _ _ _ _ _ _ le.xe (fun v S1 z => ho.mono _ _ _ _ _ _ le.xe (fun d S2 z => hi.mono _ _ _ _ _ _ le.xe (fun k S3 z => ?_) z) z) q,
    pS_imp (ps_asg hv.run (pg_sub ho.run hi.run (set_both hu) ha) hs hw h1) fun D σ H ⟨E, τ, S, w, r, q⟩ => ?_⟩
  · cases d <;> first | exact z | exact opt_mono (fun _ z => opt_mono (fun _ z => le.nx _ _ z) z) z
  · refine hv.to w r q fun v S1 x H1 le1 w1 r1 rv z => ho.to w1 r1 z fun d S2 y H2 le2 w2 r2 rd z => hi.to w2 r2 z fun k S3 u H3 le3 w3 r3 rk z => ?_
    cases d with
    | ref a =>
      cases rd
      obtain ⟨ob, ea, z⟩ := opt_ex z
      obtain ⟨ob', eo, z⟩ := opt_ex z
      have rv3 := rv.le (le2.trans le3)
      have le := le1.trans (le2.trans le3)
      cases ob with
      | lst ds =>
        cases k with
        | int n =>
          cases rk
          obtain ⟨xs, e0, rs⟩ : ∃ xs, H3 a = some (.lst xs) ∧ RDs X.K H3 ds xs := r3.rep a _ ea
          have eo' : (ixN ds.length n).map (fun j => Ob.lst (ds.set j v)) = some ob' := eo
          cases ej : ixN ds.length n with
          | none =>
            rw [ej] at eo'
            cases eo'
          | some j =>
            rw [ej] at eo'
            cases eo'
            have le4 : LeH H3 (upd H3 a (.lst (xs.set j x))) := LeH.put e0 trivial
            exact .inl ⟨a, xs, n, j, rfl, rfl, e0, by rw [← rs.length]; exact ej, z _ _ (le.trans le4) (r3.le le4 (r3.rep.put e0 trivial (o := .lst (ds.set j v)) ⟨_, upd_same, (rs.set j rv3).le le4⟩))⟩
        | _ => cases eo
      | dK kvs =>
        obtain ⟨ws, e0, rk0⟩ : ∃ ws, H3 a = some (.dK ws) ∧ RKs X.K H3 kvs ws := r3.rep a _ ea
        have eo' : ((dkey k).bind fun kk => if kvs.length < sizeLine then some (Ob.dK (pt kvs kk v)) else none) = some ob' := by
          cases k <;> exact eo
        cases ek : dkey k with
        | none =>
          rw [ek] at eo'
          cases eo'
        | some kk =>
          rw [ek, Option.bind_some] at eo'
          split at eo'
          · rename_i hl
            cases eo'
            have eu := dkey_rd ek rk
            subst eu
            have le4 : LeH H3 (upd H3 a (.dK (putK ws kk x))) := LeH.put e0 trivial
            exact .inr (.inl ⟨a, _, rfl, DPut.k e0 (by rw [← rk0.length]; exact hl), z _ _ (le.trans le4) (r3.le le4 (r3.rep.put e0 trivial (o := .dK (pt kvs kk v)) ⟨_, upd_same, (rk0.pt rv3).le le4⟩))⟩)
          · cases eo'
      | dN kvs =>
        have eo' : (if okT k = true ∧ kvs.length < sizeLine then some (Ob.dN (pt kvs k v)) else none) = some ob' := by
          cases k <;> exact eo
        split at eo'
        · rename_i hk
          cases eo'
          have rb := r3.rep a _ ea
          refine .inr (.inr ⟨a, kvs, k, v, rfl, rb, hk.1, rk, rv3, hk.2, fun rows le4 rb2 => z _ _ (le.trans le4) (r3.le le4 ?_)⟩)
          obtain ⟨rows0, e0, _⟩ := rb
          exact r3.rep.put e0 trivial rb2
        · cases eo'
      | ins C fs => cases k <;> cases eo
    | _ => exact z.elim
end
end Dt
set_option maxRecDepth 100000
set_option maxHeartbeats 4000000
/-! Dat6: built-ins by name, methods, what is walked, isinstance, names of the module. -/
namespace Dt
open PySem PySem.Spec L2

section
variable {X : Cx}
/-! ### calls -/
@[simp] def cLen : RCD := fun ds S Q => match ds with
  | [.str z] => z.length ≤ sizeLine ∧ Q (.int z.length) S
  | [.tup xs] => Q (.int xs.length) S
  | [.rol xs] => Q (.int xs.length) S
  | [.ref a] => (match S a with | some (.lst xs) => Q (.int xs.length) S | some (.dK kvs) => Q (.int kvs.length) S | some (.dN kvs) => Q (.int kvs.length) S | _ => False)
  | _ => False
theorem cd_len : CallD X (.builtin "len") cLen := by
  refine ⟨fun ds S Q Q' k h => ?_, fun pins s σ H vs us Q I rv ⟨ds, S, rep, rd, h⟩ => ?_⟩
  · match ds, h with
    | [.str z], h => exact ⟨h.1, k _ _ h.2⟩
    | [.tup xs], h => exact k _ _ h
    | [.rol xs], h => exact k _ _ h
    | [.ref a], h =>
      revert h
      show (match S a with | some (.lst xs) => _ | some (.dK kvs) => _ | some (.dN kvs) => _ | _ => False) → (match S a with | some (.lst xs) => _ | some (.dK kvs) => _ | some (.dN kvs) => _ | _ => False)
      split
      · exact k _ _
      · exact k _ _
      · exact k _ _
      · exact fun h => h
  · match ds, h with
    | [.str z], h =>
      obtain ⟨v, rfl, r⟩ := rds1 rd
      cases r
      exact call_len_str pins s σ H _ us Q I rv ⟨z, rfl, h.1, h.2 _ H (LeH.refl H) rep rfl⟩
    | [.tup xs], h =>
      obtain ⟨v, rfl, r⟩ := rds1 rd
      obtain ⟨p, ys, rfl, sq, rs⟩ : ∃ p ys, v = V.ref p ∧ SqT X.K H p ys ∧ RDs X.K H xs ys := r
      exact call_len_seq pins s σ H _ us Q I rv ⟨p, ys, rfl, .inr sq, by rw [← rs.length]; exact h _ H (LeH.refl H) rep rfl⟩
    | [.rol xs], h =>
      obtain ⟨v, rfl, r⟩ := rds1 rd
      obtain ⟨p, ys, rfl, sq, rs⟩ : ∃ p ys, v = V.ref p ∧ SqR X.K H p ys ∧ RDs X.K H xs ys := r
      exact call_len_seq pins s σ H _ us Q I rv ⟨p, ys, rfl, .inl sq.l, by rw [← rs.length]; exact h _ H (LeH.refl H) rep rfl⟩
    | [.ref a], h =>
      obtain ⟨v, rfl, r⟩ := rds1 rd
      cases r
      revert h
      show (match S a with | some (.lst xs) => _ | some (.dK kvs) => _ | some (.dN kvs) => _ | _ => False) → _
      split
      · rename_i xs ea
        intro h
        obtain ⟨ys, e0, rs⟩ : ∃ ys, H a = some (.lst ys) ∧ RDs X.K H xs ys := rep a _ ea
        exact call_len_seq pins s σ H _ us Q I rv ⟨a, ys, rfl, .inl (.of e0), by rw [← rs.length]; exact h _ H (LeH.refl H) rep rfl⟩
      · rename_i kvs ea
        intro h
        obtain ⟨ws, e0, rk⟩ : ∃ ws, H a = some (.dK ws) ∧ RKs X.K H kvs ws := rep a _ ea
        exact call_lenD pins s σ H _ us Q I rv ⟨a, ws, rfl, e0, by rw [← rk.length]; exact h _ H (LeH.refl H) rep rfl⟩
      · rename_i kvs ea
        intro h
        obtain ⟨xs, dd, rx', hsys, hl, nd, mu⟩ := dn_open I (rep a _ ea)
        rw [Vals.ref1 rv]
        refine call_len_dictH hsys dd (by rw [← rx'.length]; rw [sizeLine_eq] at hl; omega) ?_
        rw [← rx'.length]
        exact ⟨.int ((kvs.length : Nat) : Int), H, I.tok _, ⟨_, rfl⟩, h _ H (LeH.refl H) rep rfl⟩
      · exact fun h => h.elim
@[simp] def cMax2 : RCD := fun ds S Q => match ds with | [.int i, .int j] => Q (.int (if j > i then j else i)) S | _ => False
@[simp] def cMin2 : RCD := fun ds S Q => match ds with | [.int i, .int j] => Q (.int (if j < i then j else i)) S | _ => False
theorem cd_max2 (hc : X.calm = true) : CallD X (.builtin "max") cMax2 := by
  refine ⟨fun ds S Q Q' k h => ?_, fun pins s σ H vs us Q I rv ⟨ds, S, rep, rd, h⟩ => ?_⟩
  · match ds, h with | [.int i, .int j], h => exact k _ _ h
  · match ds, h with
    | [.int i, .int j], h =>
      obtain ⟨v, u, rfl, r1, r2⟩ := rds2 rd
      cases r1; cases r2
      exact call_max2 hc pins s σ H _ us Q I rv ⟨i, j, rfl, h _ H (LeH.refl H) rep rfl⟩
theorem cd_min2 (hc : X.calm = true) : CallD X (.builtin "min") cMin2 := by
  refine ⟨fun ds S Q Q' k h => ?_, fun pins s σ H vs us Q I rv ⟨ds, S, rep, rd, h⟩ => ?_⟩
  · match ds, h with | [.int i, .int j], h => exact k _ _ h
  · match ds, h with
    | [.int i, .int j], h =>
      obtain ⟨v, u, rfl, r1, r2⟩ := rds2 rd
      cases r1; cases r2
      exact call_min2 hc pins s σ H _ us Q I rv ⟨i, j, rfl, h _ H (LeH.refl H) rep rfl⟩
def cMinL : RCD := fun ds S Q => ∃ (d : D) (ns : List Int), ds = [d] ∧ seqD S d = some (ns.map D.int) ∧ 0 < ns.length ∧ ∀ m, m ∈ ns → (∀ y, y ∈ ns → m ≤ y) → Q (.int m) S
def cMaxL : RCD := fun ds S Q => ∃ (d : D) (ns : List Int), ds = [d] ∧ seqD S d = some (ns.map D.int) ∧ 0 < ns.length ∧ ∀ m, m ∈ ns → (∀ y, y ∈ ns → y ≤ m) → Q (.int m) S
theorem cd_minL (hc : X.calm = true) : CallD X (.builtin "min") cMinL := by
  refine ⟨fun ds S Q Q' k ⟨a, ns, e, h1, h2, h⟩ => ⟨a, ns, e, h1, h2, fun m hm hy => k _ _ (h m hm hy)⟩, fun pins s σ H vs us Q I rv ⟨ds, S, rep, rd, d, ns, e, h1, h2, h⟩ => ?_⟩
  subst e
  obtain ⟨v, rfl, r⟩ := rds1 rd
  obtain ⟨a, ys, rfl, sq, rs⟩ := seqD_rd rep r h1
  rw [RDs.ints.mp rs] at sq
  exact cr_min hc pins s σ H _ us Q I rv ⟨a, ns, rfl, sq.l, h2, fun m hm hy => h m hm hy _ H (LeH.refl H) rep rfl⟩
theorem cd_maxL (hc : X.calm = true) : CallD X (.builtin "max") cMaxL := by
  refine ⟨fun ds S Q Q' k ⟨a, ns, e, h1, h2, h⟩ => ⟨a, ns, e, h1, h2, fun m hm hy => k _ _ (h m hm hy)⟩, fun pins s σ H vs us Q I rv ⟨ds, S, rep, rd, d, ns, e, h1, h2, h⟩ => ?_⟩
  subst e
  obtain ⟨v, rfl, r⟩ := rds1 rd
  obtain ⟨a, ys, rfl, sq, rs⟩ := seqD_rd rep r h1
  rw [RDs.ints.mp rs] at sq
  exact cr_max hc pins s σ H _ us Q I rv ⟨a, ns, rfl, sq.l, h2, fun m hm hy => h m hm hy _ H (LeH.refl H) rep rfl⟩
def cAll : RCD := fun ds S Q => ∃ (d : D) (bs : List Bool), ds = [d] ∧ seqD S d = some (bs.map D.bl) ∧ Q (.bl (bs.all id)) S
def cAny : RCD := fun ds S Q => ∃ (d : D) (bs : List Bool), ds = [d] ∧ seqD S d = some (bs.map D.bl) ∧ Q (.bl (bs.any id)) S
theorem cd_all (hc : X.calm = true) : CallD X (.builtin "all") cAll := by
  refine ⟨fun ds S Q Q' k ⟨a, ns, e, h1, h⟩ => ⟨a, ns, e, h1, k _ _ h⟩, fun pins s σ H vs us Q I rv ⟨ds, S, rep, rd, d, ns, e, h1, h⟩ => ?_⟩
  subst e
  obtain ⟨v, rfl, r⟩ := rds1 rd
  obtain ⟨a, ys, rfl, sq, rs⟩ := seqD_rd rep r h1
  rw [RDs.bls.mp rs] at sq
  exact cr_all hc pins s σ H _ us Q I rv ⟨a, ns, rfl, sq.l, h _ H (LeH.refl H) rep rfl⟩
theorem cd_any (hc : X.calm = true) : CallD X (.builtin "any") cAny := by
  refine ⟨fun ds S Q Q' k ⟨a, ns, e, h1, h⟩ => ⟨a, ns, e, h1, k _ _ h⟩, fun pins s σ H vs us Q I rv ⟨ds, S, rep, rd, d, ns, e, h1, h⟩ => ?_⟩
  subst e
  obtain ⟨v, rfl, r⟩ := rds1 rd
  obtain ⟨a, ys, rfl, sq, rs⟩ := seqD_rd rep r h1
  rw [RDs.bls.mp rs] at sq
  exact cr_any hc pins s σ H _ us Q I rv ⟨a, ns, rfl, sq.l, h _ H (LeH.refl H) rep rfl⟩
@[simp] def cList : RCD := fun ds S Q => match ds with
  | [.tup xs] => newO S (.lst xs) fun p S' => Q (.ref p) S'
  | [.rol xs] => newO S (.lst xs) fun p S' => Q (.ref p) S'
  | [.ref a] => (match S a with | some (.lst xs) => newO S (.lst xs) fun p S' => Q (.ref p) S' | _ => False)
  | _ => False
theorem cd_list : CallD X (.type "list") cList := by
  refine ⟨fun ds S Q Q' k h => ?_, fun pins s σ H vs us Q I rv ⟨ds, S, rep, rd, h⟩ => ?_⟩
  · match ds, h with
    | [.tup xs], h => exact fun p hp => k _ _ (h p hp)
    | [.rol xs], h => exact fun p hp => k _ _ (h p hp)
    | [.ref a], h =>
      revert h
      show (match S a with | some (.lst xs) => _ | _ => False) → (match S a with | some (.lst xs) => _ | _ => False)
      split
      · exact fun h p hp => k _ _ (h p hp)
      · exact fun h => h
  · match ds, h with
    | [.tup xs], h =>
      obtain ⟨v, rfl, r⟩ := rds1 rd
      obtain ⟨p, ys, rfl, sq, rs⟩ : ∃ p ys, v = V.ref p ∧ SqT X.K H p ys ∧ RDs X.K H xs ys := r
      exact call_list_of pins s σ H _ us Q I rv ⟨p, ys, rfl, .inr sq, fun l hl => rep_new (Q0 := fun _ _ => True) rep hl rs (h l (rep.free hl))⟩
    | [.rol xs], h =>
      obtain ⟨v, rfl, r⟩ := rds1 rd
      obtain ⟨p, ys, rfl, sq, rs⟩ : ∃ p ys, v = V.ref p ∧ SqR X.K H p ys ∧ RDs X.K H xs ys := r
      exact call_list_of pins s σ H _ us Q I rv ⟨p, ys, rfl, .inl sq.l, fun l hl => rep_new (Q0 := fun _ _ => True) rep hl rs (h l (rep.free hl))⟩
    | [.ref a], h =>
      obtain ⟨v, rfl, r⟩ := rds1 rd
      cases r
      revert h
      show (match S a with | some (.lst xs) => _ | _ => False) → _
      split
      · rename_i xs ea
        intro h
        obtain ⟨ys, e0, rs⟩ : ∃ ys, H a = some (.lst ys) ∧ RDs X.K H xs ys := rep a _ ea
        exact call_list_of pins s σ H _ us Q I rv ⟨a, ys, rfl, .inl (.of e0), fun l hl => rep_new (Q0 := fun _ _ => True) rep hl rs (h l (rep.free hl))⟩
      · exact fun h => h.elim
theorem CallD.sub {f : Value} {r r' : RCD} (h : CallD X f r) (m : MonoC r') (k : ∀ ds S Q, r' ds S Q → r ds S Q) : CallD X f r' :=
  ⟨m, fun pins s σ H vs us Q I rv ⟨ds, S, rep, rd, q⟩ => h.run pins s σ H vs us Q I rv ⟨ds, S, rep, rd, k _ _ _ q⟩⟩
@[simp] def cFz (r : RCD) : RCD := fun ds S Q => r ds S (fzK Q)
theorem cd_fz {f : Value} {r : RCD} (h : CallD X f r) : CallD X f (cFz r) := by
  refine ⟨fun ds S Q Q' k q => h.mono _ _ _ _ (fzK_mono k) q, fun pins s σ H vs us Q I rv ⟨ds, S, rep, rd, q⟩ => ?_⟩
  refine thn (h.run pins s σ H vs us (fun v H1 => ∃ d S1, LeH H H1 ∧ Rep X.w X.K S1 H1 ∧ RD X.K H1 d v ∧ fzK (fun d S' => ∀ v H', LeH H H' → Rep X.w X.K S' H' → RD X.K H' d v → Q v H') d S1) I rv ⟨ds, S, rep, rd, h.mono _ _ _ _ (fun z S' y v H' le rp rz => ⟨z, S', le, rp, rz, y⟩) q⟩) fun u s' ⟨v, H1, I1, ru, d, S1, le, rp, rd, z⟩ => ?_
  exact fzK_to I1 rp rd ru z fun d S' v H' le' rp' rd' y => y v H' (le.trans le') rp' rd'
@[simp] def cListF : RCD := fun ds S Q => match ds with
  | [.tup xs] => Q (.rol xs) S
  | [d] => opt (seqD S d) fun xs => Q (.rol xs) S
  | _ => False
theorem cd_listF : CallD X (.type "list") cListF := (cd_fz cd_list).sub (fun ds S Q Q' k h => by
    unfold cListF at h ⊢
    split at h
    · exact k _ _ h
    · exact opt_mono (fun _ q => k _ _ q) h
    · exact h) fun ds S Q h => by
    unfold cListF at h
    unfold cFz cList
    split at h
    · exact fun p hp => fzK_new hp h
    · rename_i d _
      obtain ⟨xs, e, q⟩ := opt_ex h
      clear h
      cases d with
      | rol ys => cases e; exact fun p hp => fzK_new hp q
      | ref a =>
        simp only [seqD_ref] at e
        split at e
        · rename_i ys ea
          cases e
          simp only [ea]
          exact fun p hp => fzK_new hp q
        · cases e
      | _ => simp at e
    · exact h.elim
@[simp] def cTuple : RCD := fun ds S Q => match ds with
  | [.tup xs] => Q (.tup xs) S
  | [.rol xs] => Q (.tup xs) S
  | [.ref a] => (match S a with | some (.lst xs) => Q (.tup xs) S | _ => False)
  | _ => False
theorem cd_tuple : CallD X (.type "tuple") cTuple := by
  refine ⟨fun ds S Q Q' k h => ?_, fun pins s σ H vs us Q I rv ⟨ds, S, rep, rd, h⟩ => ?_⟩
  · match ds, h with
    | [.tup xs], h => exact k _ _ h
    | [.rol xs], h => exact k _ _ h
    | [.ref a], h =>
      revert h
      show (match S a with | some (.lst xs) => _ | _ => False) → (match S a with | some (.lst xs) => _ | _ => False)
      split
      · exact k _ _
      · exact fun h => h
  · match ds, h with
    | [.tup xs], h =>
      obtain ⟨v, rfl, r⟩ := rds1 rd
      obtain ⟨p, ys, rfl, sq, rs⟩ : ∃ p ys, v = V.ref p ∧ SqT X.K H p ys ∧ RDs X.K H xs ys := r
      exact call_tuple_of pins s σ H _ us Q I rv ⟨p, ys, rfl, .inr ⟨sq, h _ H (LeH.refl H) rep ⟨p, ys, rfl, sq, rs⟩⟩⟩
    | [.rol xs], h =>
      obtain ⟨v, rfl, r⟩ := rds1 rd
      obtain ⟨p, ys, rfl, sq, rs⟩ : ∃ p ys, v = V.ref p ∧ SqR X.K H p ys ∧ RDs X.K H xs ys := r
      exact call_tuple_of pins s σ H _ us Q I rv ⟨p, ys, rfl, .inl ⟨sq.l, fun l hl => rep_tup rep hl rs h⟩⟩
    | [.ref a], h =>
      obtain ⟨v, rfl, r⟩ := rds1 rd
      cases r
      revert h
      show (match S a with | some (.lst xs) => _ | _ => False) → _
      split
      · rename_i xs ea
        intro h
        obtain ⟨ys, e0, rs⟩ : ∃ ys, H a = some (.lst ys) ∧ RDs X.K H xs ys := rep a _ ea
        exact call_tuple_of pins s σ H _ us Q I rv ⟨a, ys, rfl, .inl ⟨.of e0, fun l hl => rep_tup rep hl rs h⟩⟩
      · exact fun h => h.elim
@[simp] def cInt : RCD := fun ds S Q => match ds with | [.int i] => Q (.int i) S | [.bl b] => Q (.int (if b then 1 else 0)) S | _ => False
theorem cd_int : CallD X (.type "int") cInt := by
  refine ⟨fun ds S Q Q' k h => ?_, fun pins s σ H vs us Q I rv ⟨ds, S, rep, rd, h⟩ => ?_⟩
  · match ds, h with
    | [.int i], h => exact k _ _ h
    | [.bl i], h => exact k _ _ h
  · match ds, h with
    | [.int i], h =>
      obtain ⟨v, rfl, r⟩ := rds1 rd
      cases r
      exact call_int1 pins s σ H _ us Q I rv (.inl ⟨i, rfl, h _ H (LeH.refl H) rep rfl⟩)
    | [.bl i], h =>
      obtain ⟨v, rfl, r⟩ := rds1 rd
      cases r
      exact call_int1 pins s σ H _ us Q I rv (.inr ⟨i, rfl, h _ H (LeH.refl H) rep rfl⟩)

/-! ### methods -/
abbrev RMD := D → List D → DH → DK → Prop
def MonoM (r : RMD) : Prop := ∀ d ds S (Q Q' : DK), (∀ d S', Q d S' → Q' d S') → r d ds S Q → r d ds S Q'
def upM (w : World) (K : PySem.W.Frag) (r : RMD) : V → List V → Hp → VK → Prop := fun x vs H Q => ∃ d ds S, Rep w K S H ∧ RD K H d x ∧ RDs K H ds vs ∧ r d ds S (lQ w K H Q)
structure MtD (X : Cx) (id : String) (r : RMD) : Prop where
  mono : MonoM r
  run : MtR X id (upM X.w X.K r)
@[simp] def tyD (T : String) (d : D) (S : DH) : Prop := match d with
  | .str _ => T = "str"
  | .rol _ => T = "list"
  | .ref a => (match S a with | some (.lst _) => T = "list" | some (.dK _) => T = "dict" | some (.dN _) => T = "dict" | _ => False)
  | _ => False
theorem tyD_is {pins : List (Addr × Obj)} {σ : L2.St} {s : Shared} {T : String} {d : D} {S : DH} {x : V} {v : Value} {H : Hp} (I : Inv X pins σ H s) (rep : Rep X.w X.K S H) (r : RD X.K H d x) (rv : RelV x v) (h : tyD T d S) :
    s.TypeIs v T ∧ ∀ a, v = .ref a → ∃ ob, s.heap.get? a = some ob ∧ ob.dict = none := by
  have via : tyV X.K T x H → s.TypeIs v T ∧ ∀ a, v = .ref a → ∃ ob, s.heap.get? a = some ob ∧ ob.dict = none := tyV_is I rv
  cases d with
  | str z => cases r; exact via h
  | rol ds =>
    obtain ⟨p, ys, rfl, sq, rs⟩ : ∃ p ys, x = V.ref p ∧ SqR X.K H p ys ∧ RDs X.K H ds ys := r
    exact via (.inl ⟨h, ys, sq.l⟩)
  | ref a =>
    cases r
    revert h
    show (match S a with | some (.lst _) => T = "list" | some (.dK _) => T = "dict" | some (.dN _) => T = "dict" | _ => False) → _
    split
    · rename_i xs ea
      obtain ⟨ys, e0, _⟩ : ∃ ys, H a = some (.lst ys) ∧ RDs X.K H xs ys := rep a _ ea
      exact fun h => via (.inl ⟨h, ys, .of e0⟩)
    · rename_i xs ea
      obtain ⟨ys, e0, _⟩ : ∃ ys, H a = some (.dK ys) ∧ RKs X.K H xs ys := rep a _ ea
      exact fun h => via (.inr (.inr (.inl ⟨h, .inl ⟨ys, e0⟩⟩)))
    · rename_i xs ea
      rintro rfl
      obtain ⟨xs, dd, _⟩ := dn_open I (rep a _ ea)
      cases (show v = .ref a from rv)
      refine ⟨dd.typeIs, fun b e => ?_⟩
      cases e
      obtain ⟨o, es, ep, ho, hx, _⟩ := dd
      exact ⟨o, ho, hx.2.1⟩
    · exact fun h => h.elim
  | _ => exact h.elim
@[simp] def dBM (T : String) (r : RMD) (to : DTE) (t : DTA) : DTE := fun E τ S Q => to E τ S fun d S1 => tyD T d S1 ∧ t E τ S1 fun ds S2 => r d ds S2 Q
variable {o e : Expr} {es : List Expr} {to te : DTE} {t : DTA} {name : Str} {apos cpos pos p : Pos} {T id : String} {r : RMD}
theorem de_bm0 (pa : PlainAttrs T) (slot : Slot T name id) (hty : typeOf (.builtin id) = pure (.type "method_descriptor")) (hm : MtD X id r) (ho : DE X o to)
    (hbase : attributeBase o name X.env (eval o X.env) = eval o X.env := by rfl) (hline : (apos.endLine == cpos.line) = true := by rfl) : DE X (.Call (.Attribute o name apos) [] [] cpos) (dBM T r to dNil) := by
  refine ⟨fun E E' τ S Q Q' he k q => ho.mono _ _ _ _ _ _ he (fun d S1 z => ⟨z.1, hm.mono _ _ _ _ _ k z.2⟩) q, ⟨fun pins s σ H Q I ⟨E, τ, S, w, rl, q⟩ => ?_⟩⟩
  refine wpAny_Call_method_late hbase (by rfl) hline rfl (thn (ho.run.run pins s σ H _ I (ho.to w rl q fun d S1 x H1 le1 w1 r1 rd z => (⟨d, S1, le1, r1, rd, z⟩ : ∃ d S1, LeH H H1 ∧ Rel X.w X.K τ S1 σ H1 ∧ RD X.K H1 d x ∧ tyD T d S1 ∧
    r d [] S1 fun d S' => ∀ v H', LeH H H' → Rep X.w X.K S' H' → RD X.K H' d v → Q v H'))) fun v s1 ⟨x, H1, I1, rx, d, S1, le1, r1, rd, ht, z⟩ => ?_)
  obtain ⟨h1, h2⟩ := tyD_is I1 r1.rep rd rx ht
  exact ⟨T, id, pa, slot, hty, h1, h2, Calls.callWith_builtin rfl (PySem.evalArgs_none (hm.run pins s1 σ H1 x [] v [] Q I1 rx .nil ⟨d, [], S1, r1.rep, rd, .nil, hm.mono _ _ _ _ _ (fun z S' y v H' le rp rz => y v H' (le1.trans le) rp rz) z⟩))⟩
theorem de_bm (pa : PlainAttrs T) (slot : Slot T name id) (hty : typeOf (.builtin id) = pure (.type "method_descriptor")) (hm : MtD X id r) (ho : DE X o to) (ha : DA X (e :: es) t)
    (hbase : attributeBase o name X.env (eval o X.env) = eval o X.env := by rfl)
    (hfew : ((backTo cpos (starEach (e :: es) X.env)).all (fun x => !x.1) && (backToKw cpos (keywordEach [] X.env)).all (fun x => x.1.isSome) && decide ((e :: es).length + ([] : List Keyword).length + (if ([] : List Keyword).isEmpty then 0 else 1) < 30)) = true := by rfl)
    (hline : (apos.endLine == cpos.line) = true := by rfl) (hs : starEach (e :: es) X.env = (false, eval e X.env) :: starEach es X.env := by rfl) (hplain : (backTo cpos (starEach es X.env)).any (·.1) = false := by rfl) :
    DE X (.Call (.Attribute o name apos) (e :: es) [] cpos) (dBM T r to t) := by
  refine ⟨fun E E' τ S Q Q' he k q => ho.mono _ _ _ _ _ _ he (fun d S1 z => ⟨z.1, ha.mono _ _ _ _ _ _ he (fun ds S2 z => hm.mono _ _ _ _ _ k z) z.2⟩) q, ⟨fun pins s σ H Q I ⟨E, τ, S, w, rl, q⟩ => ?_⟩⟩
  refine wpAny_Call_method_late hbase hfew hline rfl (thn (ho.run.run pins s σ H _ I (ho.to w rl q fun d S1 x H1 le1 w1 r1 rd z => (⟨d, S1, le1, w1, r1, rd, z⟩ : ∃ d S1, LeH H H1 ∧ Wish X E H1 ∧ Rel X.w X.K τ S1 σ H1 ∧ RD X.K H1 d x ∧ tyD T d S1 ∧
    t E τ S1 fun ds S2 => r d ds S2 fun d S' => ∀ v H', LeH H H' → Rep X.w X.K S' H' → RD X.K H' d v → Q v H'))) fun v s1 ⟨x, H1, I1, rx, d, S1, le1, w1, r1, rd, ht, z⟩ => ?_)
  obtain ⟨h1, h2⟩ := tyD_is I1 r1.rep rd rx ht
  refine ⟨T, id, pa, slot, hty, h1, h2, ?_⟩
  have hA := ha.run.run cpos pins s1 σ H1 _ I1 (ha.to w1 r1 z fun ds S2 vs H2 le2 w2 r2 rds z => (⟨ds, S2, le2, r2, rds, z⟩ : ∃ ds S2, LeH H1 H2 ∧ Rel X.w X.K τ S2 σ H2 ∧ RDs X.K H2 ds vs ∧
    r d ds S2 fun d S' => ∀ v H', LeH H H' → Rep X.w X.K S' H' → RD X.K H' d v → Q v H'))
  rw [hs] at hA ⊢
  refine Calls.callWith_builtin (by show (false || (backTo cpos (starEach es X.env)).any (·.1)) = false; rw [hplain] <;> rfl) (Calls.evalArgs_plain ?_)
  exact thn hA fun us s2 ⟨vs, H2, I2, rv2, ds, S2, le2, r2, rds, z⟩ => hm.run pins s2 σ H2 x vs v us Q I2 rx rv2 ⟨d, ds, S2, r2.rep, rd.le le2, rds, hm.mono _ _ _ _ _ (fun z S' y v H' le rp rz => y v H' (le1.trans (le2.trans le)) rp rz) z⟩
/-- a method that changes the list at a -/
@[simp] def mLst (ds : List D) (d : D) (S : DH) (Q : List D → (List D → DH) → Prop) : Prop := match d with | .ref a => (match S a with | some (.lst xs) => Q xs fun ys => upo S a (.lst ys) | _ => False) | _ => False
@[simp] def mAppend : RMD := fun d ds S Q => mLst ds d S fun xs up => match ds with | [y] => xs.length < sizeLine ∧ Q .non (up (xs ++ [y])) | _ => False
theorem mLst_mono {ds : List D} {d : D} {S : DH} {Q Q' : List D → (List D → DH) → Prop} (k : ∀ a xs, d = .ref a → S a = some (.lst xs) → Q xs (fun ys => upo S a (.lst ys)) → Q' xs (fun ys => upo S a (.lst ys))) (h : mLst ds d S Q) : mLst ds d S Q' := by
  cases d with
  | ref a =>
    revert h
    show (match S a with | some (.lst xs) => _ | _ => False) → (match S a with | some (.lst xs) => _ | _ => False)
    split
    · rename_i xs ea
      exact k a xs rfl ea
    · exact fun h => h
  | _ => exact h
theorem mLst_ex {ds : List D} {d : D} {S : DH} {Q : List D → (List D → DH) → Prop} (h : mLst ds d S Q) : ∃ a xs, d = .ref a ∧ S a = some (.lst xs) ∧ Q xs fun ys => upo S a (.lst ys) := by
  cases d with
  | ref a =>
    revert h
    show (match S a with | some (.lst xs) => _ | _ => False) → _
    split
    · rename_i xs ea
      exact fun h => ⟨a, xs, rfl, ea, h⟩
    · exact fun h => h.elim
  | _ => exact h.elim
theorem md_append : MtD X "list.append" mAppend := by
  refine ⟨fun d ds S Q Q' k h => mLst_mono (fun a xs e1 e2 z => ?_) h, fun pins s σ H x vs v us Q I rx rv ⟨d, ds, S, rep, rd, rds, h⟩ => ?_⟩
  · match ds, z with | [y], z => exact ⟨z.1, k _ _ z.2⟩
  · obtain ⟨a, xs, rfl, ea, z⟩ := mLst_ex h
    match ds, z with
    | [y], z =>
      cases rd
      obtain ⟨u, rfl, ru⟩ := rds1 rds
      obtain ⟨ys, e0, rs⟩ : ∃ ys, H a = some (.lst ys) ∧ RDs X.K H xs ys := rep a _ ea
      have le : LeH H (upd H a (.lst (ys ++ [u]))) := LeH.put e0 trivial
      exact mt_append pins s σ H _ _ v us Q I rx rv ⟨a, ys, u, rfl, rfl, e0, by rw [← rs.length]; exact z.1, z.2 _ _ le (rep.put e0 trivial (o := .lst (xs ++ [y])) ⟨_, upd_same, (rs.snoc ru).le le⟩) rfl⟩
@[simp] def mExtend : RMD := fun d ds S Q => mLst ds d S fun xs up => match ds with | [e] => opt (seqD S e) fun zs => xs.length + zs.length ≤ sizeLine ∧ Q .non (up (xs ++ zs)) | _ => False
def rExtendX (K : PySem.W.Frag) : V → List V → Hp → VK → Prop := fun x vs H Q => ∃ l b xs zs, x = .ref l ∧ vs = [.ref b] ∧ H l = some (.lst xs) ∧ SqX K H b zs ∧ xs.length + zs.length ≤ sizeLine ∧ Q .non (upd H l (.lst (xs ++ zs)))
theorem mt_extendX : MtM X "list.extend" (rExtendX X.K) := by
  intro pins s σ H x vs v us Q I rx rv h
  obtain ⟨l, b, xs, zs, rfl, rfl, hH, hB, hz, q⟩ := h
  cases rx
  obtain ⟨u, rfl, ru⟩ := rv.one
  cases ru
  obtain ⟨z, its, n, r, hl, e⟩ := I.lstM hH
  obtain ⟨its2, n2, r2, z2, hl2, e2⟩ := sqX_get I hB
  have hsz : its.toArray.size + its2.toArray.size ≤ sizeLine := by rw [List.size_toArray, List.size_toArray]; omega
  have hlong : ¬ (!its.toArray.isEmpty && Builtin.List.listTooLong (its.toArray.size + its2.toArray.size)) = true := by
    rw [notLongL hsz, Bool.and_false]
    exact Bool.false_ne_true
  refine call_meets F.slot_list_extend ⟨_, e, rfl⟩ F.entry_list_extend (F.args_list_extend_2 _ _)
    (AutoSeq1.list_extend_list_list_0 l its.toArray n b its2.toArray n2 hlong (by rw [List.size_toArray]; omega) (by omega)) ⟨e, e2, ?_⟩
  refine ⟨.non, _, I.lset (its' := its ++ its2) hH e (by simp) (r.append r2) ?_, rfl, q⟩
  rw [List.length_append]
  omega
theorem md_extend : MtD X "list.extend" mExtend := by
  refine ⟨fun d ds S Q Q' k h => mLst_mono (fun a xs e1 e2 z => ?_) h, fun pins s σ H x vs v us Q I rx rv ⟨d, ds, S, rep, rd, rds, h⟩ => ?_⟩
  · match ds, z with
    | [e], z => exact opt_mono (fun _ z => ⟨z.1, k _ _ z.2⟩) z
  · obtain ⟨a, xs, rfl, ea, z⟩ := mLst_ex h
    match ds, z with
    | [e], z =>
      cases rd
      obtain ⟨u, rfl, ru⟩ := rds1 rds
      obtain ⟨zs, eb, z⟩ := opt_ex z
      obtain ⟨b, ws, rfl, sb, rs1⟩ := seqD_rd rep ru eb
      obtain ⟨ys, e0, rs⟩ : ∃ ys, H a = some (.lst ys) ∧ RDs X.K H xs ys := rep a _ ea
      have le : LeH H (upd H a (.lst (ys ++ ws))) := LeH.put e0 trivial
      exact mt_extendX pins s σ H _ _ v us Q I rx rv ⟨a, b, ys, ws, rfl, rfl, e0, sb, by rw [← rs.length, ← rs1.length]; exact z.1, z.2 _ _ le (rep.put e0 trivial (o := .lst (xs ++ zs)) ⟨_, upd_same, (rs.append rs1).le le⟩) rfl⟩
@[simp] def mPop : RMD := fun d ds S Q => mLst ds d S fun xs up => match ds with | [] => opt xs[xs.length - 1]? fun y => Q y (up xs.dropLast) | _ => False
theorem md_pop : MtD X "list.pop" mPop := by
  refine ⟨fun d ds S Q Q' k h => mLst_mono (fun a xs e1 e2 z => ?_) h, fun pins s σ H x vs v us Q I rx rv ⟨d, ds, S, rep, rd, rds, h⟩ => ?_⟩
  · match ds, z with | [], z => exact opt_mono (fun _ z => k _ _ z) z
  · obtain ⟨a, xs, rfl, ea, z⟩ := mLst_ex h
    match ds, z with
    | [], z =>
      cases rd
      cases rds
      obtain ⟨y, ey, z⟩ := opt_ex z
      obtain ⟨ys, e0, rs⟩ : ∃ ys, H a = some (.lst ys) ∧ RDs X.K H xs ys := rep a _ ea
      obtain ⟨u, eu, ru⟩ := rs.get ey
      have le : LeH H (upd H a (.lst ys.dropLast)) := LeH.put e0 trivial
      exact mt_pop pins s σ H _ _ v us Q I rx rv ⟨a, ys, u, rfl, rfl, e0, by rw [← rs.length]; exact eu, z _ _ le (rep.put e0 trivial (o := .lst xs.dropLast) ⟨_, upd_same, rs.dropLast.le le⟩) (ru.le le)⟩
@[simp] def mReverse : RMD := fun d ds S Q => mLst ds d S fun xs up => match ds with | [] => Q .non (up xs.reverse) | _ => False
theorem md_reverse : MtD X "list.reverse" mReverse := by
  refine ⟨fun d ds S Q Q' k h => mLst_mono (fun a xs e1 e2 z => ?_) h, fun pins s σ H x vs v us Q I rx rv ⟨d, ds, S, rep, rd, rds, h⟩ => ?_⟩
  · match ds, z with | [], z => exact k _ _ z
  · obtain ⟨a, xs, rfl, ea, z⟩ := mLst_ex h
    match ds, z with
    | [], z =>
      cases rd
      cases rds
      obtain ⟨ys, e0, rs⟩ : ∃ ys, H a = some (.lst ys) ∧ RDs X.K H xs ys := rep a _ ea
      have le : LeH H (upd H a (.lst ys.reverse)) := LeH.put e0 trivial
      exact mt_reverse pins s σ H _ _ v us Q I rx rv ⟨a, ys, rfl, rfl, e0, z _ _ le (rep.put e0 trivial (o := .lst xs.reverse) ⟨_, upd_same, rs.reverse.le le⟩) rfl⟩
def mJoin : RMD := fun d ds S Q => ∃ (a : Str) (e : D) (ys : List Str), d = .str a ∧ ds = [e] ∧ (seqD S e = some (ys.map D.str) ∨ e = .tup (ys.map D.str)) ∧ (ys.map (·.length)).sum + ys.length * a.length ≤ 16777216 ∧ Q (.str (Txt.join a ys)) S
theorem md_join : MtD X "str.join" mJoin := by
  refine ⟨fun d ds S Q Q' k ⟨a, p, ys, e1, e2, h1, h2, h⟩ => ⟨a, p, ys, e1, e2, h1, h2, k _ _ h⟩, fun pins s σ H x vs v us Q I rx rv ⟨d, ds, S, rep, rd, rds, a, e, ys, e1, e2, h1, h2, h⟩ => ?_⟩
  subst e1 e2
  cases rd
  obtain ⟨u, rfl, ru⟩ := rds1 rds
  rcases h1 with h1 | rfl
  · obtain ⟨p, ws, rfl, sq, rs⟩ := seqD_rd rep ru h1
    rw [RDs.strs.mp rs] at sq
    exact mt_join pins s σ H _ _ v us Q I rx rv ⟨a, p, ys, rfl, rfl, .inl sq.l, h2, h _ H (LeH.refl H) rep rfl⟩
  · obtain ⟨p, ws, rfl, sq, rs⟩ : ∃ p ws, u = V.ref p ∧ SqT X.K H p ws ∧ RDs X.K H (ys.map D.str) ws := ru
    rw [RDs.strs.mp rs] at sq
    exact mt_join pins s σ H _ _ v us Q I rx rv ⟨a, p, ys, rfl, rfl, .inr sq, h2, h _ H (LeH.refl H) rep rfl⟩
@[simp] def mFind : RMD := fun d ds S Q => match d, ds with | .str a, [.str b] => Q (.int (Txt.find a b)) S | _, _ => False
theorem md_find : MtD X "str.find" mFind := by
  refine ⟨fun d ds S Q Q' k h => ?_, fun pins s σ H x vs v us Q I rx rv ⟨d, ds, S, rep, rd, rds, h⟩ => ?_⟩
  · match d, ds, h with | .str a, [.str b], h => exact k _ _ h
  · match d, ds, h with
    | .str a, [.str b], h =>
      cases rd
      obtain ⟨u, rfl, ru⟩ := rds1 rds
      cases ru
      exact mt_find pins s σ H _ _ v us Q I rx rv ⟨a, b, rfl, rfl, h _ H (LeH.refl H) rep rfl⟩
end

/-! ### what is walked -/
section
variable {X : Cx} {tg l : Expr} {tl : DTE} {ta : DTA} {p pos : Pos}
def iAny (K : PySem.W.Frag) (tl : TE) : TI := fun σ H R => tl σ H fun x H1 => (∃ a, x = .ref a ∧ (∃ xs, SqL K H1 a xs) ∧ R (Itl K a) H1) ∨ (∃ a, x = .ref a ∧ (∃ xs, SqT K H1 a xs) ∧ R (Itt K a) H1) ∨ ∃ z, x = .str z ∧ R (Its z) H1
theorem pi_any {tl : TE} (hl : PE X l tl) : PI X tg l (iAny X.K tl) := by
  refine ⟨fun pins s σ H R I h => thn (hl.run pins s σ H _ I h) fun v s1 ⟨x, H1, I1, r1, q1⟩ => ?_⟩
  rcases q1 with ⟨a, rfl, ⟨xs, hq⟩, q⟩ | ⟨a, rfl, ⟨xs, hq⟩, q⟩ | ⟨z, rfl, q⟩
  · cases r1
    obtain ⟨its, rv, pl, hz⟩ := I1.list hq
    exact PySem.wpAny_pyIter_list pl.isList (pi_one (tk := s1.toks) I1 _ (turn_list a _) ⟨_, Heap.get?_push_size _ rfl, rfl, rfl⟩ q)
  · cases r1
    obtain ⟨its, rv, pl, hz⟩ := I1.tuple hq
    exact PySem.wpAny_pyIter_tuple (show s1.heap.IsTuple a its.toArray from pl) (pi_one (tk := s1.toks) I1 _ (turn_tuple a _) ⟨_, Heap.get?_push_size _ rfl, rfl, rfl⟩ q)
  · obtain ⟨t, rfl⟩ := r1
    cases ha : z.cps.all (· < 128)
    · exact PySem.wpAny_pyIter_wide ha (pi_one (tk := s1.toks) I1 _ (turn_str _ z t "str_iterator" (.inr rfl)) ⟨_, Heap.get?_push_size _ rfl, rfl, rfl⟩ q)
    · exact PySem.wpAny_pyIter_ascii ha (pi_one (tk := s1.toks) I1 _ (turn_str _ z t "str_ascii_iterator" (.inl rfl)) ⟨_, Heap.get?_push_size _ rfl, rfl, rfl⟩ q)
def signD (c : Nat) : D := .str ⟨#[c]⟩
@[simp] def dSeqI (tl : DTE) : DTI := fun E τ S R => tl E τ S fun d S1 => match d with
  | .tup ds => R (fun _ => True) ds S1
  | .rol ds => R (fun _ => True) ds S1
  | .str z => R (fun _ => True) (z.cps.toList.map signD) S1
  | .ref a => (match S1 a with | some (.lst ds) => R (fun S => S a = some (.lst ds)) ds S1 | _ => False)
  | _ => False
theorem feeds_seqL {w : World} {K : PySem.W.Frag} {H0 : Hp} {a : Addr} {ds : List D} {G : DH → Prop} (h : ∀ S H, LeH H0 H → Rep w K S H → G S → ∃ xs, SqL K H a xs ∧ RDs K H ds xs) : Feeds w K H0 (Itl K a) G ds where
  go := fun i S H le rp g hi => by
    obtain ⟨xs, sq, rs⟩ := h S H le rp g
    exact ⟨xs, xs[i]'(by rw [← rs.length]; exact hi), sq, by simp⟩
  yld := fun i S H x H' le rp g hi ⟨e, y⟩ => by
    subst e
    obtain ⟨xs, sq, rs⟩ := h S _ le rp g
    obtain ⟨d, e, r⟩ := rs.got (y xs sq)
    exact ⟨LeH.refl _, rp, d, e, r⟩
  stop := fun S H le rp g => by
    obtain ⟨xs, sq, rs⟩ := h S H le rp g
    exact ⟨xs, sq, by rw [rs.length]; exact Nat.le_refl _⟩
theorem feeds_seqT {w : World} {K : PySem.W.Frag} {H0 : Hp} {a : Addr} {ds : List D} {G : DH → Prop} (h : ∀ S H, LeH H0 H → Rep w K S H → G S → ∃ xs, SqT K H a xs ∧ RDs K H ds xs) : Feeds w K H0 (Itt K a) G ds where
  go := fun i S H le rp g hi => by
    obtain ⟨xs, sq, rs⟩ := h S H le rp g
    exact ⟨xs, xs[i]'(by rw [← rs.length]; exact hi), sq, by simp⟩
  yld := fun i S H x H' le rp g hi ⟨e, y⟩ => by
    subst e
    obtain ⟨xs, sq, rs⟩ := h S _ le rp g
    obtain ⟨d, e, r⟩ := rs.got (y xs sq)
    exact ⟨LeH.refl _, rp, d, e, r⟩
  stop := fun S H le rp g => by
    obtain ⟨xs, sq, rs⟩ := h S H le rp g
    exact ⟨xs, sq, by rw [rs.length]; exact Nat.le_refl _⟩
theorem feeds_str {w : World} {K : PySem.W.Frag} {H0 : Hp} {z : Str} {G : DH → Prop} : Feeds w K H0 (Its z) G (z.cps.toList.map signD) where
  go := fun i S H le rp g hi => by
    show i < z.cps.size
    simpa using hi
  yld := fun i S H x H' le rp g hi ⟨e, c, ec, ex⟩ => by
    subst e ex
    refine ⟨LeH.refl _, rp, signD c, ?_, rfl⟩
    rw [List.getElem?_map, Array.getElem?_toList, ec]
    rfl
  stop := fun S H le rp g => by
    show z.cps.size ≤ (z.cps.toList.map signD).length
    simp
theorem di_seq (hl : DE X l tl) : DI X tg l (dSeqI tl) := by
  refine ⟨fun E E' τ S Q Q' he k q => hl.mono _ _ _ _ _ _ he (fun d S1 z => ?_) q, pI_imp (pi_any hl.run) fun σ H R ⟨E, τ, S, w, r, q⟩ => ?_⟩
  · cases d with
    | tup ds => exact k _ _ _ z
    | rol ds => exact k _ _ _ z
    | str ds => exact k _ _ _ z
    | ref a =>
      revert z
      show (match S1 a with | some (.lst ds) => _ | _ => False) → (match S1 a with | some (.lst ds) => _ | _ => False)
      split
      · exact k _ _ _
      · exact fun z => z
    | _ => exact z
  · refine hl.to w r q fun d S1 x H1 le w1 r1 rd z => ?_
    cases d with
    | tup ds =>
      obtain ⟨p, ys, rfl, sq, rs⟩ : ∃ p ys, x = V.ref p ∧ SqT X.K H1 p ys ∧ RDs X.K H1 ds ys := rd
      exact .inr (.inl ⟨p, rfl, ⟨ys, sq⟩, z _ H1 le r1.rep (feeds_seqT fun S H le rp g => ⟨ys, sqT_le le sq, rs.le le⟩)⟩)
    | rol ds =>
      obtain ⟨p, ys, rfl, sq, rs⟩ : ∃ p ys, x = V.ref p ∧ SqR X.K H1 p ys ∧ RDs X.K H1 ds ys := rd
      exact .inl ⟨p, rfl, ⟨ys, sq.l⟩, z _ H1 le r1.rep (feeds_seqL fun S H le rp g => ⟨ys, (sq.le le).l, rs.le le⟩)⟩
    | str y =>
      cases rd
      exact .inr (.inr ⟨y, rfl, z _ H1 le r1.rep feeds_str⟩)
    | ref a =>
      cases rd
      revert z
      show (match S1 a with | some (.lst ds) => _ | _ => False) → _
      split
      · rename_i ds ea
        intro z
        obtain ⟨ys, e0, rs⟩ : ∃ ys, H1 a = some (.lst ys) ∧ RDs X.K H1 ds ys := r1.rep a _ ea
        exact .inl ⟨a, rfl, ⟨ys, .of e0⟩, z _ H1 le r1.rep (feeds_seqL fun S H le rp g => by
          obtain ⟨zs, e1, rz⟩ : ∃ ys, H a = some (.lst ys) ∧ RDs X.K H ds ys := rp a _ g
          exact ⟨zs, .of e1, rz⟩)⟩
      · exact fun z => z.elim
    | _ => exact z.elim
theorem feeds_rng {w : World} {K : PySem.W.Frag} {H0 : Hp} {lo : Int} {n : Nat} {G : DH → Prop} : Feeds w K H0 (Itr lo n) G ((List.range n).map fun i : Nat => D.int (lo + (i : Nat))) where
  go := fun i S H le rp g hi => by
    show i < n
    simpa using hi
  yld := fun i S H x H' le rp g hi ⟨e, ex⟩ => by
    subst e ex
    refine ⟨LeH.refl _, rp, .int (lo + (i : Nat)), ?_, rfl⟩
    have hi' : i < n := by simpa using hi
    rw [List.getElem?_map, List.getElem?_range hi']
    rfl
  stop := fun S H le rp g => by
    show n ≤ ((List.range n).map fun i : Nat => D.int (lo + (i : Nat))).length
    simp
def rngD (lo : Int) (n : Nat) : List D := (List.range n).map fun i : Nat => D.int (lo + (i : Nat))
@[simp] def dRng1 (ta : DTA) : DTI := fun E τ S R => ta E τ S fun ds S1 => match ds with | [.int j] => (-(2 ^ 62) ≤ j ∧ j < 2 ^ 62) ∧ R (fun _ => True) (rngD 0 j.toNat) S1 | _ => False
@[simp] def dRng2 (ta : DTA) : DTI := fun E τ S R => ta E τ S fun ds S1 => match ds with | [.int i, .int j] => (-(2 ^ 62) ≤ i ∧ i < 2 ^ 62 ∧ -(2 ^ 62) ≤ j ∧ j < 2 ^ 62) ∧ R (fun _ => True) (rngD i (j - i).toNat) S1 | _ => False
theorem di_rng1 {a : Expr} (hg : Gl X "range") (hm : X.mg "range" = none) (ha : DA X [a] ta) (hs : starEach [a] X.env = [(false, eval a X.env)] := by rfl) : DI X tg (.Call (.Name "range" p) [a] [] pos) (dRng1 ta) := by
  refine ⟨fun E E' τ S Q Q' he k q => ha.mono _ _ _ _ _ _ he (fun ds S1 z => ?_) q, pI_imp (pi_range1 hg hm ha.run hs) fun σ H R ⟨E, τ, S, w, r, q⟩ => ?_⟩
  · match ds, z with | [.int j], z => exact ⟨z.1, k _ _ _ z.2⟩
  · refine ha.to w r q fun ds S1 vs H1 le w1 r1 rd z => ?_
    match ds, z with
    | [.int j], z =>
      obtain ⟨v, rfl, rv⟩ := rds1 rd
      cases rv
      exact ⟨j, rfl, z.1.1, z.1.2, z.2 _ H1 le r1.rep feeds_rng⟩
theorem di_rng2 {a b : Expr} (hg : Gl X "range") (hm : X.mg "range" = none) (ha : DA X [a, b] ta) (hs : starEach [a, b] X.env = [(false, eval a X.env), (false, eval b X.env)] := by rfl) (hs2 : starEach [b] X.env = [(false, eval b X.env)] := by rfl) : DI X tg (.Call (.Name "range" p) [a, b] [] pos) (dRng2 ta) := by
  refine ⟨fun E E' τ S Q Q' he k q => ha.mono _ _ _ _ _ _ he (fun ds S1 z => ?_) q, pI_imp (pi_range2 hg hm ha.run hs hs2) fun σ H R ⟨E, τ, S, w, r, q⟩ => ?_⟩
  · match ds, z with | [.int i, .int j], z => exact ⟨z.1, k _ _ _ z.2⟩
  · refine ha.to w r q fun ds S1 vs H1 le w1 r1 rd z => ?_
    match ds, z with
    | [.int i, .int j], z =>
      obtain ⟨v, u, rfl, rv, ru⟩ := rds2 rd
      cases rv; cases ru
      exact ⟨i, j, rfl, z.1, z.2 _ H1 le r1.rep feeds_rng⟩
end

/-! ### isinstance by a built-in class; names of the module; chains; * -/
section
variable {X : Cx} {e : Expr} {te : DTE} {p p2 pos : Pos} {T : String}
def tyName (d : D) (S : DH) : Option String := match d with
  | .non => some "NoneType" | .bl _ => some "bool" | .int _ => some "int" | .str _ => some "str" | .tup _ => some "tuple" | .rol _ => some "list"
  | .ref a => (match S a with | some (.lst _) => some "list" | some (.dK _) => some "dict" | _ => none)
section
variable (S : DH)
@[simp] theorem tyName_non : tyName .non S = some "NoneType" := rfl
@[simp] theorem tyName_bl (b : Bool) : tyName (.bl b) S = some "bool" := rfl
@[simp] theorem tyName_int (b : Int) : tyName (.int b) S = some "int" := rfl
@[simp] theorem tyName_str (b : Str) : tyName (.str b) S = some "str" := rfl
@[simp] theorem tyName_tup (b : List D) : tyName (.tup b) S = some "tuple" := rfl
@[simp] theorem tyName_rol (b : List D) : tyName (.rol b) S = some "list" := rfl
theorem tyName_ref (a : Addr) : tyName (.ref a) S = (match S a with | some (.lst _) => some "list" | some (.dK _) => some "dict" | _ => none) := rfl
theorem tyName_lst {a : Addr} {xs : List D} (h : S a = some (.lst xs)) : tyName (.ref a) S = some "list" := by rw [tyName_ref, h]
end
@[simp] def isiB (a b : String) : Bool := a == b || (a == "bool" && b == "int")
theorem tyName_x {w : World} {K : PySem.W.Frag} {d : D} {S : DH} {x : V} {H : Hp} {n : String} (rep : Rep w K S H) (r : RD K H d x) (h : tyName d S = some n) : TyX K H x (.type n) := by
  cases d with
  | non => cases r; cases h; exact .base .non
  | bl b => cases r; cases h; exact .base (.bl b)
  | int b => cases r; cases h; exact .base (.int b)
  | str b => cases r; cases h; exact .base (.str b)
  | tup ds =>
    cases h
    obtain ⟨p, ys, rfl, sq, rs⟩ : ∃ p ys, x = V.ref p ∧ SqT K H p ys ∧ RDs K H ds ys := r
    rcases sqT_split sq with e | ⟨o, e⟩ | ⟨o, its, m, e, c, _⟩
    · exact .base (.tup e)
    · exact .fTuple e
    · exact .kTuple e c
  | rol ds =>
    cases h
    obtain ⟨p, ys, rfl, sq, rs⟩ : ∃ p ys, x = V.ref p ∧ SqR K H p ys ∧ RDs K H ds ys := r
    rcases sq with ⟨o, e⟩ | ⟨its, m, e, _⟩
    · exact .base (.frz e)
    · exact .kList e rfl
  | ref a =>
    cases r
    revert h
    show (match S a with | some (.lst _) => some "list" | some (.dK _) => some "dict" | _ => none) = some n → _
    split
    · rename_i xs ea
      obtain ⟨ys, e0, _⟩ : ∃ ys, H a = some (.lst ys) ∧ RDs K H xs ys := rep a _ ea
      intro h
      cases h
      exact .base (.lst e0)
    · rename_i xs ea
      obtain ⟨ys, e0, _⟩ : ∃ ys, H a = some (.dK ys) ∧ RKs K H xs ys := rep a _ ea
      intro h
      cases h
      exact .base (.dK e0)
    · intro h
      cases h
theorem kit_tab : (["NoneType", "bool", "int", "str", "tuple", "list", "dict"].all fun a => ["bool", "int", "str", "tuple", "list", "dict"].all fun b => decide (kitB a b = some (isiB a b))) = true := by decide +kernel
theorem tyName_mem {d : D} {S : DH} {n : String} (h : tyName d S = some n) : n ∈ ["NoneType", "bool", "int", "str", "tuple", "list", "dict"] := by
  cases d with
  | ref a =>
    revert h
    show (match S a with | some (.lst _) => some "list" | some (.dK _) => some "dict" | _ => none) = some n → _
    split <;> intro h <;> cases h <;> decide
  | _ => cases h; decide
@[simp] def dIsi (T : String) (te : DTE) : DTE := fun E τ S Q => te E τ S fun d S1 => opt (tyName d S1) fun n => Q (.bl (isiB n T)) S1
theorem de_isi {x : Str} (hT : T ∈ ["bool", "int", "str", "tuple", "list", "dict"]) (h : DE X e te) (hg : Gl X "isinstance") (hm : X.mg "isinstance" = none) (hgT : Gl X x) (hmT : X.mg x = none) (hvT : bootBuiltins x = some (.type T))
    (hn : x ≠ "__name__" := by decide) (hdb : (x == ("__debug__" : Str)) = false := by decide)
    (he : starEach (e :: [.Name x p2]) X.env = (false, eval e X.env) :: starEach [.Name x p2] X.env := by rfl) (he2 : starEach (.Name x p2 :: []) X.env = (false, eval (.Name x p2) X.env) :: starEach [] X.env := by rfl) (hpl : (backTo pos (starEach [.Name x p2] X.env)).any (·.1) = false := by rfl) :
    DE X (.Call (.Name "isinstance" p) [e, .Name x p2] [] pos) (dIsi T te) := by
  refine ⟨fun E E' τ S Q Q' hE k q => h.mono _ _ _ _ _ _ hE (fun d S1 z => opt_mono (fun _ z => k _ _ z) z) q,
    pE_imp (pe_callB call_isi hg hm PyProof.Rows.boot_isinstance (pa_cons h.run (pa_cons (pe_bltn (v := .ty T) hgT hmT hvT rfl hn hdb) pa_nil he2) he) (by decide) (by decide) he hpl) fun σ H Q ⟨E, τ, S, w, r, q⟩ => ?_⟩
  refine h.to w r q fun d S1 x H1 le w1 r1 rd z => ?_
  obtain ⟨n, en, z⟩ := opt_ex z
  have hk : kitB n T = some (isiB n T) := of_decide_eq_true (List.all_eq_true.mp (List.all_eq_true.mp kit_tab n (tyName_mem en)) T hT)
  exact ⟨x, .ty T, .type n, .type T, isiB n T, rfl, .ty T, tyName_x r1.rep rd en, kit_ty hk, z _ H1 le r1.rep rfl⟩
theorem de_gstr {x z : Str} {t : Tok} (hg : Gl X x) (hm : X.mg x = some (.str z t)) (hdb : (x == ("__debug__" : Str)) = false := by decide) : DE X (.Name x pos) (dC (.str z)) := de_c (pe_glob (v := .str z) hg hm ⟨t, rfl⟩ hdb) fun _ => rfl
theorem de_gint {x : Str} {z : Int} {t : Tok} (hg : Gl X x) (hm : X.mg x = some (.int z t)) (hdb : (x == ("__debug__" : Str)) = false := by decide) : DE X (.Name x pos) (dC (.int z)) := de_c (pe_glob (v := .int z) hg hm ⟨t, rfl⟩ hdb) fun _ => rfl
/-- a < b < c -/
@[simp] def dChain (r r' : R2D) (ta tb tc : DTE) : DTE := fun E τ S Q => ta E τ S fun x S1 => tb E τ S1 fun y S2 => r x y S2 fun z S3 => match z with
  | .bl k => if k = true then tc E τ S3 fun u S4 => r' y u S4 Q else Q (.bl false) S3
  | _ => False
end
end Dt
set_option maxRecDepth 100000
set_option maxHeartbeats 4000000
/-! Dat7: *, chains. -/
namespace Dt
open PySem PySem.Spec L2

@[simp] def dMul : R2D := fun d e S Q => match d, e with
  | .int i, .int j => CMulW i j ∧ Q (.int (i * j)) S
  | .str x, .int n => MulOk x n ∧ Q (.str (Txt.mul x n)) S
  | .ref a, .int n => (match S a with | some (.lst xs) => (-(2 ^ 63) ≤ n ∧ n < 2 ^ 63 ∧ xs.length * n.toNat ≤ sizeLine) ∧ newO S (.lst (List.replicate n.toNat xs).flatten) fun p S' => Q (.ref p) S' | _ => False)
  | _, _ => False
theorem RDs.rep {K : PySem.W.Frag} {H : Hp} {ds : List D} {vs : List V} (r : RDs K H ds vs) : ∀ n : Nat, RDs K H (List.replicate n ds).flatten (List.replicate n vs).flatten
  | 0 => by simp [RDs]
  | n + 1 => by
    rw [List.replicate_succ, List.replicate_succ, List.flatten_cons, List.flatten_cons]
    exact r.append (RDs.rep r n)
section
variable {X : Cx}
theorem od_mul : OpD X (binaryOp .Mult) dMul := by
  refine ⟨fun x y S Q Q' k h => ?_, fun pins s σ H x y v u Q I rx ry ⟨d, e, S, rep, rd, re, h⟩ => ?_⟩
  · cases x <;> cases y <;> first | exact h.elim | exact ⟨h.1, k _ _ h.2⟩ | skip
    rename_i a n
    revert h
    show (match S a with | some (.lst xs) => _ | _ => False) → (match S a with | some (.lst xs) => _ | _ => False)
    split
    · exact fun h => ⟨h.1, fun p hp => k _ _ (h.2 p hp)⟩
    · exact fun h => h
  · cases d <;> cases e <;> first | exact h.elim | skip
    · cases rd; cases re
      exact op_mulW pins s σ H _ _ v u Q I rx ry ⟨_, _, rfl, rfl, h.1, h.2 _ H (LeH.refl H) rep rfl⟩
    · cases rd; cases re
      obtain ⟨t, rfl⟩ := rx
      obtain ⟨t2, rfl⟩ := ry
      exact PySem.SB.mul h.1 fun t' k => ⟨.str _, H, I.tok _, ⟨_, rfl⟩, h.2 _ H (LeH.refl H) rep rfl⟩
    · rename_i a n
      cases rd; cases re
      revert h
      show (match S a with | some (.lst xs) => _ | _ => False) → _
      split
      · rename_i xs ea
        intro h
        obtain ⟨ys, e0, rs⟩ : ∃ ys, H a = some (.lst ys) ∧ RDs X.K H xs ys := rep a _ ea
        exact op_rep pins s σ H _ _ v u Q I rx ry ⟨a, n, ys, rfl, rfl, e0, h.1.1, h.1.2.1, by rw [← rs.length]; exact h.1.2.2, fun p hp => rep_new (Q0 := fun _ _ => True) rep hp (rs.rep _) (h.2 p (rep.free hp))⟩
      · exact fun h => h.elim
variable {a b c : Expr} {ta tb tc : DTE} {r r' : R2D} {pos : Pos}
theorem dChain_mono (ha : DE X a ta) (hb : DE X b tb) (hc : DE X c tc) (m : Mono2 r) (m' : Mono2 r') (E E' : DW) (τ : DSt) (S : DH) (Q Q' : DK) (he : ∀ C fs τ S, E C fs τ S → E' C fs τ S) (k : ∀ d S', Q d S' → Q' d S') (q : dChain r r' ta tb tc E τ S Q) : dChain r r' ta tb tc E' τ S Q' :=
  ha.mono _ _ _ _ _ _ he (fun x S1 z => hb.mono _ _ _ _ _ _ he (fun y S2 z => m _ _ _ _ _ (fun d S3 z => by
    cases d with
    | bl kk =>
      cases kk with
      | true => exact hc.mono _ _ _ _ _ _ he (fun u S4 z => m' _ _ _ _ _ k z) z
      | false => exact k _ _ z
    | _ => exact z) z) z) q
theorem dChain_up (ha : DE X a ta) (hb : DE X b tb) (hc : DE X c tc) (m : Mono2 r) (m' : Mono2 r') {σ : L2.St} {H : Hp} {Q : VK} (h : upE X (dChain r r' ta tb tc) σ H Q) : tChain (upO X.w X.K r) (upO X.w X.K r') (upE X ta) (upE X tb) (upE X tc) σ H Q := by
  obtain ⟨E, τ, S, w, rl, q⟩ := h
  refine ha.to w rl q fun x S1 v H1 le1 w1 r1 rx q1 => hb.to w1 r1 q1 fun y S2 u H2 le2 w2 r2 ry q2 => ?_
  refine ⟨x, y, S2, r2.rep, rx.le le2, ry, m _ _ _ _ _ (fun d S3 z => fun v3 H3 le3 rp3 rd3 => ?_) q2⟩
  cases d with
  | bl kk =>
    refine ⟨kk, rd3, ?_⟩
    have r3 : Rel X.w X.K τ S3 σ H3 := r2.le le3 rp3
    cases kk with
    | false => exact z (.bl false) H3 (le1.trans (le2.trans le3)) rp3 rfl
    | true => exact hc.to (w2.le le3) r3 z fun e S4 v4 H4 le4 w4 r4 re q4 => ⟨y, e, S4, r4.rep, ry.le (le3.trans le4), re, m' _ _ _ _ _ (fun d S' y v H' le rp rd => y v H' (le1.trans (le2.trans (le3.trans (le4.trans le)))) rp rd) q4⟩
  | _ => exact z.elim
theorem de_chain {op op' : CmpOp} (ho : OpD X (compareOp op) r) (ho' : OpD X (compareOp op') r') (ha : DE X a ta) (hb : DE X b tb) (hc : DE X c tc) (hm : lastMarks [op, op'] [b, c] = false := by with_unfolding_all rfl) :
    DE X (.Compare a [op, op'] [b, c] pos) (dChain r r' ta tb tc) :=
  ⟨dChain_mono ha hb hc ho.mono ho'.mono, pE_imp (pe_chain ho.run ho'.run ha.run hb.run hc.run hm) fun _ _ _ h => dChain_up ha hb hc ho.mono ho'.mono h⟩
theorem dt_chain {op op' : CmpOp} (ho : OpD X (compareOp op) r) (ho' : OpD X (compareOp op') r') (ha : DE X a ta) (hb : DE X b tb) (hc : DE X c tc) (hm : lastMarks [op, op'] [b, c] = false := by with_unfolding_all rfl) :
    DT X (.Compare a [op, op'] [b, c] pos) (dTest (dChain r r' ta tb tc)) := by
  refine ⟨dTest_mono (de_chain ho ho' ha hb hc hm (pos := pos)), pT_imp (pt_chain ho.run ho'.run ha.run hb.run hc.run hm) fun σ H Q ⟨E, τ, S, w, rl, q⟩ => ?_⟩
  refine dChain_up ha hb hc ho.mono ho'.mono ⟨E, τ, S, w, rl, dChain_mono ha hb hc ho.mono ho'.mono _ _ _ _ _ _ (fun _ _ _ _ z => z) (fun d S' h v H' le rp rd => ?_) q⟩
  cases d with
  | bl b => exact ⟨b, rd, h H' le rp⟩
  | _ => exact h.elim
end
abbrev rSub : R2D := dII (fun _ _ => True) fun i j => .int (i - j)
abbrev rMod : R2D := dII (fun _ j => 0 < j) fun i j => .int (i % j)
abbrev rFdiv : R2D := dII CDivW fun i j => .int (i / j)
abbrev rPow : R2D := dII CPow fun i j => .int (i ^ j.toNat)
abbrev rLt : R2D := dII (fun _ _ => True) fun i j => .bl (decide (i < j))
abbrev rLe : R2D := dII (fun _ _ => True) fun i j => .bl (decide (i ≤ j))
abbrev rGt : R2D := dII (fun _ _ => True) fun i j => .bl (decide (j < i))
abbrev rGe : R2D := dII (fun _ _ => True) fun i j => .bl (decide (j ≤ i))
theorem hu_big {A : Around} {k : Nat} (hr : Room k A) : A.units + 120 < cLine := by
  have := hr.un
  omega
def SpMono (sp : DSp) : Prop := ∀ ds S (Q Q' : DK) (E E' : DXK), (∀ d S', Q d S' → Q' d S') → (∀ C fs S', E C fs S' → E' C fs S') → sp ds S Q E → sp ds S Q' E'
@[simp] def dNeg (te : DTE) : DTE := fun E τ S Q => te E τ S fun d S' => match d with | .int i => Q (.int (-i)) S' | _ => False
theorem de_neg {X : Cx} {e : Expr} {te : DTE} {pos : Pos} (h : DE X e te) : DE X (.UnaryOp .USub e pos) (dNeg te) := by
  refine ⟨fun E E' τ S Q Q' he k q => h.mono _ _ _ _ _ _ he (fun d S1 z => ?_) q, pE_imp (pe_un un_neg h.run) fun σ H Q ⟨E, τ, S, w, r, q⟩ => ?_⟩
  · cases d <;> first | exact z.elim | exact k _ _ z
  · refine h.to w r q fun d S' v H' le w' r' rd z => ?_
    cases d <;> first | exact z.elim | skip
    exact ⟨_, rd, z _ H' le r'.rep rfl⟩
end Dt
set_option maxRecDepth 100000
set_option maxHeartbeats 4000000
/-! Feed: the draws that each law has. -/
namespace Dt
open PySem PySem.Spec L2
theorem char_inj : ∀ (a b : List Char), a.map Char.toNat = b.map Char.toNat → a = b
  | [], [], _ => rfl
  | [], _ :: _, h => by simp at h
  | _ :: _, [], h => by simp at h
  | x :: a, y :: b, h => by
    simp only [List.map_cons, List.cons.injEq] at h
    rw [char_inj a b h.2]
    have : x = y := Char.ext (UInt32.toNat_inj.mp h.1)
    rw [this]
@[simp] theorem ofs_inj (a b : String) : (PySem.Str.ofString a = PySem.Str.ofString b) = (a = b) := by
  refine propext ⟨fun h => ?_, fun h => by rw [h]⟩
  rw [PySem.Str.ofString_eq_toList, PySem.Str.ofString_eq_toList] at h
  have h1 := congrArg (fun z : Str => z.cps.toList) h
  simp only at h1
  exact String.toList_inj.mp (char_inj _ _ (by simpa using h1))
theorem line3 : (3 : Nat) < sizeLine := by rw [sizeLine_eq]; decide
@[simp] theorem line_le (n : Nat) : (n ≤ sizeLine) = (n ≤ 16777216) := by rw [sizeLine_eq]
@[simp] theorem line_lt (n : Nat) : (n < sizeLine) = (n < 16777216) := by rw [sizeLine_eq]
def Bd (a : Nat) (i : Int) : Prop := i.natAbs < 2 ^ a
theorem Bd.mono {a b : Nat} {i : Int} (h : Bd a i) (l : a ≤ b) : Bd b i := Nat.lt_of_lt_of_le h (Nat.pow_le_pow_right (by decide) l)
theorem Bd.add {a : Nat} {i j : Int} (h : Bd a i) (k : Bd a j) : Bd (a + 1) (i + j) := by
  unfold Bd at *
  have := Int.natAbs_add_le i j
  rw [Nat.pow_succ]
  omega
theorem Bd.mul {a b : Nat} {i j : Int} (h : Bd a i) (k : Bd b j) : Bd (a + b) (i * j) := wide_lt h k
theorem Bd.mod {a : Nat} {i j : Int} (hj : 0 < j) (k : Bd a j) : Bd a (i % j) := by
  unfold Bd at *
  have h1 := Int.emod_nonneg i (show j ≠ 0 by omega)
  have h2 := Int.emod_lt_of_pos i hj
  omega
theorem Bd.cm {a b : Nat} {i j : Int} (h : Bd a i) (k : Bd b j) (ha : 0 < a := by decide) (hb : 0 < b := by decide) (l : a + b ≤ 1000000 := by decide) : CMulW i j := wide_mul h k ha hb l
theorem Bd.nat {a n : Nat} {i : Int} (h0 : 0 ≤ i) (h : i ≤ n) (hn : n < 2 ^ a) : Bd a i := by
  unfold Bd
  omega
def Ext (S S' : DH) : Prop := ∀ b o, S b = some o → S' b = some o
theorem Ext.refl (S : DH) : Ext S S := fun _ _ h => h
theorem Ext.trans {S S1 S2 : DH} (a : Ext S S1) (b : Ext S1 S2) : Ext S S2 := fun x o h => b x o (a x o h)
theorem Ext.new {S : DH} {p : Addr} {o : Ob} (h : S p = none) : Ext S (upo S p o) := fun b u e => by
  rw [upo_ne (fun z => by subst z; rw [h] at e; cases e)]
  exact e
theorem Ext.put {S S1 : DH} {p : Addr} {o : Ob} (e : Ext S S1) (h : S p = none) : Ext S (upo S1 p o) := fun b u z => by
  rw [upo_ne (fun y => by subst y; rw [h] at z; cases z)]
  exact e b u z
theorem Ext.free {S S' : DH} (e : Ext S S') {p : Addr} (h : S' p = none) : S p = none := by
  cases q : S p with
  | none => rfl
  | some o => rw [e p o q] at h; cases h
theorem ne_fresh {S : DH} {p q : Addr} {o : Ob} (h : S p = some o) (h' : S q = none) : p ≠ q := fun z => by
  subst z
  rw [h] at h'
  cases h'
/-- a feed after at most n draws -/
def FeedOb (n : Nat) (o : Ob) : Prop := ∃ l s d : Int, o = .dK [(.inr "left", .int l), (.inr "seed", .int s), (.inr "drawn", .int d)] ∧ 0 ≤ l ∧ 0 ≤ s ∧ s < 1000003 ∧ 0 ≤ d ∧ d ≤ n
theorem FeedOb.more {n m : Nat} {o : Ob} (h : FeedOb n o) (l : n ≤ m) : FeedOb m o := by
  obtain ⟨a, s, d, e, h1, h2, h3, h4, h5⟩ := h
  exact ⟨a, s, d, e, h1, h2, h3, h4, by omega⟩
def sp_l_next : DSp := fun ds S Q _ => ∃ (p : Addr) (m : Int) (n : Nat) (o : Ob), ds = [.ref p, .int m] ∧ 0 < m ∧ m < 2 ^ 100 ∧ S p = some o ∧ FeedOb n o ∧ n < 2 ^ 100 ∧
  ∀ v o', 0 ≤ v → v < m → FeedOb (n + 1) o' → Q (.int v) (upo S p o')
theorem sp_l_next_mono : SpMono sp_l_next := fun ds S Q Q' E E' k _ ⟨p, m, n, o, h1, h2, h3, h4, h5, h6, h⟩ => ⟨p, m, n, o, h1, h2, h3, h4, h5, h6, fun v o' a b c => k _ _ (h v o' a b c)⟩
def cellZ (ns : List Int) (k : Nat) : Int := if k < ns.length then ns.getD k 0 else (if 0 < ns.length then ns.getD (k % ns.length) 0 else 0) % 1000003 * 48271 + 7919 * k + 1
def sp_l_cell_at : DSp := fun ds S Q _ => ∃ (ns : List Int) (k : Nat), ds = [.rol (ns.map D.int), .int k] ∧ k < 2 ^ 100 ∧ Q (.int (cellZ ns k)) S
theorem sp_l_cell_at_mono : SpMono sp_l_cell_at := fun ds S Q Q' E E' k _ ⟨ns, j, h1, h2, h⟩ => ⟨ns, j, h1, h2, k _ _ h⟩
def sp_l_feed : DSp := fun ds S Q _ => ∃ c : Int, ds = [.int c] ∧ ∀ p o, S p = none → FeedOb 0 o → Q (.ref p) (upo S p o)
theorem sp_l_feed_mono : SpMono sp_l_feed := fun ds S Q Q' E E' k _ ⟨c, h1, h⟩ => ⟨c, h1, fun p o a b => k _ _ (h p o a b)⟩
end Dt
set_option maxRecDepth 100000
set_option maxHeartbeats 4000000
/-! Dat8: loops by invariants. -/
namespace Dt
open PySem PySem.Spec L2
theorem loop_go {g : DTG} {tb : DTS} {A : DEnds} {G : DH → Prop} (ds : List D) (I : Nat → DSt → DH → Prop) (hG : ∀ i τ S, i ≤ ds.length → I i τ S → G S)
    (hs : ∀ i d τ S (N : DSt → DH → Prop), ds[i]? = some d → I i τ S → (∀ τ' S', I (i + 1) τ' S' → N τ' S') → g d τ S fun τ1 S1 => tb { A with nx := N, ct := N, bk := A.nx } τ1 S1)
    (hd : ∀ τ S, I ds.length τ S → A.nx τ S) : ∀ (m i : Nat) (τ : DSt) (S : DH), i + m = ds.length → I i τ S → dLoop g tb A G (ds.drop i) τ S
  | 0, i, τ, S, e, h => by
    have e' : i = ds.length := by omega
    subst e'
    rw [List.drop_length]
    exact ⟨hG _ _ _ (Nat.le_refl _) h, hd _ _ h⟩
  | m + 1, i, τ, S, e, h => by
    have hi : i < ds.length := by omega
    have ed : ds[i]? = some ds[i] := List.getElem?_eq_getElem hi
    rw [drop_at ed]
    exact ⟨hG _ _ _ (by omega) h, hs i _ τ S _ ed h fun τ' S' h' => loop_go ds I hG hs hd m (i + 1) τ' S' (by omega) h'⟩
theorem loop_inv {g : DTG} {tb : DTS} {A : DEnds} {G : DH → Prop} {ds : List D} {τ : DSt} {S : DH} (I : Nat → DSt → DH → Prop) (h0 : I 0 τ S) (hG : ∀ i τ S, i ≤ ds.length → I i τ S → G S)
    (hs : ∀ i d τ S (N : DSt → DH → Prop), ds[i]? = some d → I i τ S → (∀ τ' S', I (i + 1) τ' S' → N τ' S') → g d τ S fun τ1 S1 => tb { A with nx := N, ct := N, bk := A.nx } τ1 S1)
    (hd : ∀ τ S, I ds.length τ S → A.nx τ S) : dLoop g tb A G ds τ S := by
  have := loop_go ds I hG hs hd ds.length 0 τ S (by omega) h0
  rwa [List.drop_zero] at this
/-- a comprehension's loop: I by the turn and the heap (the new list at p within) -/
theorem lc_go {g : DTG} {tt : DTT} {te : DTE} {E : DW} {τ : DSt} {G : DH → Prop} {p : Addr} {Q : DH → Prop} (ds : List D) (I : Nat → DH → Prop) (hG : ∀ i S, i ≤ ds.length → I i S → G S)
    (hs : ∀ i d S (N : DH → Prop), ds[i]? = some d → I i S → (∀ S', I (i + 1) S' → N S') → g d τ S fun τ1 S1 => tt E τ1 S1 fun b S2 => if b = true then te E τ1 S2 fun y S3 => (match S3 p with | some (.lst acc) => acc.length < sizeLine ∧ N (upo S3 p (.lst (acc ++ [y]))) | _ => False) else N S2)
    (hd : ∀ S, I ds.length S → Q S) : ∀ (m i : Nat) (S : DH), i + m = ds.length → I i S → dLcL g tt te E τ G p Q (ds.drop i) S
  | 0, i, S, e, h => by
    have e' : i = ds.length := by omega
    subst e'
    rw [List.drop_length]
    exact ⟨hG _ _ (Nat.le_refl _) h, hd _ h⟩
  | m + 1, i, S, e, h => by
    have hi : i < ds.length := by omega
    have ed : ds[i]? = some ds[i] := List.getElem?_eq_getElem hi
    rw [drop_at ed]
    exact ⟨hG _ _ (by omega) h, hs i _ S _ ed h fun S' h' => lc_go ds I hG hs hd m (i + 1) S' (by omega) h'⟩
theorem lc_inv {g : DTG} {tt : DTT} {te : DTE} {E : DW} {τ : DSt} {G : DH → Prop} {p : Addr} {Q : DH → Prop} {ds : List D} {S : DH} (I : Nat → DH → Prop) (h0 : I 0 S) (hG : ∀ i S, i ≤ ds.length → I i S → G S)
    (hs : ∀ i d S (N : DH → Prop), ds[i]? = some d → I i S → (∀ S', I (i + 1) S' → N S') → g d τ S fun τ1 S1 => tt E τ1 S1 fun b S2 => if b = true then te E τ1 S2 fun y S3 => (match S3 p with | some (.lst acc) => acc.length < sizeLine ∧ N (upo S3 p (.lst (acc ++ [y]))) | _ => False) else N S2)
    (hd : ∀ S, I ds.length S → Q S) : dLcL g tt te E τ G p Q ds S := by
  have := lc_go (g := g) (tt := tt) (te := te) (E := E) (τ := τ) (p := p) (Q := Q) ds I hG hs hd ds.length 0 S (by omega) h0
  rwa [List.drop_zero] at this
/-- the elements' making changes nothing: [f d for d in ds if c d] -/
theorem lc_pure {g : DTG} {tt : DTT} {te : DTE} {E : DW} {τ : DSt} {G : DH → Prop} {p : Addr} {Q : DH → Prop} {S : DH} (c : D → Bool) (f : D → D) : ∀ (ds acc : List D), (∀ acc, G (upo S p (.lst acc))) →
    (∀ d ∈ ds, ∀ acc (N M : DH → Prop), (c d = true → N (upo S p (.lst (acc ++ [f d])))) → (c d = false → M (upo S p (.lst acc))) → acc.length < sizeLine →
      g d τ (upo S p (.lst acc)) fun τ1 S1 => tt E τ1 S1 fun b S2 => if b = true then te E τ1 S2 fun y S3 => (match S3 p with | some (.lst acc) => acc.length < sizeLine ∧ N (upo S3 p (.lst (acc ++ [y]))) | _ => False) else M S2) →
    acc.length + ds.length < sizeLine → Q (upo S p (.lst (acc ++ (ds.filter c).map f))) → dLcL g tt te E τ G p Q ds (upo S p (.lst acc))
  | [], acc, hG, hs, hl, hq => ⟨hG acc, by simpa using hq⟩
  | d :: ds, acc, hG, hs, hl, hq => by
    refine ⟨hG acc, hs d (List.mem_cons_self ..) acc _ _ (fun hc => ?_) (fun hc => ?_) (by rw [List.length_cons] at hl; omega)⟩
    · refine lc_pure c f ds (acc ++ [f d]) hG (fun d' hd' => hs d' (List.mem_cons_of_mem _ hd')) (by simp at hl ⊢; omega) ?_
      rw [List.filter_cons, if_pos hc, List.map_cons] at hq
      rw [List.append_assoc]
      exact hq
    · refine lc_pure c f ds acc hG (fun d' hd' => hs d' (List.mem_cons_of_mem _ hd')) (by simp at hl ⊢; omega) ?_
      rw [List.filter_cons, if_neg (by rw [hc]; decide)] at hq
      exact hq
theorem upo_id {S : DH} {p : Addr} {o : Ob} (h : S p = some o) : upo S p o = S := by
  funext b
  unfold upo
  split
  · rename_i e
    rw [e, h]
  · rfl
theorem opt_at {α : Type} {xs : List α} {i : Int} {k : α → Prop} (h0 : 0 ≤ i) (h1 : i < xs.length) (h : ∀ d ∈ xs, k d) : opt (atI xs i) k := by
  obtain ⟨j, rfl⟩ := Int.eq_ofNat_of_zero_le h0
  have hj : j < xs.length := by omega
  rw [atI_nat (List.getElem?_eq_getElem hj)]
  exact h _ (List.getElem_mem hj)
/-- a new object, by what is known of it -/
theorem newO_of {S : DH} {o : Ob} {Q : Addr → DH → Prop} (h : ∀ p S1, S p = none → S1 p = some o → Ext S S1 → (∀ b, b ≠ p → S1 b = S b) → Q p S1) : newO S o Q := fun p hp => h p _ hp upo_same (Ext.new hp) fun b hb => upo_ne hb
theorem lc_map {g : DTG} {te : DTE} {E : DW} {τ : DSt} {G : DH → Prop} {p : Addr} {Q : DH → Prop} {S : DH} (f : D → D) (ds : List D) (h0 : S p = some (.lst [])) (hG : ∀ acc, G (upo S p (.lst acc)))
    (hs : ∀ d ∈ ds, ∀ acc (N : DH → Prop), N (upo S p (.lst (acc ++ [f d]))) → acc.length < 16777216 →
      g d τ (upo S p (.lst acc)) fun τ1 S1 => te E τ1 S1 fun y S3 => (match S3 p with | some (.lst acc) => acc.length < 16777216 ∧ N (upo S3 p (.lst (acc ++ [y]))) | _ => False))
    (hl : ds.length < sizeLine) (hq : Q (upo S p (.lst (ds.map f)))) : dLcL g dYes te E τ G p Q ds S := by
  have hf : ds.filter (fun _ => true) = ds := List.filter_eq_self.mpr fun _ _ => rfl
  rw [← upo_id h0]
  refine lc_pure (fun _ => true) f ds [] hG (fun d hd acc N M hN hM hl => ?_) (by simpa using hl) (by rw [hf]; exact hq)
  have := hs d hd acc N (hN rfl) (by rw [line_lt] at hl; exact hl)
  simpa only [dYes, if_true, line_lt] using this
theorem wh_go {c : DTT} {tb : DTS} {A : DEnds} (I : DSt → DH → Prop) (μ : DSt → DH → Nat)
    (hs : ∀ τ S (N : DSt → DH → Prop), I τ S → (∀ τ' S', I τ' S' → μ τ' S' < μ τ S → N τ' S') → c A.xe τ S fun b S' => if b = true then tb { A with nx := N, ct := N, bk := A.nx } τ S' else A.nx τ S') :
    ∀ (n : Nat) (τ : DSt) (S : DH), μ τ S < n → I τ S → dWh c tb A n τ S
  | 0, τ, S, h, _ => absurd h (Nat.not_lt_zero _)
  | n + 1, τ, S, h, hi => hs τ S _ hi fun τ' S' h' hl => wh_go I μ hs n τ' S' (by omega) h'
theorem while_inv {c : DTT} {tb : DTS} {A : DEnds} {τ : DSt} {S : DH} (I : DSt → DH → Prop) (μ : DSt → DH → Nat) (h0 : I τ S)
    (hs : ∀ τ S (N : DSt → DH → Prop), I τ S → (∀ τ' S', I τ' S' → μ τ' S' < μ τ S → N τ' S') → c A.xe τ S fun b S' => if b = true then tb { A with nx := N, ct := N, bk := A.nx } τ S' else A.nx τ S') : dWhile c tb A τ S :=
  ⟨_, wh_go I μ hs (μ τ S + 1) τ S (Nat.lt_succ_self _) h0⟩
/-! == of scalars -/
section
variable {S : DH} {Q : DK}
@[simp] theorem dEq_bl (n a b : Bool) : dEq n (.bl a) (.bl b) S Q = Q (.bl (if n then !(a == b) else a == b)) S := rfl
@[simp] theorem dEq_int (n : Bool) (a b : Int) : dEq n (.int a) (.int b) S Q = Q (.bl (if n then !(a == b) else a == b)) S := rfl
@[simp] theorem dEq_str (n : Bool) (a b : Str) : dEq n (.str a) (.str b) S Q = Q (.bl (if n then !(a == b) else a == b)) S := rfl
end
mutual
theorem Pd.ext {S S' : DH} (e : Ext S S') : ∀ (p : PyData) (d : D), Pd S d p → Pd S' d p
  | .none, _, h => by cases h; exact .non
  | .bool b, _, h => by cases h; exact .bl b
  | .int i, _, h => by cases h; exact .int i
  | .str x, _, h => by cases h; exact .str x
  | .tuple ps, _, h => by cases h with | tup hs => exact .tup (PdA.ext e ps _ hs)
  | .list ps, _, h => by
    cases h with
    | rol hs => exact .rol (PdA.ext e ps _ hs)
    | lst ea hs => exact .lst (e _ _ ea) (PdA.ext e ps _ hs)
  | .dict _, _, h => by cases h
theorem PdA.ext {S S' : DH} (e : Ext S S') : ∀ (ps : List PyData) (ds : List D), PdA S ds ps → PdA S' ds ps
  | [], _, h => by cases h; exact .nil
  | p :: ps, _, h => by cases h with | cons h1 h2 => exact .cons (Pd.ext e p _ h1) (PdA.ext e ps _ h2)
end
theorem tyName_ext {S S' : DH} (e : Ext S S') {d : D} {n : String} (h : tyName d S = some n) : tyName d S' = some n := by
  cases d with
  | ref a =>
    rw [tyName_ref] at h ⊢
    cases q : S a with
    | none => rw [q] at h; cases h
    | some o => rw [q] at h; rw [e a o q]; exact h
  | _ => exact h
/-- what repr takes -/
def Shows (S : DH) (d : D) (p : PyData) : Prop := Pd S d p ∧ p.showable = true ∧ p.depth ≤ 100 ∧ p.shown.length ≤ sizeLine
theorem Shows.ext {S S' : DH} {d : D} {p : PyData} (e : Ext S S') (h : Shows S d p) : Shows S' d p := ⟨h.1.ext e p d, h.2⟩
theorem cRepr_of {S : DH} {d : D} {p : PyData} {Q : DK} (h : Shows S d p) (q : Q (.str p.shown) S) : cRepr [d] S Q := ⟨p, h.1, h.2.1, h.2.2.1, h.2.2.2, q⟩
end Dt
set_option maxRecDepth 100000
set_option maxHeartbeats 4000000
/-! Dat9: the law's own head, from a def's promise over data. -/
namespace Dt
open PySem PySem.Spec L2 PySem.W PyProof.Rows
theorem rds_ints {K : PySem.W.Frag} {H : Hp} : ∀ ns : List Int, RDs K H (ns.map D.int) (ns.map V.int)
  | [] => .nil
  | i :: r => .cons rfl (rds_ints r)
section
variable {P : Program} {w : World} {K : PySem.W.Frag} {mg mb : Str → Option Value} {k : Nat} {fa a : Addr} {fd : FuncData} {x : Str} {sp : DSp} {s : Shared} {ns : List Int}
/-- what the ground of the law's call holds -/
structure Grd (K : PySem.W.Frag) (mg mb : Str → Option Value) (s : Shared) : Prop where
  kin : K.In s.heap
  glob : s.heap.Ns mainGlobals mg
  blt : s.heap.Ns builtinsNs mb
  bbs : ∀ x : Str, x ≠ "__name__" → mb x = bootBuiltins x
  lim : s.heap.NoLimit
  gens : s.gens = #[]
theorem head_run (G : Grd K mg mb s) (hr : Room k callerA) (F : ∀ base : Heap, K.In base → base.Ns mainGlobals mg → DFn P w K mg base k fa fd [x] sp) (hb : ∀ (s : Shared) (u : Value), BindsTo s fd ⟨[u], []⟩ [(x, u)])
    (hsp : ∀ S, sp [.rol (ns.map D.int)] S (fun d _ => d = .bl true) fun _ _ _ => False) {H : Hp} (hH : ∀ b u, H b = some u → K.lookup b = none ∧ (∃ o, u = .frz o (.lst (ns.map V.int))) ∧ ∃ o its n, s.heap.get? b = some o ∧ o.data = .seq its n) (hok : HOk P w H s.heap) (hS : SqR K H a (ns.map V.int)) :
    codeAny (model P w) callerA (.call (.ref fa) ⟨[.ref a], []⟩) (fun r s' => r = .ok (.ret (.bool true)) ∧ OldK s.heap s'.heap ∧ s'.os = s.os ∧ AllBare s'.gens) s := by
  have up : ∀ {b : Addr} {o : Obj}, s.heap.get? b = some o → (∀ its n, o.data ≠ .seq its n) → (hidT s.heap H).get? b = some o := fun {b o} e nd => hidT_get e (by
    cases q : H b with
    | none => rfl
    | some u =>
      obtain ⟨_, _, o', its, n, e', d'⟩ := hH b u q
      cases e.symm.trans e'
      exact absurd d' (nd its n))
  have upNs : ∀ {b : Addr} {m : Str → Option Value}, s.heap.Ns b m → (hidT s.heap H).Ns b m := fun {b m} ⟨o, es, ep, e, d, r⟩ => ⟨o, es, ep, up e (fun its n z => by cases d.symm.trans z), d, r⟩
  have kin : K.In (hidT s.heap H) := fun b o e => hidT_get (G.kin b o e) (by
    cases q : H b with
    | none => rfl
    | some u => cases (hH b u q).1.symm.trans e)
  obtain ⟨mc, c1, c2⟩ := G.lim
  have env : Env0 P w K mg (hidT s.heap H) callerA [] s H :=
    ⟨rfl, ⟨kin, upNs G.glob, ⟨mb, upNs G.blt, G.bbs⟩, ⟨mc, upNs c1, c2⟩⟩, fun _ _ e => of_hidT e, by rw [hidT_size]; exact Nat.le_refl _, trivial, fun _ z => (nomatch z), hok, .of_eq G.gens⟩
  refine codeAny_mono ((F _ kin (upNs G.glob)).run callerA [] s H ⟨[.ref a], []⟩ [.ref a] [.ref a] (fun v _ => v = .bl true) (fun _ _ _ => False) hr rfl env (hb s (.ref a)) (.cons rfl .nil)
    ⟨[.rol (ns.map D.int)], fun _ => none, (fun _ _ z => nomatch z), RDs.cons ⟨a, _, rfl, hS, rds_ints ns⟩ .nil, (F _ kin (upNs G.glob)).mono _ _ _ _ _ _ (fun d S' e v H' _ _ r => ?_) (fun _ _ _ z => z.elim) (hsp _)⟩) fun r s' h => ?_
  · subst e
    exact r
  · match r, h with
    | .error e, ⟨_, _, _, _, _, _, _, _, _, _, _, _, z⟩ => exact z.elim
    | .ok (.ret u), ⟨v, H', os, bare, un, hok', rv, e⟩ =>
      cases e
      cases (show u = Value.bool true from rv)
      refine ⟨rfl, OldK.of_keep fun b o e => ?_, os, bare⟩
      cases q : H b with
      | none => exact un.keep b o e q (fun z => nomatch z) (fun z => nomatch z)
      | some u =>
        obtain ⟨_, ⟨ob, rfl⟩, _⟩ := hH b u q
        have e1 := (hok b _ q).1
        have e2 := (hok' b _ (un.frzs b ob _ q)).1
        cases e.symm.trans e1
        exact e2
/-- the same for the script as it is handed in -/
theorem head_call {vs : List Value} (G : Grd K mg mb s) (hr : Room k callerA) (F : ∀ base : Heap, K.In base → base.Ns mainGlobals mg → DFn P w K mg base k fa fd [x] sp) (hb : ∀ (s : Shared) (u : Value), BindsTo s fd ⟨[u], []⟩ [(x, u)])
    (hsp : ∀ S, sp [.rol (ns.map D.int)] S (fun d _ => d = .bl true) fun _ _ _ => False) (ha : s.heap.get? a = some { cls := .type "list", data := .seq vs.toArray }) (hi : IntsAre vs ns) (hl : ns.length ≤ sizeLine) :
    codeAny (model P w) callerA (.call (.ref fa) ⟨[.ref a], []⟩) (fun r s' => r = .ok (.ret (.bool true)) ∧ OldK s.heap s'.heap ∧ s'.os = s.os ∧ AllBare s'.gens) s := by
  have rv := vals_ints hi
  cases hk : K.lookup a with
  | some o =>
    have e := G.kin a o hk
    cases ha.symm.trans e
    refine head_run (H := fun _ => none) G hr F hb hsp (fun _ _ z => nomatch z) (fun _ _ z => nomatch z) (.inr ⟨vs.toArray, _, hk, ?_, rv⟩)
    rw [List.size_toArray, hi.length]
    exact hl
  | none =>
    refine head_run (H := upd (fun _ => none) a (.frz { cls := .type "list", data := .seq vs.toArray } (.lst (ns.map V.int)))) G hr F hb hsp (fun b u z => ?_) (fun b u z => ?_) (.inl ⟨_, upd_same⟩)
    all_goals
      by_cases hba : b = a
      · subst hba
        rw [upd_same] at z
        cases z
        first
          | exact ⟨hk, ⟨_, rfl⟩, _, vs.toArray, _, ha, rfl⟩
          | exact ⟨ha, by rw [List.length_map]; exact hl, vs, _, rv, ha⟩
      · rw [upd_ne hba] at z
        cases z
end
/-- the goal that k_head leaves, from the promise of the law's def -/
theorem dwalk {l : OpenLaw} {n k : Nat} {q : Program} {loose : List Str} {XP : (Str → Option Value) → Heap → Prop} {YP : World → Heap → Prop} {d : DefRec} {K : Params → PySem.W.Frag} {sp : DSp} {x : Str} (hn : l.most = some n) (hn2 : n ≤ sizeLine) (hdf : d.params.defaults = []) (hr : Room k callerA) (hY : ∀ (w : World) (h : Heap), YP w h → (K w.params).In h)
    (F : ∀ (w : World) (mg : Str → Option Value) (fa : Addr) (h : Heap), (K w.params).In h → h.Ns mainGlobals mg → mg d.name = some (.ref fa) →
      ∃ fd : FuncData, (∀ (s : Shared) (u : Value), BindsTo s fd ⟨[u], []⟩ [(x, u)]) ∧ ∀ base : Heap, (K w.params).In base → base.Ns mainGlobals mg → DFn l.prog w (K w.params) mg base k fa fd [x] sp)
    (hsp : ∀ (ns : List Int) S, ns.length ≤ n → sp [.rol (ns.map D.int)] S (fun d _ => d = .bl true) fun _ _ _ => False) : WalkO q loose XP YP l.row.toRowW d [] (fun f vs => PySem.call f vs) := by
  refine Att.attach_call hn hdf fun w _ s₁ mg mb fa _ _ _ _ a vs ns G Y _ _ _ hmg hobj hints hlen hg => ?_
  have KX := hY w _ Y
  obtain ⟨fd, hb, hF⟩ := F w mg fa _ KX G.T.g hmg
  exact head_call (ns := ns) ⟨KX, G.T.g, G.T.b, G.T.builtins, G.T.nolimit, hg⟩ hr hF hb (fun S => hsp ns S hlen) hobj hints (Nat.le_trans hlen hn2)
end Dt
set_option maxRecDepth 100000
set_option maxHeartbeats 4000000
/-! DatS: set(list) of ints and texts. -/
namespace Dt
open PySem PySem.Spec PySem.W L2 PyProof.Rows
/-- a set's row stands for a key -/
def RowK (w : World) (e : Int × Value) (k : Key) : Prop := keyIs k e.2 = true ∧ e.1 = keyH w k
theorem key_scans {k : Key} {v : Value} (h : keyIs k v = true) : v.scannable = true := by
  rcases keyIs_shape h with ⟨i, t, rfl, rfl⟩ | ⟨x, t, rfl, rfl⟩ <;> rfl
/-- the set at a: its keys, each once, in some order of the table's rows; the table may be walked -/
def SetKs (w : World) (h : Heap) (a : Addr) (ks : List Key) : Prop :=
  ∃ (o : Obj) (es : Array (Int × Value)) (ep : Nat) (t : SetTable) (l : List (Int × Value)), h.get? a = some o ∧ o.ExactSet ∧ o.data = .set es ep t ∧ es.toList.Perm l ∧ EachIs (RowK w) l ks ∧ ks.Nodup ∧
    es.size < scanBound ∧ t.fits es.size = true ∧ Ris t.place.toList ∧ (w.params.followText "set-order" = true ∨ t.led = true)
section
variable {P : Program} {w : World} {A : Around} {E : Value → Shared → Prop} {s : Shared} {a : Addr} {ks : List Key}
theorem each_right {α β : Type} {R : α → β → Prop} : ∀ {l : List α} {ks : List β}, EachIs R l ks → ∀ e ∈ l, ∃ k ∈ ks, R e k
  | _, _, .nil, _, h => nomatch h
  | _, _, .cons x t, e, h => by
    rcases List.mem_cons.mp h with rfl | z
    · exact ⟨_, List.mem_cons_self .., x⟩
    · obtain ⟨k, hk, r⟩ := each_right t e z
      exact ⟨k, List.mem_cons_of_mem _ hk, r⟩
theorem each_left {α β : Type} {R : α → β → Prop} : ∀ {l : List α} {ks : List β}, EachIs R l ks → ∀ k ∈ ks, ∃ e ∈ l, R e k
  | _, _, .nil, _, h => nomatch h
  | _, _, .cons x t, k, h => by
    rcases List.mem_cons.mp h with rfl | z
    · exact ⟨_, List.mem_cons_self .., x⟩
    · obtain ⟨e, he, r⟩ := each_left t k z
      exact ⟨e, List.mem_cons_of_mem _ he, r⟩
theorem each_get {α β : Type} {R : α → β → Prop} : ∀ {l : List α} {ks : List β} {i : Nat} {v : α}, EachIs R l ks → l[i]? = some v → ∃ k, ks[i]? = some k ∧ R v k
  | _, _, _, _, .nil, h => by cases h
  | _, _, 0, _, .cons x _, h => by cases h; exact ⟨_, rfl, x⟩
  | _, _, i + 1, _, .cons _ t, h => each_get (i := i) t h
theorem each_snoc {α β : Type} {R : α → β → Prop} {x : α} {y : β} (h : R x y) : ∀ {l : List α} {ks : List β}, EachIs R l ks → EachIs R (l ++ [x]) (ks ++ [y])
  | _, _, .nil => .cons h .nil
  | _, _, .cons a t => .cons a (each_snoc h t)
theorem rows_elems {es : Array (Int × Value)} {l : List (Int × Value)} (p : es.toList.Perm l) (r : EachIs (RowK w) l ks) : ElemsOf (mixKind P w) es.toList := fun e he => by
  obtain ⟨k, _, h1, h2⟩ := each_right r e (p.mem_iff.mp he)
  exact ⟨⟨k, h1, h2⟩, key_scans h1⟩
theorem SetKs.len {h : Heap} (R : SetKs w h a ks) : ks.length < scanBound := by
  obtain ⟨o, es, ep, t, l, _, _, _, p, r, _, hb, _⟩ := R
  rw [← r.length, ← p.length_eq, Array.length_toList]
  exact hb
theorem SetKs.at {h h' : Heap} (R : SetKs w h a ks) (k : ∀ o, h.get? a = some o → h'.get? a = some o) : SetKs w h' a ks := by
  obtain ⟨o, es, ep, t, l, ho, r⟩ := R
  exact ⟨o, es, ep, t, l, k o ho, r⟩
/-- the rows laid down, and the table laid anew where it is too full -/
theorem ks_lay {g : Bool → Sem Unit} (hg : ∀ (b : Bool) (s₁ : Shared) (Q' : Unit → Shared → Prop), Q' () s₁ → wpAny (model P w) A (g b) Q' E s₁) {o : Obj} {es es1 : Array (Int × Value)} {ep : Nat} {t t2 : SetTable} {l : List (Int × Value)} {wasDummy : Bool} {R : Option Bool → Shared → Prop}
    (ho : s.heap.get? a = some o) (hex : o.ExactSet) (hd : o.data = .set es ep t) (p : es1.toList.Perm l) (r : EachIs (RowK w) l ks) (nd : ks.Nodup) (hb : es1.size < scanBound) (hf : t2.fits es1.size = true) (hr : Ris t2.place.toList) (hl : w.params.followText "set-order" = true ∨ t2.led = true)
    (hR : ∀ h', Heap.SameBut a s.heap h' → SetKs w h' a ks → R (some true) { s with heap := h' }) :
    wpAny (model P w) A (do
        storeSet a es1 t2
        if (!wasDummy && t2.tooFull) = true then do
            g (relayAll t2 es1 (SetTable.grown es1.size)).2.2
            storeSet a (relayAll t2 es1 (SetTable.grown es1.size)).1 (relayAll t2 es1 (SetTable.grown es1.size)).2.1
            pure (some true)
          else pure (some true)) R E s := by
  refine wpAny_bind (wpAny_storeSet_of ho hd ?_ (fits_of_scanBound hb))
  have ho1 := store_at (es' := es1) (t' := t2) ho hd
  have sb := Heap.SameBut.update s.heap a (Obj.putSet es1 t2)
  split
  · have q1 := relayAll_perm t2 es1 (SetTable.grown es1.size)
    have q2 := relayAll_fits t2 es1 (SetTable.grown es1.size)
    have q3 := relayAll_ris t2 es1 (SetTable.grown es1.size)
    have q4 := relayAll_led t2 es1 (SetTable.grown es1.size)
    generalize relayAll t2 es1 (SetTable.grown es1.size) = Z at q1 q2 q3 q4 ⊢
    obtain ⟨es2, t3, gave⟩ := Z
    dsimp only at q1 q2 q3 q4 ⊢
    have hb2 : es2.size < scanBound := by
      rw [← Array.length_toList, q1.length_eq, Array.length_toList]
      exact hb
    refine wpAny_bind (hg _ _ _ ?_)
    refine wpAny_bind (wpAny_storeSet_of ho1 rfl ?_ (fits_of_scanBound hb2))
    refine wpAny_pure (hR _ (sb.trans (Heap.SameBut.update _ a _)) ⟨_, es2, _, t3, l, store_at (es' := es2) (t' := t3) ho1 rfl, hex, rfl, q1.trans p, r, nd, hb2, q2, q3, ?_⟩)
    rcases hl with z | z
    · exact .inl z
    · exact .inr (q4.trans z)
  · exact wpAny_pure (hR _ sb ⟨_, es1, _, t2, l, ho1, hex, rfl, p, r, nd, hb, hf, hr, hl⟩)
/-- a key more, where it is not there -/
def addK (ks : List Key) (k : Key) : List Key := if (ks.any fun j => decide (j = k)) = true then ks else ks ++ [k]
theorem any_key {ks : List Key} {k : Key} : (ks.any fun j => decide (j = k)) = true ↔ k ∈ ks := by
  rw [List.any_eq_true]
  exact ⟨fun ⟨j, hj, e⟩ => of_decide_eq_true e ▸ hj, fun h => ⟨k, h, decide_eq_true rfl⟩⟩
theorem ks_add {k : Key} {v : Value} {Q : Bool → Shared → Prop} (hv : keyIs k v = true) (R : SetKs w s.heap a ks) (room : ks.length + 1 < scanBound) (hQ : ∀ b h', Heap.SameBut a s.heap h' → SetKs w h' a (addK ks k) → Q b { s with heap := h' }) :
    wpAny (model P w) A (setAddHashed a v (keyH w k)) Q E s := by
  obtain ⟨o, es, ep, t, l, ho, hex, hd, p, r, nd, hb, hf, hr, hl⟩ := R
  have hsc := key_scans hv
  have hel : ElemsOf (mixKind P w) es.toList := rows_elems p r
  unfold setAddHashed setAddHashedIn
  refine wpAny_holding (wpAny_bind (wpAny_setState_of ho hd hf ?_))
  dsimp only
  rw [byScan_of hsc hb hel]
  simp only [↓reduceIte]
  unfold setAddByScan
  refine wpAny_bind (wpAny_bind (wpAny_rule (wpAny_bind (wpAny_setScan_of (knd := mixKind P w) (k := k) hv ho hd hf hel ?_))))
  cases hfi : List.findIdx? (fun e => (mixKind P w).is k e.2) es.toList with
  | some j =>
    dsimp only
    obtain ⟨hj, pj, _⟩ := List.findIdx?_eq_some_iff_getElem.mp hfi
    obtain ⟨k2, hk2, r1, _⟩ := each_right r _ (p.mem_iff.mp (List.getElem_mem hj))
    have ek : k = k2 := (mixKind P w).inj _ _ _ pj r1
    have e : addK ks k = ks := if_pos (any_key.mpr (ek ▸ hk2))
    exact wpAny_pure (wpAny_pure (hQ false s.heap (Heap.SameBut.refl a s.heap) (by rw [e]; exact ⟨o, es, ep, t, l, ho, hex, hd, p, r, nd, hb, hf, hr, hl⟩)))
  | none =>
    dsimp only
    have hnk : k ∉ ks := fun z => by
      obtain ⟨e, he, q, _⟩ := each_left r k z
      have c := List.findIdx?_eq_none_iff.mp hfi e (p.mem_iff.mpr he)
      have q' : (mixKind P w).is k e.2 = true := q
      rw [q'] at c
      cases c
    have e : addK ks k = ks ++ [k] := if_neg fun z => hnk (any_key.mp z)
    rw [e] at hQ
    have hgw : ∀ (b : Bool) {s₁ : Shared} {Q' : Unit → Shared → Prop}, Q' () s₁ → wpAny (model P w) A (match b with | true => rule "set.scan.the-table-gave-way" | false => pure ()) Q' E s₁ := fun b s₁ Q' q => by
      cases b
      · exact wpAny_pure q
      · exact wpAny_rule q
    have q1 := layNew_perm t es (keyH w k) v
    have q2 := layNew_fits t es (keyH w k) v
    have q3 := layNew_ris t es (keyH w k) v hr
    have q4 := layNew_led t es (keyH w k) v
    generalize layNew t es (keyH w k) v = Z at q1 q2 q3 q4 ⊢
    obtain ⟨es1, t1, wasDummy, gave⟩ := Z
    dsimp only at q1 q2 q3 q4 ⊢
    rw [Array.toList_push] at q1
    have p1 : es1.toList.Perm (l ++ [(keyH w k, v)]) := q1.trans (p.append_right _)
    have r1 : EachIs (RowK w) (l ++ [(keyH w k, v)]) (ks ++ [k]) := each_snoc ⟨hv, rfl⟩ r
    have nd1 : (ks ++ [k]).Nodup := List.nodup_append.mpr ⟨nd, List.nodup_cons.mpr ⟨List.not_mem_nil, List.nodup_nil⟩, fun x hx y hy z => hnk (by rw [← List.mem_singleton.mp hy, ← z]; exact hx)⟩
    have hb1 : es1.size < scanBound := by
      rw [← Array.length_toList, p1.length_eq, r1.length, List.length_append]
      exact room
    have hled : w.params.followText "set-order" = true ∨ t1.led = true := hl.imp id fun z => q4.trans z
    refine wpAny_bind (hgw _ ?_)
    split
    · refine wpAny_bind ?_
      rw [hashByValue_scannable 8 hsc]
      refine wpAny_pure (ks_lay ?_ ho hex hd p1 r1 nd1 hb1 ?_ ?_ ?_ fun h' sb z => wpAny_pure (hQ true h' sb z))
      · exact fun b s₁ Q' q => hgw b q
      · first | exact q2 | (split <;> first | exact q2 | exact SetTable.fits_plain_off q2)
      · first | exact q3 | (split <;> exact q3)
      · first | exact hled | (split <;> exact hled)
    · refine wpAny_bind (wpAny_pure ?_)
      simp only [↓reduceIte]
      exact ks_lay (fun b s₁ Q' q => hgw b q) ho hex hd p1 r1 nd1 hb1 q2 q3 hled fun h' sb z => wpAny_pure (hQ true h' sb z)
/-- the keys, each at its first place -/
def firstK (ks : List Key) : List Key := ks.foldl addK []
theorem firstK_snoc (ks : List Key) (k : Key) : firstK (ks ++ [k]) = addK (firstK ks) k := by
  unfold firstK
  rw [List.foldl_append]
  rfl
theorem firstK_take {ks : List Key} {i : Nat} {k : Key} (h : ks[i]? = some k) : firstK (ks.take (i + 1)) = addK (firstK (ks.take i)) k := by
  rw [List.take_succ, h, ← firstK_snoc]
  rfl
theorem addK_len (ks : List Key) (k : Key) : (addK ks k).length ≤ ks.length + 1 := by
  unfold addK
  split
  · omega
  · simp
theorem foldK_len : ∀ (ks acc : List Key), (ks.foldl addK acc).length ≤ acc.length + ks.length
  | [], _ => Nat.le_refl _
  | k :: ks, acc => by
    have h1 := foldK_len ks (addK acc k)
    have h2 := addK_len acc k
    simp only [List.foldl_cons, List.length_cons]
    omega
theorem firstK_len (ks : List Key) : (firstK ks).length ≤ ks.length := by
  have := foldK_len ks []
  unfold firstK
  simpa using this
/-- the loop that fills a set -/
theorem ks_loop {I : Addr} {fp wr : List Addr} {G : Array GenState → Array GenState → Prop} {n : Nat} {Pv : Nat → Value → Prop} {St : Nat → Shared → Prop} {R : Result → Shared → Prop} {B : Addr} {all : List Key}
    (W : WalksS P w A.in1 I fp wr G n Pv St) (hB : B ∉ fp) (hn : n = all.length) (hv : ∀ i v, Pv i v → ∃ k, all[i]? = some k ∧ keyIs k v = true) (hb : n + 1 < scanBound)
    (hR : ∀ s' s0, Moved (B :: wr) G s0 s' → SetKs w s'.heap B (firstK all) → s0 = s → R (.ok (.ret .none)) s') :
    ∀ (m i : Nat) (s1 : Shared), n - i = m → i ≤ n → St i s1 → SetKs w s1.heap B (firstK (all.take i)) → (∀ s', Moved (B :: wr) G s1 s' → Moved (B :: wr) G s s') → codeAny (model P w) A (.builtin "set.update.loop" ⟨[.ref B, .ref I], []⟩) R s1 := by
  have hBw : B ∉ wr := fun h => hB (W.sub _ h)
  have more : ∀ b ∈ wr, b ∈ B :: wr := fun b hb => List.mem_cons_of_mem _ hb
  intro m
  induction m with
  | zero =>
    intro i s1 hm hi hst hS mv
    have hin : i = n := by omega
    subst hin
    (refine codeAny_builtin F.entry_set_update_loop ?_; rw [Around.under_plainId F.plain_set_update_loop _])
    refine (show wpAny _ A.in1 (pyNext (.ref I) >>= _) _ _ s1 from wpAny_bind (W.done s1 _ _ hst fun s' hm => wpAny_pure (hR s' s (mv s' (hm.mono more)) ?_ rfl)))
    rw [show all.take i = all from List.take_of_length_le (by omega)] at hS
    exact hS.at fun o e => hm.heap B o hBw e
  | succ m ih =>
    intro i s1 hm hi hst hS mv
    have hlt : i < n := by omega
    (refine codeAny_builtin F.entry_set_update_loop ?_; rw [Around.under_plainId F.plain_set_update_loop _])
    refine (show wpAny _ A.in1 (pyNext (.ref I) >>= _) _ _ s1 from wpAny_bind (W.item i s1 _ _ hlt hst fun v s' hP hst' hm => ?_))
    obtain ⟨k, hk, hkv⟩ := hv i v hP
    have hS' : SetKs w s'.heap B (firstK (all.take i)) := hS.at fun o e => hm.heap B o hBw e
    refine (show wpAny _ A.in1 (holding [v] (setAdd B v) >>= _) _ _ s' from wpAny_bind (wpAny_holding ?_))
    unfold setAdd
    refine wpAny_holding (wpAny_bind ((mixKind P w).pyHash (k := k) hkv ?_))
    have room : (firstK (all.take i)).length + 1 < scanBound := by
      have := firstK_len (all.take i)
      rw [List.length_take] at this
      omega
    refine ks_add (s := { s' with toks := s'.toks + 1 }) hkv hS' room fun b h' sb hS2 => ?_
    rw [← firstK_take hk] at hS2
    refine wpAny_pure ⟨plainId_quiet F.plain_set_update_loop _, ih (i + 1) _ (by omega) hlt (W.frame _ s' _ _ hst' (Nat.le_succ _) fun c hc o e => ?_) hS2 fun s'' hm'' => mv s'' (Moved.trans W.gtrans ((hm.mono more).then_heap (Nat.le_succ _) fun c o hc e => ?_) hm'')⟩
    · exact (sb.2 c (fun z : c = B => hB (by rw [← z]; exact hc))).trans e
    · exact (sb.2 c (fun z : c = B => hc (by rw [z]; exact List.mem_cons_self))).trans e
theorem ks_none {h : Heap} {a : Addr} (ho : h.get? a = some { cls := .type "set", dict := none, data := .set #[] 0 (.fresh 0 0 (!w.params.followText "set-order")) }) : SetKs w h a [] := by
  refine ⟨_, #[], 0, _, [], ho, ⟨rfl, rfl, rfl⟩, rfl, List.Perm.nil, .nil, List.nodup_nil, by decide, rfl, List.Pairwise.nil, ?_⟩
  cases e : w.params.followText "set-order"
  · exact .inr rfl
  · exact .inl rfl
abbrev newSet (w : World) : Obj := { cls := .type "set", dict := none, data := .set #[] 0 (.fresh 0 0 (!w.params.followText "set-order")) }
set_option maxHeartbeats 8000000 in
/-- set(xs): ints and texts -/
theorem call_ks {l : Addr} {items : Array Value} {all : List Key} {Q : Value → Shared → Prop} (hh : A.handled = none) (hl : s.heap.IsList l items) (hit : EachIs (fun v k => keyIs k v = true) items.toList all) (hb : all.length + 1 < scanBound)
    (h : ∀ (h' : Heap) (tk : Nat), SetKs w h' s.heap.objs.size (firstK all) → (∀ b o, b < s.heap.objs.size → s.heap.get? b = some o → h'.get? b = some o) → Q (.ref s.heap.objs.size) { s with heap := h', toks := tk }) :
    wpAny (model P w) A (call (.type "set") [.ref l]) Q E s := by
  have hn : items.size = all.length := by rw [← Array.length_toList, hit.length]
  obtain ⟨c, tl, hmro⟩ := F.called_set.mro
  have hmade := F.called_set.made; have hsub := F.called_set.sub
  refine wpAny_call (codeAny_of_tree (show wpAny _ _ (callAny (.type "set") _) _ _ _ from wpAny_pure ⟨Code.quiet_builtin _ (by decide +kernel), codeAny_builtin F.entry_type_call ?_⟩))
  rw [Around.under_plain (weight_type_call_type "set" [.ref l] []) rfl]
  have h1 := F.called_set.notType; have h2 := F.called_set.canCreate; have hct := F.typeCall_set_1 (.ref l)
  repeat (any_goals (first | assumption | wp_step))
  refine codeAny_mono (code_set_led1 (.ref l) (E := E) (Q₁ := fun obj s₁ => obj = .ref s.heap.objs.size ∧ s₁ = { s with heap := s.heap.push (newSet w) }) ⟨rfl, rfl⟩) fun r s₁ hr => ?_
  match r, hr with
  | .error e, hr => exact hr
  | .ok .next, hr => exact hr.elim
  | .ok .brk, hr => exact hr.elim
  | .ok .cont, hr => exact hr.elim
  | .ok (.ret obj), ⟨e1, e2⟩ =>
    subst e1; subst e2
    have hS : (s.heap.push (newSet w)).get? s.heap.objs.size = some (newSet w) := Heap.get?_push_size _ rfl
    have hT : Shared.TypeIs { s with heap := s.heap.push (newSet w) } (.ref s.heap.objs.size) "set" := ⟨_, hS, rfl⟩
    have hli := F.called_set.init.lookup; have hbi := F.called_set.init.bind (.ref s.heap.objs.size)
    repeat (any_goals (first | assumption | wp_step))
    refine codeAny_mono (codeAny_call_builtin (R := wants (fun r s₂ => r = .none ∧ ∃ h' tk, s₂ = { s with heap := h', toks := tk } ∧ SetKs w h' s.heap.objs.size (firstK all) ∧ ∀ b o, b < s.heap.objs.size → s.heap.get? b = some o → h'.get? b = some o) E) F.called_set.init.plain F.entry_set_init (check_set_init_1 hT ?_)) fun r₂ s₂ hr₂ => ?_
    · obtain ⟨⟨ocls, odict, odata, oslots⟩, hol, hcl, nl, hdl⟩ := hl
      simp only at hcl hdl
      subst hcl; subst hdl
      have hol' : (s.heap.push (newSet w)).get? l = some { cls := .type "list", dict := odict, data := .seq items nl, slots := oslots } := Heap.get?_push_of_some _ hol
      have hsls := F.sub_list_set; have hslf := F.sub_list_frozenset; have hne : (Value.type "list" == Value.type "dict") = false := by decide
      have hl1 : (s.heap.push (newSet w)).IsList l items := ⟨_, hol', rfl, nl, rfl⟩
      unfold Builtin.«set.__init__» noKeywords Builtin.Frozenset.updateFrom
      (generalize hPI : pyIter = PI; wp_walk; subst hPI)
      refine wpAny_pyIter_list hl1 (wpAny_bind (wpAny_runValue ?_))
      have hlS : l < s.heap.objs.size := Heap.lt_size hol
      have hh3 : A.in1.in1.in1.handled = none := by simp [hh]
      have hz : (s.heap.push (newSet w)).objs.size = s.heap.objs.size + 1 := Heap.size_push ..
      have hneI : l ≠ (s.heap.push (newSet w)).objs.size := fun z => absurd hlS (by rw [z, Heap.size_push]; exact Nat.not_lt_of_le (Nat.le_succ _))
      have hSf : s.heap.objs.size ∉ [(s.heap.push (newSet w)).objs.size, l] := by
        rw [Heap.size_push]
        simp only [List.mem_cons, List.not_mem_nil, or_false, not_or]
        exact ⟨fun z => absurd z (Nat.ne_of_lt (Nat.lt_succ_self _)), fun z => absurd hlS (by rw [← z]; exact Nat.lt_irrefl _)⟩
      have hval : ∀ (i : Nat) (v : Value), items[i]? = some v → ∃ k, all[i]? = some k ∧ keyIs k v = true := fun i v hv => by
        rw [← Array.getElem?_toList] at hv
        exact each_get hit hv
      refine ks_loop (B := s.heap.objs.size) (all := all) ((Walks.list hh3 _ l hneI items).toS) hSf hn hval (by omega) (fun s' s0 hm hS' e0 => ?_) (items.size - 0) 0 _ (by omega) (Nat.zero_le _) ⟨⟨_, Heap.get?_push_size _ rfl, rfl, rfl⟩, (hl1.push _)⟩ (ks_none (Heap.get?_push_of_some _ hS)) (fun _ z => z)
      subst e0
      obtain ⟨h', g', d', tk', os'⟩ := s'
      have eg : g' = s.gens := hm.gens
      have ed : d' = s.drawn := hm.drawn
      have eo : os' = s.os := hm.os
      subst eg; subst ed; subst eo
      refine (show wpAny _ _ _ _ _ _ from wpAny_pure (show wpAny _ _ (ret Value.none) _ _ _ from wpAny_pure ⟨rfl, h', tk', rfl, hS', fun b o hb e => ?_⟩))
      exact hm.heap b o (by rw [Heap.size_push]; simp only [List.mem_cons, List.not_mem_nil, or_false, not_or]; exact ⟨Nat.ne_of_lt hb, Nat.ne_of_lt (Nat.lt_succ_of_lt hb)⟩) (Heap.get?_push_of_some _ (Heap.get?_push_of_some _ e))
    · match r₂, hr₂ with
      | .error e, hr₂ => exact hr₂
      | .ok .next, hr₂ => exact hr₂.elim
      | .ok .brk, hr₂ => exact hr₂.elim
      | .ok .cont, hr₂ => exact hr₂.elim
      | .ok (.ret r), ⟨e1, h', tk, e2, hS', hk'⟩ =>
        subst e1; subst e2
        repeat (any_goals (first | assumption | wp_step))
        exact h _ _ hS' hk'
end
end Dt
set_option maxRecDepth 100000
set_option maxHeartbeats 4000000
/-! DatA: in, tuple * int, a tuple of the module. -/
namespace Dt
open PySem PySem.Spec L2
@[simp] def flD : D → Bool
  | .non => true
  | .bl _ => true
  | .int _ => true
  | .str _ => true
  | _ => false
@[simp] def eqF : D → D → Bool
  | .non, .non => true
  | .bl a, .bl b => a == b
  | .bl a, .int b => (if a then 1 else 0) == b
  | .int a, .bl b => a == (if b then 1 else 0)
  | .int a, .int b => a == b
  | .str a, .str b => a == b
  | _, _ => false
def inF (x : D) (ds : List D) : Bool := ds.any fun y => eqF y x
section
variable {w : World} {K : PySem.W.Frag} {H : Hp}
theorem flD_V {d : D} {v : V} (r : RD K H d v) (f : flD d = true) : flatV v = true := by
  cases d <;> first | (cases r; rfl) | cases f
theorem eqF_V {d e : D} {v u : V} (r : RD K H d v) (s : RD K H e u) (f : flD d = true) (g : flD e = true) : eqV v u = eqF d e := by
  cases d <;> first | (simp at f; done) | skip
  all_goals (cases e <;> first | (simp at g; done) | skip)
  all_goals (cases r; cases s; rfl)
theorem flDs_V : ∀ {ds : List D} {vs : List V}, RDs K H ds vs → ds.all flD = true → vs.all flatV = true
  | [], _, r, _ => by cases r; rfl
  | d :: ds, _, r, h => by
    obtain ⟨v, vs, rfl, r1, r2⟩ := r
    rw [List.all_cons, Bool.and_eq_true] at h
    rw [List.all_cons, flD_V r1 h.1, flDs_V r2 h.2]
    rfl
theorem inF_V {x : D} {v : V} (rx : RD K H x v) (fx : flD x = true) : ∀ {ds : List D} {vs : List V}, RDs K H ds vs → ds.all flD = true → inV v vs = inF x ds
  | [], _, r, _ => by cases r; rfl
  | d :: ds, _, r, h => by
    obtain ⟨w, vs, rfl, r1, r2⟩ := r
    rw [List.all_cons, Bool.and_eq_true] at h
    have e := inF_V rx fx r2 h.2
    unfold inV inF at e ⊢
    rw [List.any_cons, List.any_cons, eqF_V r1 rx h.1 fx, e]
end
@[simp] def dInF (neg : Bool) (d : D) (ds : List D) (S : DH) (Q : DK) : Prop := flD d = true ∧ ds.all flD = true ∧ Q (.bl (if neg then !inF d ds else inF d ds)) S
section
variable {X : Cx}
/-- tuple * int -/
@[simp] def dMulT : R2D := fun d e S Q => match d, e with
  | .tup xs, .int n => xs ≠ [] ∧ 2 ≤ n ∧ n ≤ 1000 ∧ xs.length ≤ 1000 ∧ Q (.tup (List.replicate n.toNat xs).flatten) S
  | _, _ => False
theorem od_mulT : OpD X (binaryOp .Mult) dMulT := by
  refine ⟨fun x y S Q Q' k h => ?_, fun pins s σ H x y v u Q I rx ry ⟨d, e, S, rep, rd, re, h⟩ => ?_⟩
  · cases x <;> cases y <;> first | exact h.elim | exact ⟨h.1, h.2.1, h.2.2.1, h.2.2.2.1, k _ _ h.2.2.2.2⟩
  · cases d <;> cases e <;> first | exact h.elim | skip
    rename_i xs n
    cases re
    obtain ⟨p, ys, rfl, sq, rs⟩ : ∃ p ys, x = V.ref p ∧ SqT X.K H p ys ∧ RDs X.K H xs ys := rd
    obtain ⟨h1, h2, h3, h4, h⟩ := h
    have hl := rs.length
    refine op_repT pins s σ H _ _ v u Q I rx ry ⟨p, n, ys, rfl, rfl, sq, fun z => h1 (by subst z; exact List.eq_nil_of_length_eq_zero hl), h2, h3, by rw [← hl]; exact h4, fun q hq => ?_⟩
    have le : LeH H (upd H q (.tup (List.replicate n.toNat ys).flatten)) := LeH.new hq
    exact h _ _ le (rep.garb hq) ⟨q, _, rfl, .inl (.of upd_same), (rs.rep n.toNat).le le⟩
/-- a tuple of the module's own -/
theorem de_gtup {x : Str} {a : Addr} {pos : Pos} {ds : List D} {its : Array Value} {n : Nat} {od : Option Addr} {sl : Array (Option Value)} (hg : Gl X x) (hm : X.mg x = some (.ref a)) (hk : X.K.lookup a = some ⟨.type "tuple", od, .seq its n, sl⟩) (hz : its.size ≤ sizeLine) (hd : ∃ vs : List V, Vals vs its.toList ∧ ∀ H, RDs X.K H ds vs)
    (hdb : (x == ("__debug__" : Str)) = false := by decide) : DE X (.Name x pos) (dC (.tup ds)) := by
  obtain ⟨vs, h1, h2⟩ := hd
  exact de_c (pe_glob (v := .ref a) hg hm rfl hdb) fun H => ⟨a, vs, rfl, .inr ⟨_, its, n, hk, rfl, rfl, hz, h1⟩, h2 H⟩
end
/-- a promise that nobody asks -/
abbrev spNo : DSp := fun _ _ _ _ => False
theorem DFn.never {P : Program} {w : World} {K : PySem.W.Frag} {mg : Str → Option Value} {base : Heap} {k : Nat} {f : Addr} {fd : FuncData} {ps : List Str} (_ : Nat) : DFn P w K mg base k f fd ps spNo :=
  ⟨fun _ _ _ _ _ _ _ _ h => h.elim, fun _ _ _ _ h => h.elim, fun _ _ _ _ _ _ _ _ _ _ _ _ _ _ ⟨_, _, _, _, h⟩ => h.elim⟩
@[simp] def prevSp (sp : Nat → DSp) : Nat → DSp
  | 0 => spNo
  | n + 1 => sp n
end Dt
set_option maxRecDepth 100000
set_option maxHeartbeats 4000000
/-! DatB: names, plain texts. -/
namespace Dt
open PySem PySem.Spec L2
abbrev LET : Str := "abcdefghijklmnopqrstuvwxyz"
def hit (d : D) : Bool := match d with | .str s => !(Builtin.Str.occurrences LET s 0 LET.length 1).isEmpty | _ => false
def isNm (d : D) : Bool := match d with | .str x => decide (1 ≤ x.length) && decide (x.length ≤ 8) && (x.cps.toList.map signD).all hit | _ => false
theorem isNm_no {d : D} {S : DH} {n : String} (h : tyName d S = some n) (hn : n ≠ "str") : isNm d = false := by
  cases d with
  | str x => simp at h; exact absurd h.symm hn
  | _ => rfl
theorem find_ge (s : Str) : decide ((0 : Int) ≤ Txt.find LET s) = hit (.str s) := by
  unfold Txt.find hit
  simp only
  cases Builtin.Str.occurrences LET s 0 LET.length 1 with
  | nil => rfl
  | cons i r => simp
theorem min_ge {ns : List Int} {m : Int} (hm : m ∈ ns) (hle : ∀ y, y ∈ ns → m ≤ y) : decide (0 ≤ m) = ns.all fun y => decide (0 ≤ y) := by
  rw [Bool.eq_iff_iff]
  simp only [decide_eq_true_eq, List.all_eq_true]
  exact ⟨fun h y hy => Int.le_trans h (hle y hy), fun h => h m hm⟩
def fnd (d : D) : Int := match d with | .str s => Txt.find LET s | _ => 0
/-- a text of few plain signs -/
def Pl (n : Nat) (x : Str) : Prop := x.length ≤ n ∧ ∀ c ∈ x.cps.toList, c < 128
theorem Pl.mono {n m : Nat} {x : Str} (h : Pl n x) (l : n ≤ m) : Pl m x := ⟨Nat.le_trans h.1 l, h.2⟩
theorem Pl.app {n m : Nat} {x y : Str} (h : Pl n x) (k : Pl m y) : Pl (n + m) (x ++ y) := by
  have e : (x ++ y).cps = x.cps ++ y.cps := rfl
  refine ⟨?_, fun c hc => ?_⟩
  · have h1 : x.cps.size ≤ n := h.1
    have h2 : y.cps.size ≤ m := k.1
    show (x ++ y).cps.size ≤ n + m
    rw [e, Array.size_append]
    omega
  · rw [e, Array.toList_append] at hc
    rcases List.mem_append.mp hc with z | z
    · exact h.2 c z
    · exact k.2 c z
theorem Pl.cut {n : Nat} {x : Str} (h : Pl n x) (lo hi : Option Int) : Pl n (cutS x lo hi) := by
  refine ⟨Nat.le_trans (cutS_length x lo hi) h.1, fun c hc => h.2 c ?_⟩
  have e : (cutS x lo hi).cps.toList = (x.cps.toList.drop (HT.sIx x.length 0 lo)).take (HT.sIx x.length x.length hi - HT.sIx x.length 0 lo) := rfl
  rw [e] at hc
  exact List.mem_of_mem_drop (List.mem_of_mem_take hc)
theorem cut1_len (x : Str) : (cutS x none (some 1)).length ≤ 1 := by
  have e : (cutS x none (some 1)).length = ((x.cps.toList.drop (HT.sIx x.length 0 none)).take (HT.sIx x.length x.length (some 1) - HT.sIx x.length 0 none)).length := by
    show (cutS x none (some 1)).cps.size = _
    rw [← Array.length_toList]
    rfl
  rw [e, List.length_take, HT.sIx_none, show (1 : Int) = ((1 : Nat) : Int) from rfl, HT.sIx_nat]
  omega
theorem fold_mem {c : Nat} {a : Array Nat} : ∀ (n : Nat) (b : Array Nat), c ∈ ((List.replicate n a).foldl (· ++ ·) b).toList → c ∈ b.toList ∨ c ∈ a.toList
  | 0, b, h => .inl h
  | n + 1, b, h => by
    rw [List.replicate_succ, List.foldl_cons] at h
    rcases fold_mem n _ h with z | z
    · rw [Array.toList_append] at z
      exact List.mem_append.mp z
    · exact .inr z
theorem fold_size {a : Array Nat} : ∀ (n : Nat) (b : Array Nat), ((List.replicate n a).foldl (· ++ ·) b).size = b.size + n * a.size
  | 0, b => by simp
  | n + 1, b => by
    rw [List.replicate_succ, List.foldl_cons, fold_size n, Array.size_append, Nat.succ_mul]
    omega
theorem mul_ok {x : Str} (h : x.length ≤ 1) {n : Nat} (hn : n ≤ 9) (h1 : 1 ≤ n) : MulOk x (n : Int) := by
  unfold MulOk
  refine ⟨?_, fun _ _ => ?_, fun _ _ => ?_⟩
  · rw [Bool.or_eq_false_iff]
    constructor <;> rw [decide_eq_false_iff_not] <;> omega
  · have : 1 ≤ ((2 : Int) ^ 63 - 1) / (n : Int) := (Int.le_ediv_iff_mul_le (by omega)).mpr (by omega)
    omega
  · have hz : x.length * n ≤ 9 := Nat.le_trans (Nat.mul_le_mul h hn) (by decide)
    have e : (n : Int).toNat = n := by omega
    rw [e]
    show decide (_ > sizeLine) = false
    rw [decide_eq_false_iff_not, sizeLine_eq]
    omega
theorem Pl.mul {x : Str} (h : Pl 1 x) {n : Nat} (hn : n ≤ 9) : Pl 9 (Txt.mul x (n : Int)) := by
  unfold Txt.mul
  split
  · exact ⟨by decide, fun c hc => by cases hc⟩
  · split
    · exact h.mono (by decide)
    · refine ⟨?_, fun c hc => ?_⟩
      · show ((List.replicate ((n : Int)).toNat x.cps).foldl (· ++ ·) #[]).size ≤ 9
        rw [fold_size]
        have h1 : x.cps.size ≤ 1 := h.1
        have e : (n : Int).toNat = n := by omega
        rw [e]
        have := Nat.mul_le_mul hn h1
        simpa using this
      · rcases fold_mem _ _ hc with z | z
        · cases z
        · exact h.2 c z
theorem Pl.lit (s : String) (n : Nat) (h : (decide ((Str.ofString s).length ≤ n) && (Str.ofString s).cps.toList.all fun c => decide (c < 128)) = true) : Pl n (Str.ofString s) := by
  rw [Bool.and_eq_true] at h
  exact ⟨of_decide_eq_true h.1, fun c hc => of_decide_eq_true (List.all_eq_true.mp h.2 c hc)⟩
/-- all but p stands -/
def ExtB (p : Addr) (S S' : DH) : Prop := ∀ b o, b ≠ p → S b = some o → S' b = some o
theorem Pl.join : ∀ ys : List Str, (∀ y ∈ ys, Pl 1 y) → Pl ys.length (Txt.join (.ofString "") ys) := fun ys h => by
  exact (show Txt.join (.ofString "") ys = Str.join (.ofString "") ys from PySem.StrLaws.glued_eq_join ..) ▸ go ys h
where
  go : ∀ ys : List Str, (∀ y ∈ ys, Pl 1 y) → Pl ys.length (Str.join (.ofString "") ys)
  | [], _ => ⟨by decide, fun c hc => by cases hc⟩
  | [x], h => h x (List.mem_cons_self ..)
  | x :: z :: r, h => by
    have e : Pl 0 (Str.ofString "") := Pl.lit "" 0 (by decide +kernel)
    have k := ((h x (List.mem_cons_self ..)).app e).app (go (z :: r) fun y hy => h y (List.mem_cons_of_mem _ hy))
    exact k.mono (by simp; omega)
theorem sum_le1 : ∀ ys : List Str, (∀ y ∈ ys, y.length ≤ 1) → (ys.map (·.length)).sum ≤ ys.length
  | [], _ => Nat.le_refl _
  | x :: r, h => by
    have := sum_le1 r fun y hy => h y (List.mem_cons_of_mem _ hy)
    have := h x (List.mem_cons_self ..)
    simp
    omega
theorem rng_at {i n : Nat} {d : D} (h : (rngD 0 n)[i]? = some d) (hn : n < 2 ^ 100) : ∃ k : Nat, k < 2 ^ 100 ∧ d = .int k := by
  obtain ⟨h1, h2⟩ := List.getElem?_eq_some_iff.mp h
  simp [rngD] at h1 h2
  exact ⟨i, by omega, h2.symm⟩
end Dt
set_option maxRecDepth 100000
set_option maxHeartbeats 4000000
/-! DatC: data within bounds. -/
namespace Dt
open PySem PySem.Spec L2
structure Wt (w dp : Nat) (p : PyData) : Prop where
  sh : p.showable = true
  dp : p.depth ≤ dp
  lf : p.leavesShort 13 = true
  cl : p.canLay0 = true
  wt : p.weight ≤ w
theorem Wt.mono {w dp w' dp' : Nat} {p : PyData} (h : Wt w dp p) (a : w ≤ w') (b : dp ≤ dp') : Wt w' dp' p := ⟨h.sh, Nat.le_trans h.dp b, h.lf, h.cl, Nat.le_trans h.wt a⟩
def Nz (w dp : Nat) (S : DH) (d : D) : Prop := ∃ p, Pd S d p ∧ Wt w dp p
section
variable {S S' : DH} {d : D} {w dp w' dp' n : Nat}
theorem Nz.mono (h : Nz w dp S d) (a : w ≤ w') (b : dp ≤ dp') : Nz w' dp' S d := let ⟨p, h1, h2⟩ := h; ⟨p, h1, h2.mono a b⟩
theorem Nz.ext (h : Nz w dp S d) (e : Ext S S') : Nz w dp S' d := let ⟨p, h1, h2⟩ := h; ⟨p, h1.ext e p d, h2⟩
mutual
theorem Pd.extB {S S' : DH} {q : Addr} (hq : ∀ ds, S q ≠ some (.lst ds)) (e : ExtB q S S') : ∀ (p : PyData) (d : D), Pd S d p → Pd S' d p
  | .none, _, h => by cases h; exact .non
  | .bool b, _, h => by cases h; exact .bl b
  | .int i, _, h => by cases h; exact .int i
  | .str x, _, h => by cases h; exact .str x
  | .tuple ps, _, h => by cases h with | tup hs => exact .tup (PdA.extB hq e ps _ hs)
  | .list ps, _, h => by
    cases h with
    | rol hs => exact .rol (PdA.extB hq e ps _ hs)
    | lst ea hs => exact .lst (e _ _ (fun z => hq _ (by rw [← z]; exact ea)) ea) (PdA.extB hq e ps _ hs)
  | .dict _, _, h => by cases h
theorem PdA.extB {S S' : DH} {q : Addr} (hq : ∀ ds, S q ≠ some (.lst ds)) (e : ExtB q S S') : ∀ (ps : List PyData) (ds : List D), PdA S ds ps → PdA S' ds ps
  | [], _, h => by cases h; exact .nil
  | p :: ps, _, h => by cases h with | cons h1 h2 => exact .cons (Pd.extB hq e p _ h1) (PdA.extB hq e ps _ h2)
end
theorem FeedOb.nl {n : Nat} {o : Ob} (h : FeedOb n o) {q : Addr} {S : DH} (e : S q = some o) : ∀ ds, S q ≠ some (.lst ds) := fun ds z => by
  obtain ⟨_, _, _, rfl, _⟩ := h
  rw [e] at z
  cases z
theorem Nz.extB {q : Addr} (h : Nz w dp S d) (hq : ∀ ds, S q ≠ some (.lst ds)) (e : ExtB q S S') : Nz w dp S' d := let ⟨p, h1, h2⟩ := h; ⟨p, h1.extB hq e p d, h2⟩
theorem Nz.non : Nz w dp S .non := ⟨.none, .non, rfl, Nat.zero_le _, rfl, rfl, Nat.zero_le _⟩
theorem Nz.bl (b : Bool) : Nz w dp S (.bl b) := ⟨.bool b, .bl b, rfl, Nat.zero_le _, rfl, rfl, Nat.zero_le _⟩
theorem Nz.int (i : Int) (h1 : PyData.showable (.int i) = true) (h2 : PyData.leavesShort 13 (.int i) = true) (h3 : PyData.weight (.int i) ≤ w) : Nz w dp S (.int i) := ⟨.int i, .int i, h1, Nat.zero_le _, h2, rfl, h3⟩
theorem Nz.str {x : Str} (h : Pl n x) (hn : n ≤ w) : Nz w dp S (.str x) := by
  refine ⟨.str x, .str x, rfl, Nat.zero_le _, ?_, ?_, Nat.le_trans h.1 hn⟩
  · simp only [PyData.leavesShort, List.all_eq_true, decide_eq_true_eq]
    exact fun c hc => Nat.lt_trans (h.2 c hc) (by decide)
  · show PyData.strOk x = true
    unfold PyData.strOk
    rw [← Array.all_toList, List.all_eq_true]
    exact fun c hc => decide_eq_true (Nat.lt_trans (h.2 c hc) (by decide))
theorem Nz.lit (s : String) (h : (decide ((Str.ofString s).length ≤ w) && (Str.ofString s).cps.toList.all fun c => decide (c < 128)) = true) : Nz w dp S (.str s) := .str (Pl.lit s w h) (Nat.le_refl _)
/-- all of a list -/
structure WtA (w dp : Nat) (ps : List PyData) : Prop where
  sh : PyData.showableAll ps = true
  dp : PyData.depthAll ps ≤ dp
  lf : PyData.leavesShortAll 13 ps = true
  cl : PyData.canLayAll0 ps = true
  wt : PyData.weightAll ps ≤ ps.length * (w + 1)
theorem NzA : ∀ {ds : List D}, (∀ d ∈ ds, Nz w dp S d) → ∃ ps, PdA S ds ps ∧ WtA w dp ps ∧ ps.length = ds.length
  | [], _ => ⟨[], .nil, ⟨rfl, Nat.zero_le _, rfl, rfl, Nat.zero_le _⟩, rfl⟩
  | d :: ds, h => by
    obtain ⟨ps, h1, h2, h3⟩ := NzA (ds := ds) fun e he => h e (List.mem_cons_of_mem _ he)
    obtain ⟨p, h4, h5⟩ := h d (List.mem_cons_self ..)
    refine ⟨p :: ps, .cons h4 h1, ⟨?_, ?_, ?_, ?_, ?_⟩, by simp [h3]⟩
    · simp only [PyData.showableAll, h5.sh, h2.sh, Bool.and_self]
    · simp only [PyData.depthAll]
      have := h5.dp; have := h2.dp
      omega
    · simp only [PyData.leavesShortAll, h5.lf, h2.lf, Bool.and_self]
    · simp only [PyData.canLayAll0, h5.cl, h2.cl, Bool.and_self]
    · simp only [PyData.weightAll, List.length_cons, Nat.succ_mul]
      have := h5.wt; have := h2.wt
      omega
theorem WtA.tup {ps : List PyData} (h : WtA w dp ps) (hw : ps.length * (w + 1) ≤ w') : Wt w' (dp + 1) (.tuple ps) := ⟨h.sh, Nat.succ_le_succ h.dp, h.lf, h.cl, Nat.le_trans h.wt hw⟩
theorem WtA.lst {ps : List PyData} (h : WtA w dp ps) (hw : ps.length * (w + 1) ≤ w') : Wt w' (dp + 1) (.list ps) := ⟨h.sh, Nat.succ_le_succ h.dp, h.lf, h.cl, Nat.le_trans h.wt hw⟩
theorem Nz.tup {ds : List D} (h : ∀ d ∈ ds, Nz w dp S d) (hn : ds.length ≤ n) (hw : n * (w + 1) ≤ w') : Nz w' (dp + 1) S (.tup ds) := by
  obtain ⟨ps, h1, h2, h3⟩ := NzA h
  exact ⟨.tuple ps, .tup h1, h2.tup (by rw [h3]; exact Nat.le_trans (Nat.mul_le_mul_right _ hn) hw)⟩
theorem Nz.lst {ds : List D} {a : Addr} (e : S a = some (.lst ds)) (h : ∀ d ∈ ds, Nz w dp S d) (hn : ds.length ≤ n) (hw : n * (w + 1) ≤ w') : Nz w' (dp + 1) S (.ref a) := by
  obtain ⟨ps, h1, h2, h3⟩ := NzA h
  exact ⟨.list ps, .lst e h1, h2.lst (by rw [h3]; exact Nat.le_trans (Nat.mul_le_mul_right _ hn) hw)⟩
theorem wts_kids : ∀ {ps : List PyData} {ds : List D}, PdA S ds ps → PyData.showableAll ps = true → PyData.depthAll ps ≤ dp → PyData.leavesShortAll 13 ps = true → PyData.canLayAll0 ps = true → PyData.weightAll ps ≤ w → ∀ d ∈ ds, Nz w dp S d
  | [], _, h, _, _, _, _, _ => by cases h; exact fun _ z => nomatch z
  | p :: ps, _, h, h1, h2, h3, h4, h5 => by
    cases h with
    | cons ha hb =>
      simp only [PyData.showableAll, PyData.depthAll, PyData.leavesShortAll, PyData.canLayAll0, PyData.weightAll, Bool.and_eq_true] at h1 h2 h3 h4 h5
      intro d hd
      rcases List.mem_cons.mp hd with rfl | z
      · exact ⟨p, ha, h1.1, by omega, h3.1, h4.1, by omega⟩
      · exact wts_kids hb h1.2 (by omega) h3.2 h4.2 (by omega) d z
theorem Nz.kids {ds : List D} (h : Nz w dp S (.tup ds)) : ∀ d ∈ ds, Nz w dp S d := by
  obtain ⟨p, h1, h2⟩ := h
  cases h1 with
  | tup hs => exact wts_kids hs h2.sh (Nat.le_trans (Nat.le_succ _) h2.dp) h2.lf h2.cl h2.wt
theorem Nz.ty (h : Nz w dp S d) : ∃ n, tyName d S = some n := by
  obtain ⟨p, h1, _⟩ := h
  cases h1 with
  | lst e _ => exact ⟨"list", tyName_lst S e⟩
  | _ => exact ⟨_, rfl⟩
theorem Nz.len {x : Str} (h : Nz w dp S (.str x)) : x.length ≤ w := by
  obtain ⟨p, h1, h2⟩ := h
  cases h1
  exact h2.wt
theorem Nz.shows (h : Nz w dp S d) (hw : w ≤ 2 ^ 20) (hd : dp ≤ 100) : ∃ p, Shows S d p := by
  obtain ⟨p, h1, h2⟩ := h
  exact ⟨p, h1, h2.sh, Nat.le_trans h2.dp hd, PyData.shown_fits (B := 13) (by decide) (by decide) h2.lf (Nat.le_trans h2.wt hw)⟩
theorem Nz.shaped (h : Nz w dp S d) (hd : dp ≤ 64) : ∃ p, Pd S d p ∧ SeqAt.shaped p = true := by
  obtain ⟨p, h1, h2⟩ := h
  exact ⟨p, h1, by unfold SeqAt.shaped; rw [h2.cl, decide_eq_true (Nat.le_trans h2.dp hd)]; rfl⟩
/-- a list beside the empty one -/
theorem dEq_nilL {neg : Bool} {a b : Addr} {ds : List D} {Q : DK} (ea : S a = some (.lst ds)) (eb : S b = some (.lst [])) (h : Nz w dp S (.ref a)) (hd : dp ≤ 64) (q : Q (.bl (if neg then !ds.isEmpty else ds.isEmpty)) S) : dEq neg (.ref a) (.ref b) S Q := by
  obtain ⟨p, h1, h2⟩ := h.shaped hd
  show dEqG neg (.ref a) (.ref b) S Q
  cases h1 with
  | lst e hs =>
    rw [ea] at e
    cases e
    refine ⟨_, .list [], .lst ea hs, .lst eb .nil, h2, by decide, ?_⟩
    cases hs with
    | nil => simpa [PyData.eqv, PyData.eqvAll] using q
    | cons _ _ => simpa [PyData.eqv, PyData.eqvAll] using q
theorem dEq_nilT {neg : Bool} {ds : List D} {Q : DK} (h : Nz w dp S (.tup ds)) (hd : dp ≤ 64) (q : Q (.bl (if neg then !ds.isEmpty else ds.isEmpty)) S) : dEq neg (.tup ds) (.tup []) S Q := by
  obtain ⟨p, h1, h2⟩ := h.shaped hd
  show dEqG neg (.tup ds) (.tup []) S Q
  cases h1 with
  | tup hs =>
    refine ⟨_, .tuple [], .tup hs, .tup .nil, h2, by decide, ?_⟩
    cases hs with
    | nil => simpa [PyData.eqv, PyData.eqvAll] using q
    | cons _ _ => simpa [PyData.eqv, PyData.eqvAll] using q
end
end Dt
set_option maxRecDepth 100000
set_option maxHeartbeats 4000000
/-! DatV: plain data (==, in, <, sorted by sorts of data); comprehensions whose list is a value. -/
namespace Dt
open PySem PySem.Spec L2 PySem.W PyProof.Rows

/-! ### plain data -/
mutual
def pl : D → Bool
  | .non => true
  | .int _ => true
  | .str x => PyData.strOk x
  | .tup ds => pls ds
  | .rol ds => pls ds
  | .bl _ => false
  | .ref _ => false
def pls : List D → Bool
  | [] => true
  | d :: ds => pl d && pls ds
end
mutual
def dep : D → Nat
  | .tup ds => deps ds + 1
  | .rol ds => deps ds + 1
  | _ => 0
def deps : List D → Nat
  | [] => 0
  | d :: ds => max (dep d) (deps ds)
end
mutual
theorem dep_P : ∀ d : D, (toP d).depth = dep d
  | .non | .bl _ | .int _ | .str _ | .ref _ => rfl
  | .tup ds => congrArg (· + 1) (deps_P ds)
  | .rol ds => congrArg (· + 1) (deps_P ds)
theorem deps_P : ∀ ds : List D, PyData.depthAll (toPs ds) = deps ds
  | [] => rfl
  | d :: ds => by
    show max (toP d).depth (PyData.depthAll (toPs ds)) = max (dep d) (deps ds)
    rw [dep_P d, deps_P ds]
end
mutual
theorem pl_imm : ∀ d : D, pl d = true → imm d = true
  | .non, _ | .int _, _ | .str _, _ => rfl
  | .tup ds, h => pls_imm ds h
  | .rol ds, h => pls_imm ds h
theorem pls_imm : ∀ ds : List D, pls ds = true → imms ds = true
  | [], _ => rfl
  | d :: ds, h => by
    have h' : (pl d && pls ds) = true := h
    rw [Bool.and_eq_true] at h'
    show (imm d && imms ds) = true
    rw [pl_imm d h'.1, pls_imm ds h'.2]
    rfl
end
mutual
theorem pl_lay : ∀ d : D, pl d = true → (toP d).canLay0 = true
  | .non, _ | .int _, _ => rfl
  | .str x, h => h
  | .tup ds, h => pls_lay ds h
  | .rol ds, h => pls_lay ds h
theorem pls_lay : ∀ ds : List D, pls ds = true → PyData.canLayAll0 (toPs ds) = true
  | [], _ => rfl
  | d :: ds, h => by
    have h' : (pl d && pls ds) = true := h
    rw [Bool.and_eq_true] at h'
    show ((toP d).canLay0 && PyData.canLayAll0 (toPs ds)) = true
    rw [pl_lay d h'.1, pls_lay ds h'.2]
    rfl
end
theorem beq_dec {α : Type} [BEq α] [LawfulBEq α] [DecidableEq α] (a b : α) : (a == b) = decide (a = b) := by
  by_cases h : a = b
  · rw [h]; simp
  · rw [decide_eq_false h]
    simp [h]
mutual
theorem eqv_P : ∀ d e : D, pl d = true → pl e = true → PyData.eqv (toP d) (toP e) = deq d e
  | .non, e, _, h => by cases e <;> first | rfl | (simp [pl] at h; done)
  | .int i, e, _, h => by cases e <;> first | rfl | (simp [pl] at h; done) | (simp [toP, PyData.eqv, deq]; done)
  | .str i, e, _, h => by cases e <;> first | rfl | (simp [pl] at h; done)
  | .tup ds, e, h0, h => by
    cases e <;> first | rfl | (simp [pl] at h; done) | skip
    exact eqvs_P ds _ h0 h
  | .rol ds, e, h0, h => by
    cases e <;> first | rfl | (simp [pl] at h; done) | skip
    exact eqvs_P ds _ h0 h
theorem eqvs_P : ∀ ds es : List D, pls ds = true → pls es = true → PyData.eqvAll (toPs ds) (toPs es) = deqs ds es
  | [], es, _, _ => by cases es <;> rfl
  | d :: ds, [], _, _ => rfl
  | d :: ds, e :: es, h, h' => by
    have k : (pl d && pls ds) = true := h
    have k' : (pl e && pls es) = true := h'
    rw [Bool.and_eq_true] at k k'
    show (PyData.eqv (toP d) (toP e) && PyData.eqvAll (toPs ds) (toPs es)) = (deq d e && deqs ds es)
    rw [eqv_P d e k.1 k'.1, eqvs_P ds es k.2 k'.2]
end
theorem deq_dec (d e : D) : deq d e = decide (d = e) := by
  by_cases h : d = e
  · rw [h, deq_self]; simp
  · cases q : deq d e with
    | false => simp [h]
    | true => exact absurd (of_deq _ _ q) h
/-- plain and not deep -/
def Sm (n : Nat) (d : D) : Prop := pl d = true ∧ dep d ≤ n
theorem Sm.mono {n m : Nat} {d : D} (h : Sm n d) (l : n ≤ m) : Sm m d := ⟨h.1, Nat.le_trans h.2 l⟩
theorem pls_iff : ∀ {ds : List D}, pls ds = true ↔ ∀ d ∈ ds, pl d = true
  | [] => by simp [pls]
  | d :: ds => by
    show (pl d && pls ds) = true ↔ _
    rw [Bool.and_eq_true, pls_iff (ds := ds)]
    simp
theorem deps_iff {n : Nat} : ∀ {ds : List D}, deps ds ≤ n ↔ ∀ d ∈ ds, dep d ≤ n
  | [] => by simp [deps]
  | d :: ds => by
    show max (dep d) (deps ds) ≤ n ↔ _
    rw [Nat.max_le, deps_iff (ds := ds)]
    simp
theorem sms_iff {n : Nat} {ds : List D} : (pls ds = true ∧ deps ds ≤ n) ↔ ∀ d ∈ ds, Sm n d := by
  rw [pls_iff, deps_iff]
  exact ⟨fun h d hd => ⟨h.1 d hd, h.2 d hd⟩, fun h => ⟨fun d hd => (h d hd).1, fun d hd => (h d hd).2⟩⟩
@[simp] theorem Sm_non {n : Nat} : Sm n .non := ⟨rfl, Nat.zero_le _⟩
@[simp] theorem Sm_int {n : Nat} {i : Int} : Sm n (.int i) := ⟨rfl, Nat.zero_le _⟩
@[simp] theorem Sm_str {n : Nat} {x : Str} : Sm n (.str x) ↔ PyData.strOk x = true := ⟨fun h => h.1, fun h => ⟨h, Nat.zero_le _⟩⟩
theorem Sm_tup {n : Nat} {ds : List D} : Sm (n + 1) (.tup ds) ↔ ∀ d ∈ ds, Sm n d := by
  rw [← sms_iff]
  exact ⟨fun h => ⟨h.1, Nat.le_of_succ_le_succ h.2⟩, fun h => ⟨h.1, Nat.succ_le_succ h.2⟩⟩
theorem Sm_rol {n : Nat} {ds : List D} : Sm (n + 1) (.rol ds) ↔ ∀ d ∈ ds, Sm n d := by
  rw [← sms_iff]
  exact ⟨fun h => ⟨h.1, Nat.le_of_succ_le_succ h.2⟩, fun h => ⟨h.1, Nat.succ_le_succ h.2⟩⟩
theorem Sm.kids {n : Nat} {ds : List D} (h : Sm n (.tup ds)) : ∀ d ∈ ds, Sm n d := fun d hd => ⟨pls_iff.mp h.1 d hd, deps_iff.mp (Nat.le_trans (Nat.le_succ _) h.2) d hd⟩
theorem Sm.pd {n : Nat} {d : D} (h : Sm n d) (S : DH) : Pd S d (toP d) := imm_pd S d (pl_imm d h.1)
theorem Sm.shaped {n : Nat} {d : D} (h : Sm n d) (hn : n ≤ 64) : SeqAt.shaped (toP d) = true := by
  unfold SeqAt.shaped
  rw [pl_lay d h.1, dep_P d, decide_eq_true (Nat.le_trans h.2 hn)]
  rfl
/-- the items of a list, or all of it -/
theorem seqD_pd {S : DH} {d : D} {ds : List D} (e : seqD S d = some ds) (h : ∀ x ∈ ds, Sm 60 x) : Pd S d (toP (.rol ds)) ∧ SeqAt.shaped (toP (.rol ds)) = true := by
  have hs : Sm 61 (.rol ds) := Sm_rol.mpr h
  refine ⟨?_, hs.shaped (by decide)⟩
  cases d with
  | rol xs => cases e; exact hs.pd S
  | ref a =>
    simp only [seqD_ref] at e
    split at e
    · rename_i xs ea
      cases e
      exact .lst ea (imms_pd S ds (pls_imm ds hs.1))
    · cases e
  | _ => simp at e
section
variable {S : DH} {Q : DK} {neg : Bool} {d e : D}
/-- == of plain data -/
theorem dEq_sm (hd : Sm 60 d) (he : Sm 60 e) (h : Q (.bl (if neg then !decide (d = e) else decide (d = e))) S) : dEq neg d e S Q := by
  have go : dEqG neg d e S Q := by
    refine ⟨_, _, hd.pd S, he.pd S, hd.shaped (by decide), he.shaped (by decide), ?_⟩
    rw [eqv_P d e hd.1 he.1, deq_dec]
    exact h
  unfold dEq
  split
  · simp only [D.int.injEq] at h
    rw [beq_dec]
    exact h
  · simp only [D.str.injEq] at h
    rw [beq_dec]
    exact h
  · simp [Sm, pl] at hd
  · simpa using h
  · simpa using h
  · simpa using h
  · simpa using h
  · exact go
/-- == of lists of plain data -/
theorem dEq_seq {xs ys : List D} (hd : seqD S d = some xs) (he : seqD S e = some ys) (h1 : ∀ x ∈ xs, Sm 60 x) (h2 : ∀ x ∈ ys, Sm 60 x) (h : Q (.bl (if neg then !decide (xs = ys) else decide (xs = ys))) S) : dEq neg d e S Q := by
  have go : dEqG neg d e S Q := by
    obtain ⟨p1, s1⟩ := seqD_pd hd h1
    obtain ⟨p2, s2⟩ := seqD_pd he h2
    have hx : pl (.rol xs) = true := (Sm_rol (n := 60) (ds := xs)).mpr h1 |>.1
    have hy : pl (.rol ys) = true := (Sm_rol (n := 60) (ds := ys)).mpr h2 |>.1
    refine ⟨_, _, p1, p2, s1, s2, ?_⟩
    rw [eqv_P _ _ hx hy, deq_dec]
    simp only [D.rol.injEq]
    exact h
  cases d with
  | rol _ => cases e <;> first | exact go | (simp at he)
  | ref _ => cases e <;> first | exact go | (simp at he)
  | _ => simp at hd
end

/-! ### sorts of data -/
inductive Ty where
  | int | str | tup (ts : List Ty) | hom (t : Ty) | hom1 (t : Ty)
mutual
def hasTy : Ty → D → Bool
  | .int, .int _ => true
  | .str, .str x => PyData.strOk x
  | .tup ts, .tup ds => hasTys ts ds
  | .hom t, .tup ds => ds.all (hasTy t)
  | .hom1 t, .tup ds => !ds.isEmpty && ds.all (hasTy t)
  | _, _ => false
def hasTys : List Ty → List D → Bool
  | [], [] => true
  | t :: ts, d :: ds => hasTy t d && hasTys ts ds
  | _, _ => false
end
mutual
def tyDep : Ty → Nat
  | .tup ts => tysDep ts + 1
  | .hom t => tyDep t + 1
  | .hom1 t => tyDep t + 1
  | _ => 0
def tysDep : List Ty → Nat
  | [] => 0
  | t :: ts => max (tyDep t) (tysDep ts)
end
mutual
theorem hasTy_sm : ∀ (t : Ty) (d : D), hasTy t d = true → Sm (tyDep t) d
  | .int, d, h => by cases d <;> first | exact Sm_int | (simp [hasTy] at h; done)
  | .str, d, h => by cases d <;> first | exact Sm_str.mpr h | (simp [hasTy] at h; done)
  | .tup ts, d, h => by cases d <;> first | exact Sm_tup.mpr (hasTys_sm ts _ h) | (simp [hasTy] at h; done)
  | .hom t, d, h => by cases d <;> first | (simp [hasTy] at h; exact Sm_tup.mpr fun x hx => hasTy_sm t x (h x hx)) | (simp [hasTy] at h; done)
  | .hom1 t, d, h => by cases d <;> first | (simp [hasTy] at h; exact Sm_tup.mpr fun x hx => hasTy_sm t x (h.2 x hx)) | (simp [hasTy] at h; done)
theorem hasTys_sm : ∀ (ts : List Ty) (ds : List D), hasTys ts ds = true → ∀ d ∈ ds, Sm (tysDep ts) d
  | [], ds, h => by
    cases ds with
    | nil => exact fun _ z => nomatch z
    | cons _ _ => simp [hasTys] at h
  | t :: ts, ds, h => by
    cases ds with
    | nil => simp [hasTys] at h
    | cons d ds =>
      simp [hasTys] at h
      intro x hx
      rcases List.mem_cons.mp hx with rfl | hx
      · exact (hasTy_sm t x h.1).mono (Nat.le_max_left ..)
      · exact (hasTys_sm ts ds h.2 x hx).mono (Nat.le_max_right ..)
end
theorem alikeAll_hom {ds es : List D} (h : ∀ d ∈ ds, ∀ e ∈ es, alike (toP d) (toP e) = true) : alikeAll (toPs ds) (toPs es) = true := by
  induction ds generalizing es with
  | nil => rfl
  | cons d ds ih =>
    cases es with
    | nil => rfl
    | cons e es =>
      show (alike (toP d) (toP e) && alikeAll (toPs ds) (toPs es)) = true
      rw [h d (List.mem_cons_self ..) e (List.mem_cons_self ..), ih fun x hx y hy => h x (List.mem_cons_of_mem _ hx) y (List.mem_cons_of_mem _ hy)]
      rfl
mutual
theorem hasTy_alike : ∀ (t : Ty) (d e : D), hasTy t d = true → hasTy t e = true → alike (toP d) (toP e) = true
  | .int, d, e, h, h' => by cases d <;> first | (simp [hasTy] at h; done) | (cases e <;> first | rfl | (simp [hasTy] at h'; done))
  | .str, d, e, h, h' => by cases d <;> first | (simp [hasTy] at h; done) | (cases e <;> first | rfl | (simp [hasTy] at h'; done))
  | .tup ts, d, e, h, h' => by cases d <;> first | (simp [hasTy] at h; done) | (cases e <;> first | exact hasTys_alike ts _ _ h h' | (simp [hasTy] at h'; done))
  | .hom t, d, e, h, h' => by
    cases d <;> first | (simp [hasTy] at h; done) | (cases e <;> first | (simp [hasTy] at h h'; exact alikeAll_hom fun x hx y hy => hasTy_alike t x y (h x hx) (h' y hy)) | (simp [hasTy] at h'; done))
  | .hom1 t, d, e, h, h' => by
    cases d <;> first | (simp [hasTy] at h; done) | (cases e <;> first | (simp [hasTy] at h h'; exact alikeAll_hom fun x hx y hy => hasTy_alike t x y (h.2 x hx) (h'.2 y hy)) | (simp [hasTy] at h'; done))
theorem hasTys_alike : ∀ (ts : List Ty) (ds es : List D), hasTys ts ds = true → hasTys ts es = true → alikeAll (toPs ds) (toPs es) = true
  | [], ds, es, h, h' => by cases ds <;> first | rfl | (simp [hasTys] at h; done)
  | t :: ts, ds, es, h, h' => by
    cases ds with
    | nil => rfl
    | cons d ds =>
      cases es with
      | nil => rfl
      | cons e es =>
        simp [hasTys] at h h'
        show (alike (toP d) (toP e) && alikeAll (toPs ds) (toPs es)) = true
        rw [hasTy_alike t d e h.1 h'.1, hasTys_alike ts ds es h.2 h'.2]
        rfl
end
/-- x < y -/
def ltD (x y : D) : Bool := dataLt (toP x) (toP y)
theorem ltD_irrefl (x : D) : ltD x x = false := PyProof.Rows.lex_irrefl _
theorem ltD_trans {x y z : D} (h : ltD x y = true) (h' : ltD y z = true) : ltD x z = true := PyProof.Rows.lex_trans _ _ _ h h'
theorem ltD_neg {x y z : D} (h : ltD x z = true) : ltD x y = true ∨ ltD y z = true := PyProof.Rows.lex_negTrans _ _ _ h
theorem ltD_asymm {x y : D} (h : ltD x y = true) : ltD y x = false := by
  cases e : ltD y x with
  | false => rfl
  | true =>
    have := ltD_trans h e
    rw [ltD_irrefl] at this
    cases this
theorem ltD_tri {t : Ty} {x y : D} (hx : hasTy t x = true) (hy : hasTy t y = true) (h : ltD x y = false) (h' : ltD y x = false) : x = y := by
  have e : keyToks (toP x) = keyToks (toP y) := PyProof.Rows.lex_total _ _ h h'
  have sx := hasTy_sm t x hx
  have sy := hasTy_sm t y hy
  have q := toks_eqv (toP x) (toP y) (hasTy_alike t x y hx hy)
  rw [eqv_P x y sx.1 sy.1] at q
  cases z : deq x y with
  | true => exact of_deq _ _ z
  | false =>
    have k := q.2 z [] [.inl 0]
    rw [← e, PyProof.Rows.lex_irrefl, List.append_nil] at k
    have : ∀ l : List (Int ⊕ List Nat), PyProof.Rows.lexLt PyProof.Rows.itemOrd l (l ++ [.inl 0]) = true := fun l => by
      induction l with
      | nil => rfl
      | cons a l ih => rw [List.cons_append, PyProof.Rows.lex_self]; exact ih
    rw [this] at k
    cases k
theorem ltD_int (i j : Int) : ltD (.int i) (.int j) = decide (i < j) := dataLt_int i j
theorem ltD_str (i j : Str) : ltD (.str i) (.str j) = decide (i.cps.toList < j.cps.toList) := dataLt_str i j
/-- what may be sorted -/
def sortTy : Ty → Bool
  | .int => true
  | .str => true
  | .tup (t :: ts) => decide (tyDep (.tup (t :: ts)) ≤ 50)
  | .hom1 t => decide (tyDep (.hom1 t) ≤ 50)
  | _ => false
theorem sortTy_dep {t : Ty} (h : sortTy t = true) : tyDep t ≤ 50 := by
  cases t with
  | tup ts => cases ts <;> simp [sortTy] at h; exact h
  | hom1 t => exact of_decide_eq_true h
  | int => exact Nat.zero_le _
  | str => exact Nat.zero_le _
  | hom t => cases h
theorem toPs_map (ds : List D) : toPs ds = ds.map toP := by
  induction ds with
  | nil => rfl
  | cons d ds ih => show toP d :: toPs ds = _; rw [ih]; rfl
theorem sortable_ty {t : Ty} {ds : List D} (h : sortTy t = true) (hd : ∀ d ∈ ds, hasTy t d = true) : Sortable (ds.map toP) := by
  have no : (∀ d, hasTy t d = true → toP d ≠ .none ∧ ∀ xs, toP d ≠ .tuple xs) → Sortable (ds.map toP) := fun k => .inr fun p hp => by
    obtain ⟨d, hd', rfl⟩ := List.mem_map.mp hp
    exact k d (hd d hd')
  have yes : (∀ d, hasTy t d = true → ∃ x r, toP d = .tuple (x :: r)) → Sortable (ds.map toP) := fun k => .inl fun p hp => by
    obtain ⟨d, hd', rfl⟩ := List.mem_map.mp hp
    exact k d (hd d hd')
  cases t with
  | int => exact no fun d z => by cases d <;> first | (simp [hasTy] at z; done) | exact ⟨(fun y => nomatch y), fun _ y => nomatch y⟩
  | str => exact no fun d z => by cases d <;> first | (simp [hasTy] at z; done) | exact ⟨(fun y => nomatch y), fun _ y => nomatch y⟩
  | hom t => cases h
  | hom1 t =>
    refine yes fun d z => ?_
    cases d <;> first | (simp [hasTy] at z; done) | skip
    rename_i xs
    cases xs with
    | nil => simp [hasTy] at z
    | cons x xs => exact ⟨toP x, toPs xs, rfl⟩
  | tup ts =>
    cases ts with
    | nil => cases h
    | cons t ts =>
      refine yes fun d z => ?_
      cases d <;> first | (simp [hasTy] at z; done) | skip
      rename_i xs
      cases xs with
      | nil => simp [hasTy, hasTys] at z
      | cons x xs => exact ⟨toP x, toPs xs, rfl⟩
/-- sorted as the language sorts -/
def srtD (ds : List D) : List D := ds.mergeSort fun a b => !ltD b a
theorem srtD_eq (ds : List D) : ds.mergeSort (dataLe false toP) = srtD ds := rfl
theorem srt_perm (ds : List D) : (srtD ds).Perm ds := List.mergeSort_perm ..
theorem srt_mem {ds : List D} {d : D} : d ∈ srtD ds ↔ d ∈ ds := (srt_perm ds).mem_iff
@[simp] theorem srt_len (ds : List D) : (srtD ds).length = ds.length := List.length_mergeSort _
theorem srt_sorted (ds : List D) : (srtD ds).Pairwise fun a b => ltD b a = false := by
  have := List.pairwise_mergeSort (le := fun a b : D => !ltD b a) (fun a b c h1 h2 => by
    cases e : ltD c a with
    | false => rfl
    | true =>
      rcases ltD_neg (y := b) e with z | z
      · rw [z] at h2; cases h2
      · rw [z] at h1; cases h1) (fun a b => by
    cases e : ltD b a with
    | false => rfl
    | true => rw [ltD_asymm e]; rfl) ds
  exact this.imp fun h => by simpa using h
/-- one sorted list of the same things -/
theorem sorted_one {t : Ty} : ∀ {as bs : List D}, (∀ d ∈ as, hasTy t d = true) → as.Pairwise (fun a b => ltD b a = false) → bs.Pairwise (fun a b => ltD b a = false) → as.Perm bs → as = bs
  | [], bs, _, _, _, p => p.symm.eq_nil.symm
  | a :: as, bs, ht, h1, h2, p => by
    cases bs with
    | nil => exact p.eq_nil
    | cons b bs =>
      have hb : hasTy t b = true := ht b (p.mem_iff.mpr (List.mem_cons_self ..))
      have ha : hasTy t a = true := ht a (List.mem_cons_self ..)
      obtain ⟨h1a, h1b⟩ := List.pairwise_cons.mp h1
      obtain ⟨h2a, h2b⟩ := List.pairwise_cons.mp h2
      have e : a = b := by
        rcases List.mem_cons.mp (p.mem_iff.mp (List.mem_cons_self (a := a) (l := as))) with z | z
        · exact z
        · rcases List.mem_cons.mp (p.mem_iff.mpr (List.mem_cons_self (a := b) (l := bs))) with y | y
          · exact y.symm
          · exact ltD_tri ha hb (h2a a z) (h1a b y)
      subst e
      rw [sorted_one (fun d hd => ht d (List.mem_cons_of_mem _ hd)) h1b h2b (List.perm_cons a |>.mp p)]
theorem srt_one {t : Ty} {as bs : List D} (ht : ∀ d ∈ as, hasTy t d = true) (p : as.Perm bs) : srtD as = srtD bs :=
  sorted_one (fun d hd => ht d (srt_mem.mp hd)) (srt_sorted as) (srt_sorted bs) ((srt_perm as).trans (p.trans (srt_perm bs).symm))
theorem srt_id {t : Ty} {as : List D} (ht : ∀ d ∈ as, hasTy t d = true) (h : as.Pairwise fun a b => ltD b a = false) : srtD as = as :=
  sorted_one (fun d hd => ht d (srt_mem.mp hd)) (srt_sorted as) h (srt_perm as)

/-! ### sorted -/
def cSrt (ds : List D) (k : List D → Prop) : Prop := (∃ t, sortTy t = true ∧ ∀ d ∈ ds, hasTy t d = true) ∧ k (srtD ds)
def cSorted : RCD := fun ds S Q => match ds with
  | [d] => opt (seqD S d) fun xs => cSrt xs fun ys => newO S (.lst ys) fun p S' => Q (.ref p) S'
  | _ => False
@[simp] def cSortedF : RCD := fun ds S Q => match ds with
  | [d] => opt (seqD S d) fun xs => cSrt xs fun ys => Q (.rol ys) S
  | _ => False
section
variable {X : Cx}
theorem each_rel {K : PySem.W.Frag} {H : Hp} : ∀ {xs : List V} {us : List Value} {ds : List D}, Vals xs us → RDs K H ds xs → EachIs (fun u d => ∃ x, RelV x u ∧ RD K H d x) us ds
  | _, _, [], r, rd => by cases rd; cases r; exact .nil
  | _, _, d :: ds, r, rd => by
    obtain ⟨v, vs, rfl, h1, h2⟩ := rd
    cases r with
    | cons a b => exact .cons ⟨v, a, h1⟩ (each_rel b h2)
theorem rel_each {K : PySem.W.Frag} {H : Hp} : ∀ {us : List Value} {ds : List D}, EachIs (fun u d => ∃ x, RelV x u ∧ RD K H d x) us ds → ∃ xs, Vals xs us ∧ RDs K H ds xs
  | _, _, .nil => ⟨[], .nil, .nil⟩
  | _, _, .cons ⟨x, a, b⟩ t => by
    obtain ⟨xs, h1, h2⟩ := rel_each t
    exact ⟨x :: xs, .cons a h1, RDs.cons b h2⟩
theorem each_and {α β : Type} {R : α → β → Prop} {p : β → Prop} : ∀ {us : List α} {ds : List β}, EachIs R us ds → (∀ d ∈ ds, p d) → EachIs (fun u d => R u d ∧ p d) us ds
  | _, _, .nil, _ => .nil
  | _, _, .cons a t, h => .cons ⟨a, h _ (List.mem_cons_self ..)⟩ (each_and t fun d hd => h d (List.mem_cons_of_mem _ hd))
theorem cd_sorted (hu : X.A.units + 64 < cLine) : CallD X (.builtin "sorted") cSorted := by
  refine ⟨fun ds S Q Q' k h => ?_, fun pins s σ H vs us Q I rv ⟨ds, S, rep, rd, h⟩ => ?_⟩
  · match ds, h with
    | [d], h => exact opt_mono (fun _ h => ⟨h.1, fun p hp => k _ _ (h.2 p hp)⟩) h
  · match ds, h with
    | [d], h =>
      obtain ⟨ds, e, ⟨t, ht, hd⟩, h⟩ := opt_ex h
      obtain ⟨v, rfl, r⟩ := rds1 rd
      obtain ⟨a, xs, rfl, sq, rd⟩ := seqD_rd rep r e
      rw [Vals.ref1 rv]
      obtain ⟨its, rv, hl, hz⟩ := I.list sq.l
      have e := each_rel rv rd
      have sm : ∀ d ∈ ds, Sm 50 d := fun d z => (hasTy_sm t d (hd d z)).mono (sortTy_dep ht)
      have er : EachIs (fun u d => ∃ as, Reads s.heap u (toP d) as) its ds := by
        refine EachIs.mono (fun u d z => ?_) (each_and e sm)
        obtain ⟨⟨x, a1, a2⟩, a3⟩ := z
        exact Dp.reads I (toP d) x u ((a3.pd S).dp rep _ _ _ a2) a1
      have hlen : ds.length ≤ sizeLine := by rw [rd.length]; exact hz
      refine sorted_data hl.isList e er (AllAlike.of' hd) (sortable_ty ht hd) hlen (fun b hb => by have := (sm b hb).2; rw [dep_P]; omega) fun out o1 o2 => ?_
      obtain ⟨ys, r1, r2⟩ := rel_each o2
      obtain ⟨ep, he'⟩ := sortedAll_at s.heap its out.toArray
      have hn : H (s.heap.objs.size + 1) = none := I.hok.fresh (Nat.le_succ _)
      have hyl : ys.length ≤ sizeLine := by rw [← r2.length]; exact Nat.le_trans (Nat.le_of_eq (srt_len ds)) hlen
      have le : LeH H (upd H (s.heap.objs.size + 1) (.lst ys)) := LeH.new hn
      refine ⟨.ref _, upd H (s.heap.objs.size + 1) (.lst ys), I.laid (t' := s.toks) (fun _ _ => sortedAll_old) (Nat.le_succ _) ⟨hyl, out, ep, r1, he'⟩, rfl, ?_⟩
      exact h (s.heap.objs.size + 1) (rep.free hn) _ _ le (rep.new hn ⟨ys, upd_same, r2.le le⟩) rfl
where
  AllAlike.of' {t : Ty} {ds : List D} (hd : ∀ d ∈ ds, hasTy t d = true) : AllAlike (ds.map toP) := fun p hp q hq => by
    obtain ⟨d, h1, rfl⟩ := List.mem_map.mp hp
    obtain ⟨e, h2, rfl⟩ := List.mem_map.mp hq
    exact hasTy_alike t d e (hd d h1) (hd e h2)
theorem cd_sortedF (hu : X.A.units + 64 < cLine) : CallD X (.builtin "sorted") cSortedF := (cd_fz (cd_sorted hu)).sub (fun ds S Q Q' k h => by
    unfold cSortedF at h ⊢
    split at h
    · exact opt_mono (fun _ h => ⟨h.1, k _ _ h.2⟩) h
    · exact h) fun ds S Q h => by
    unfold cSortedF at h
    unfold cFz cSorted
    split at h
    · exact opt_mono (fun _ h => ⟨h.1, fun p hp => fzK_new hp h.2⟩) h
    · exact h
end
/-! ### < of data -/
def rOrd (b : Bool) : R2D := fun d e S Q => match d, e with
  | .int i, .int j => Q (.bl (if b then decide (j < i) else decide (i < j))) S
  | d, e => (∃ t, tyDep t ≤ 50 ∧ hasTy t d = true ∧ hasTy t e = true) ∧ Q (.bl (if b then ltD e d else ltD d e)) S
@[simp] theorem rOrd_int {b : Bool} {i j : Int} {S : DH} {Q : DK} : rOrd b (.int i) (.int j) S Q = Q (.bl (if b then decide (j < i) else decide (i < j))) S := rfl
theorem rOrd_ty {b : Bool} {d e : D} {S : DH} {Q : DK} (t : Ty) (ht : tyDep t ≤ 50) (hd : hasTy t d = true) (he : hasTy t e = true) (h : Q (.bl (if b then ltD e d else ltD d e)) S) : rOrd b d e S Q := by
  unfold rOrd
  split
  · rw [ltD_int, ltD_int] at h
    exact h
  · exact ⟨⟨t, ht, hd, he⟩, h⟩
theorem rOrd_mono (b : Bool) : Mono2 (rOrd b) := fun x y S Q Q' k h => by
  unfold rOrd at h ⊢
  split at h
  · exact k _ _ h
  · exact ⟨h.1, k _ _ h.2⟩
section
variable {X : Cx}
theorem hasTy_none {t : Ty} {d : D} (h : hasTy t d = true) : toP d ≠ .none := by
  cases t <;> cases d <;> first | (simp [hasTy] at h; done) | exact fun z => nomatch z
theorem od_ord (b : Bool) (op : CmpOp) (he : op = if b then .Gt else .Lt) (hu : X.A.units + 64 < cLine) : OpD X (compareOp op) (rOrd b) := by
  refine ⟨rOrd_mono b, fun pins s σ H x y v u Q I rx ry ⟨d, e, S, rep, rd, re, h⟩ => ?_⟩
  subst he
  unfold rOrd at h
  split at h
  · cases rd; cases re
    cases b
    · exact op_lt pins s σ H _ _ v u Q I rx ry ⟨_, _, rfl, rfl, h _ H (LeH.refl H) rep rfl⟩
    · exact op_gt pins s σ H _ _ v u Q I rx ry ⟨_, _, rfl, rfl, h _ H (LeH.refl H) rep rfl⟩
  · obtain ⟨⟨t, ht, hd, hE⟩, h⟩ := h
    have sd := hasTy_sm t d hd
    have se := hasTy_sm t e hE
    obtain ⟨as, ra⟩ := Dp.reads I _ x v ((sd.pd S).dp rep _ d x rd) rx
    obtain ⟨bs, rb⟩ := Dp.reads I _ y u ((se.pd S).dp rep _ e y re) ry
    have hal := hasTy_alike t d e hd hE
    have hun : X.A.units + min (toP d).depth (toP e).depth < cLine := by
      have := Nat.min_le_left (toP d).depth (toP e).depth
      rw [dep_P] at this
      have := sd.2
      rw [dep_P]
      omega
    cases b
    · exact lt_data ra rb hal (hasTy_none hd) hun ⟨.bl _, H, I, rfl, h _ H (LeH.refl H) rep rfl⟩
    · exact gt_data ra rb hal (hasTy_none hd) hun ⟨.bl _, H, I, rfl, h _ H (LeH.refl H) rep rfl⟩
theorem od_ltD (hu : X.A.units + 64 < cLine) : OpD X (compareOp .Lt) (rOrd false) := od_ord false .Lt rfl hu
theorem od_gtD (hu : X.A.units + 64 < cLine) : OpD X (compareOp .Gt) (rOrd true) := od_ord true .Gt rfl hu
end
/-! ### in: plain data in lists -/
/-- b: d is among ds -/
def InR (d : D) (ds : List D) (b : Bool) : Prop := (flD d = true ∧ ds.all flD = true ∧ b = inF d ds) ∨ (Sm 60 d ∧ (∀ e ∈ ds, Sm 60 e) ∧ b = decide (d ∈ ds))
def dInQ (neg : Bool) (d : D) (ds : List D) (S : DH) (Q : DK) : Prop := ∃ b, InR d ds b ∧ Q (.bl (if neg then !b else b)) S
theorem dInQ_sm {neg : Bool} {d : D} {ds : List D} {S : DH} {Q : DK} (hd : Sm 60 d) (hs : ∀ e ∈ ds, Sm 60 e) (h : Q (.bl (if neg then !decide (d ∈ ds) else decide (d ∈ ds))) S) : dInQ neg d ds S Q := ⟨_, .inr ⟨hd, hs, rfl⟩, h⟩
theorem eqF_pl : ∀ {d e : D}, flD d = true → flD e = true → pl d = true → pl e = true → eqF e d = decide (d = e) := fun {d e} f g h k => by
  cases d <;> first | (simp at f; done) | (simp [pl] at h; done) | skip
  all_goals (cases e <;> first | (simp at g; done) | (simp [pl] at k; done) | rfl | skip)
  all_goals
    rw [eqF, beq_dec]
    simp [eq_comm]
theorem inF_pl {d : D} {ds : List D} (f : flD d = true) (g : ds.all flD = true) (h : pl d = true) (k : ∀ e ∈ ds, pl e = true) : inF d ds = decide (d ∈ ds) := by
  rw [Bool.eq_iff_iff]
  unfold inF
  rw [List.any_eq_true, decide_eq_true_eq]
  constructor
  · rintro ⟨e, he, q⟩
    rw [eqF_pl f (List.all_eq_true.mp g e he) h (k e he), decide_eq_true_eq] at q
    rw [q]
    exact he
  · intro hd
    exact ⟨d, hd, by rw [eqF_pl f f h h]; simp⟩
@[simp] theorem dInQ_fl {neg : Bool} {d : D} {ds : List D} {S : DH} {Q : DK} (f : flD d = true) (g : ds.all flD = true) : dInQ neg d ds S Q = Q (.bl (if neg then !inF d ds else inF d ds)) S := by
  refine propext ⟨fun ⟨b, r, q⟩ => ?_, fun q => ⟨_, .inl ⟨f, g, rfl⟩, q⟩⟩
  rcases r with ⟨_, _, rfl⟩ | ⟨h, k, rfl⟩
  · exact q
  · rw [inF_pl f g h.1 fun e he => (k e he).1]
    exact q
theorem dInQ_mono {neg : Bool} {d : D} {ds : List D} {S : DH} {Q Q' : DK} (k : ∀ d S', Q d S' → Q' d S') (h : dInQ neg d ds S Q) : dInQ neg d ds S Q' := let ⟨b, r, q⟩ := h; ⟨b, r, k _ _ q⟩
theorem inP_dec {d : D} {ds : List D} (hd : pl d = true) (hs : ∀ e ∈ ds, pl e = true) : inP (toP d) (toPs ds) = decide (d ∈ ds) := by
  induction ds with
  | nil => rfl
  | cons e ds ih =>
    show (PyData.eqv (toP e) (toP d) || inP (toP d) (toPs ds)) = _
    rw [eqv_P e d (hs e (List.mem_cons_self ..)) hd, ih fun x hx => hs x (List.mem_cons_of_mem _ hx), deq_dec]
    simp [eq_comm]
end Dt
set_option maxRecDepth 100000
set_option maxHeartbeats 4000000
/-! DatT: sorted(set(e)). -/
namespace Dt
open PySem PySem.Spec PySem.W L2 PyProof.Rows
def setHO (w : World) (p : Addr) (ks : List Key) : HO := .ext fun h => SetKs w h p ks
theorem SetKs.there {w : World} {h : Heap} {a : Addr} {ks : List Key} (R : SetKs w h a ks) : ∃ o, h.get? a = some o := by
  obtain ⟨o, _, _, _, _, ho, _⟩ := R
  exact ⟨o, ho⟩
theorem setHO_ok {P : Program} {w : World} {H : Hp} {h : Heap} {a : Addr} {ks : List Key} (R : SetKs w h a ks) : ObjOk P w H h a (setHO w a ks) :=
  ⟨R, R.there, fun h1 h2 z k => z.at k⟩
theorem setHO_at {P : Program} {w : World} {H : Hp} {h : Heap} {a : Addr} {ks : List Key} (hok : HOk P w H h) (e : H a = some (setHO w a ks)) : SetKs w h a ks := by
  have x : ObjOk P w H h a (.ext fun h => SetKs w h a ks) := hok a _ e
  exact x.1
theorem each_keyV (P : Program) (w : World) : ∀ {all : List Key} {us : List Value}, Vals (all.map kV) us → EachIs (fun v k => keyIs k v = true) us all
  | [], _, r => by cases r; exact .nil
  | k :: all, _, r => by
    cases r with
    | cons a b => exact .cons (kV_is (P := P) (w := w) a) (each_keyV P w b)
section
variable {X : Cx}
def rSetKs (K : PySem.W.Frag) (w : World) : List V → Hp → VK → Prop := fun vs H Q => ∃ (a : Addr) (all : List Key), vs = [.ref a] ∧ SqL K H a (all.map kV) ∧ all.length + 1 < scanBound ∧ ∀ p, H p = none → Q (.ref p) (upd H p (setHO w p (firstK all)))
theorem cr_setKs (hc : X.calm = true) : CallR X (.type "set") (rSetKs X.K X.w) := by
  intro pins s σ H vs us Q I r ⟨a, all, e, sq, hb, q⟩
  subst e
  obtain ⟨its, rv, hl, hz⟩ := I.list sq
  rw [Vals.ref1 r]
  refine call_ks (I.ok.hd hc) hl.isList (by simpa using each_keyV X.prog X.w rv) hb fun h' tk S k => ?_
  exact ⟨.ref _, upd H s.heap.objs.size (setHO X.w s.heap.objs.size (firstK all)), I.laid (t' := tk) (fun b u e => k b u (Heap.lt_size e) e) (Nat.le_refl _) (setHO_ok S), rfl, q _ (I.hok.fresh (Nat.le_refl _))⟩
/-- a key as data -/
def keyP : Key → PyData
  | .inl i => .int i
  | .inr x => .str x
def rSortKs (w : World) : List V → Hp → VK → Prop := fun vs H Q => ∃ (p : Addr) (ks : List Key), vs = [.ref p] ∧ H p = some (setHO w p ks) ∧ AllAlike (ks.map keyP) ∧ ∀ bs : List Key, bs.Perm ks → ∀ q, H q = none → Q (.ref q) (upd H q (.lst ((bs.mergeSort (dataLe false keyP)).map kV)))
theorem keyP_reads {h : Heap} {k : Key} {v : Value} (e : keyIs k v = true) : Reads h v (keyP k) [] := by
  rcases keyIs_shape e with ⟨i, t, rfl, rfl⟩ | ⟨x, t, rfl, rfl⟩
  · exact .int _ _
  · exact .str _ _
theorem keyP_depth (k : Key) : (keyP k).depth = 0 := by cases k <;> rfl
theorem keyP_sort (ks : List Key) : Sortable (ks.map keyP) := Sortable.others fun k => by
  cases k
  · exact ⟨(fun z => nomatch z), (fun _ z => nomatch z)⟩
  · exact ⟨(fun z => nomatch z), (fun _ z => nomatch z)⟩
theorem alike_perm {bs ks : List Key} (p : bs.Perm ks) (h : AllAlike (ks.map keyP)) : AllAlike (bs.map keyP) := fun d hd d' hd' =>
  h d ((p.map keyP).mem_iff.mp hd) d' ((p.map keyP).mem_iff.mp hd')
theorem each_perm {α β : Type} {R : α → β → Prop} {l l' : List α} (p : l'.Perm l) : ∀ {ks : List β}, EachIs R l ks → ∃ ks', ks'.Perm ks ∧ EachIs R l' ks' := by
  induction p with
  | nil => exact fun h => ⟨_, List.Perm.refl _, h⟩
  | cons x p ih =>
    intro ks h
    cases h with
    | cons a t =>
      obtain ⟨ks', p', h'⟩ := ih t
      exact ⟨_ :: ks', p'.cons _, .cons a h'⟩
  | swap x y l =>
    intro ks h
    cases h with
    | cons a t =>
      cases t with
      | cons b t => exact ⟨_, List.Perm.swap .., .cons b (.cons a t)⟩
  | trans p1 p2 ih1 ih2 =>
    intro ks h
    obtain ⟨ks1, q1, h1⟩ := ih2 h
    obtain ⟨ks2, q2, h2⟩ := ih1 h1
    exact ⟨ks2, q2.trans q1, h2⟩
theorem each_map2 {α β γ : Type} {R : α → γ → Prop} (f : β → α) : ∀ {l : List β} {ks : List γ}, EachIs (fun e k => R (f e) k) l ks → EachIs R (l.map f) ks
  | _, _, .nil => .nil
  | _, _, .cons a t => .cons a (each_map2 f t)
theorem vals_keys : ∀ {us : List Value} {ks : List Key}, EachIs (fun v k => keyIs k v = true) us ks → Vals (ks.map kV) us
  | _, _, .nil => .nil
  | _, _, .cons (b := k) a t => .cons (by rcases keyIs_shape a with ⟨i, t, rfl, rfl⟩ | ⟨x, t, rfl, rfl⟩ <;> exact ⟨_, rfl⟩) (vals_keys t)
theorem cr_sortKs (hc : X.calm = true) (hu : X.A.units + 64 < cLine) : CallR X (.builtin "sorted") (rSortKs X.w) := by
  intro pins s σ H vs us Q I r ⟨p, ks, e, hp, hal, q⟩
  subst e
  rw [Vals.ref1 r]
  obtain ⟨o, es, ep, t, l, ho, hex, hd, pe, re, nd, hb, hf, hr, hl⟩ := setHO_at I.hok hp
  refine Calls.call_function_entry kind_sorted plain_sorted entry_sorted (args_sorted1 _) ?_
  unfold Builtin.«sorted»
  refine wpAny_bind (m := checkCount "sorted" 1 1 _) (wpAny_pure (wpAny_bind (collect_set (A := X.A.in1) (I.ok.hd hc) ⟨o, ho, hex.1, hd⟩ hf hb hr hl fun s1 out k1 hz g1 o1 pm => ?_)))
  obtain ⟨bs, pb, eb⟩ := each_perm (pm.trans (pe.map (·.2))) (each_map2 (R := fun v k => keyIs k v = true) (fun e : Int × Value => e.2) (re.mono fun _ _ z => z.1))
  have hlen : out.length ≤ sizeLine := by
    rw [pm.length_eq, List.length_map, Array.length_toList]
    exact fits_of_scanBound hb
  refine wpAny_bind (wpAny_newList ?_ hlen)
  have hoL : (s1.heap.push (seqObj "list" out.toArray 0)).get? s1.heap.objs.size = some (seqObj "list" out.toArray 0) := Heap.get?_push_size _ rfl
  refine wpAny_bind (wpAny_holding (list_sort_data (R := fun v k => keyIs k v = true) (enc := keyP) (bs := bs) hoL eb (eb.mono fun v k z => ⟨[], keyP_reads z, List.not_mem_nil⟩) (alike_perm pb hal) (keyP_sort bs) (by rw [← eb.length]; exact hlen)
    (fun b _ => by rw [keyP_depth]; show X.A.units + 1 + 1 + 0 < cLine; omega) fun out2 n2 e2 => ?_))
  obtain ⟨c, he⟩ := sortedHeap_at (vs := out) (out := out2.toArray) hoL
  have hn : H s1.heap.objs.size = none := I.hok.fresh hz
  have hl2 : ((bs.mergeSort (dataLe false keyP)).map kV).length ≤ sizeLine := by
    rw [List.length_map, List.length_mergeSort, ← eb.length]
    exact hlen
  have kp : ∀ b u, s.heap.get? b = some u → (sortedHeap (s1.heap.push (seqObj "list" out.toArray 0)) s1.heap.objs.size out out2.toArray).get? b = some u := fun b u e => by
    have z := k1 b u e
    have lt := Heap.lt_size z
    rw [sortedHeap_old (Nat.ne_of_lt lt) (by rw [Heap.size_push]; exact Nat.lt_succ_of_lt lt)]
    exact Heap.get?_push_of_some _ z
  refine wpAny_pure ⟨_, rfl, .ref s1.heap.objs.size, _, ?_, rfl, q bs pb s1.heap.objs.size hn⟩
  obtain ⟨hp1, ge1, dr1, tk1, os1⟩ := s1
  cases g1
  cases o1
  have J : Inv X pins σ (upd H hp1.objs.size (.lst ((bs.mergeSort (dataLe false keyP)).map kV))) { s with heap := sortedHeap (hp1.push (seqObj "list" out.toArray 0)) hp1.objs.size out out2.toArray, drawn := dr1, toks := tk1 } :=
    I.call (ch := []) (Un.laid kp hz hn) (I.hok.laid kp hz ⟨hl2, out2, c, vals_keys e2, he⟩) I.bare (fun _ z => nomatch z)
  exact J
def keyD : Key → D
  | .inl i => .int i
  | .inr x => .str x
theorem keyD_rd {K : PySem.W.Frag} {H : Hp} {k : Key} {v : V} : RD K H (keyD k) v ↔ v = kV k := by
  cases k <;> exact Iff.rfl
theorem rds_keys {K : PySem.W.Frag} {H : Hp} : ∀ {all : List Key} {xs : List V}, RDs K H (all.map keyD) xs → xs = all.map kV
  | [], _, r => by cases r; rfl
  | k :: all, _, r => by
    obtain ⟨v, r', rfl, h1, h2⟩ := r
    rw [keyD_rd.mp h1, rds_keys h2]
    rfl
theorem keys_rds {K : PySem.W.Frag} {H : Hp} : ∀ all : List Key, RDs K H (all.map keyD) (all.map kV)
  | [] => .nil
  | k :: all => RDs.cons (keyD_rd.mpr rfl) (keys_rds all)
theorem fold_key {k : Key} : ∀ (all acc : List Key), k ∈ all.foldl addK acc → k ∈ acc ∨ k ∈ all
  | [], acc, h => .inl h
  | j :: all, acc, h => by
    rcases fold_key all (addK acc j) h with z | z
    · unfold addK at z
      split at z
      · exact .inl z
      · rcases List.mem_append.mp z with z | z
        · exact .inl z
        · exact .inr (by rw [List.mem_singleton.mp z]; exact List.mem_cons_self)
    · exact .inr (List.mem_cons_of_mem _ z)
theorem alike_first {all : List Key} (h : AllAlike (all.map keyP)) : AllAlike ((firstK all).map keyP) := fun d hd d' hd' => by
  have up : ∀ x, x ∈ (firstK all).map keyP → x ∈ all.map keyP := fun x hx => by
    obtain ⟨k, hk, rfl⟩ := List.mem_map.mp hx
    rcases fold_key all [] hk with z | z
    · cases z
    · exact List.mem_map.mpr ⟨k, z, rfl⟩
  exact h d (up d hd) d' (up d' hd')
/-- sorted(set(e)) -/
def dSortSet (t : DTE) : DTE := fun E τ S Q => t E τ S fun d S1 => ∃ all : List Key, (d = .rol (all.map keyD) ∨ ∃ a, d = .ref a ∧ S1 a = some (.lst (all.map keyD))) ∧ all.length + 1 < scanBound ∧ AllAlike (all.map keyP) ∧
  ∀ bs : List Key, bs.Perm (firstK all) → newO S1 (.lst ((bs.mergeSort (dataLe false keyP)).map keyD)) fun p S' => Q (.ref p) S'
variable {x y : Str} {e : Expr} {p p' pos pos' : Pos} {t : DTE}
theorem de_sortSet (hc : X.calm = true) (hu : X.A.units + 64 < cLine) (hgs : Gl X "sorted") (hms : X.mg "sorted" = none) (hgt : Gl X "set") (hmt : X.mg "set" = none) (hbs : bootBuiltins "sorted" = some (.builtin "sorted")) (hbt : bootBuiltins "set" = some (.type "set")) (he : DE X e t)
    (h1 : starEach [e] X.env = (false, eval e X.env) :: starEach [] X.env := by rfl) (h2 : starEach [Expr.Call (.Name "set" p') [e] [] pos'] X.env = (false, eval (Expr.Call (.Name "set" p') [e] [] pos') X.env) :: starEach [] X.env := by rfl) :
    DE X (.Call (.Name "sorted" p) [.Call (.Name "set" p') [e] [] pos'] [] pos) (dSortSet t) := by
  refine ⟨fun E E' τ S Q Q' hE k q => he.mono _ _ _ _ _ _ hE (fun d S1 ⟨all, a1, a2, a3, a4⟩ => ⟨all, a1, a2, a3, fun bs pb q hq => k _ _ (a4 bs pb q hq)⟩) q, pE_imp (pe_callB (cr_sortKs hc hu) hgs hms hbs (pa_cons (pe_callTy (cr_setKs hc) hgt hmt hbt (pa_cons he.run pa_nil h1) (by decide) (by decide) h1 rfl) pa_nil h2) (by decide) (by decide) h2 rfl) fun σ H Q ⟨E, τ, S, w, rl, q⟩ => ?_⟩
  refine he.to w rl q fun d S1 v H1 le w1 r1 rd ⟨all, hd, hb, hal, h⟩ => ?_
  obtain ⟨a, rfl, sq⟩ : ∃ a, v = .ref a ∧ SqL X.K H1 a (all.map kV) := by
    rcases hd with rfl | ⟨a, rfl, ea⟩
    · obtain ⟨a, xs, rfl, sq, rs⟩ : ∃ a xs, v = V.ref a ∧ SqR X.K H1 a xs ∧ RDs X.K H1 (all.map keyD) xs := rd
      exact ⟨a, rfl, rds_keys rs ▸ sq.l⟩
    · obtain ⟨xs, e0, rs⟩ : ∃ xs, H1 a = some (.lst xs) ∧ RDs X.K H1 (all.map keyD) xs := r1.rep a _ ea
      exact ⟨a, rd, rds_keys rs ▸ .of e0⟩
  refine ⟨a, all, rfl, sq, hb, fun p hp => ⟨p, firstK all, rfl, upd_same, alike_first hal, fun bs pb q hq => ?_⟩⟩
  have rg := r1.rep.garb (u := setHO X.w p (firstK all)) hp
  exact h bs pb q (rg.free hq) _ _ (le.trans ((LeH.new hp).trans (LeH.new hq))) (rg.new hq ⟨_, upd_same, keys_rds _⟩) rfl
end
end Dt
set_option maxRecDepth 100000
set_option maxHeartbeats 4000000
/-! DatW: in; comprehensions whose list is a value; dicts' methods. -/
namespace Dt
open PySem PySem.Spec L2 PySem.W PyProof.Rows

/-! ### in -/
@[simp] def dIn (neg : Bool) : R2D := fun d e S Q => match e with
  | .tup ds => dInF neg d ds S Q
  | .rol ds => dInQ neg d ds S Q
  | .ref a => (match S a with
    | some (.lst ds) => dInQ neg d ds S Q
    | some (.dK kvs) => opt (dkey d) fun k => Q (.bl (if neg then !(lk kvs k).isSome else (lk kvs k).isSome)) S
    | some (.dN kvs) => okT d = true ∧ Q (.bl (if neg then !(lk kvs d).isSome else (lk kvs d).isSome)) S
    | _ => False)
  | _ => False
theorem dIn_mono (neg : Bool) : Mono2 (dIn neg) := fun x y S Q Q' k h => by
  cases y with
  | tup ds => exact ⟨h.1, h.2.1, k _ _ h.2.2⟩
  | rol ds => exact dInQ_mono k h
  | ref a =>
    revert h
    show (match S a with | some (.lst ds) => _ | some (.dK kvs) => _ | some (.dN kvs) => _ | _ => False) → (match S a with | some (.lst ds) => _ | some (.dK kvs) => _ | some (.dN kvs) => _ | _ => False)
    split
    · exact fun h => dInQ_mono k h
    · exact fun h => opt_mono (fun _ z => k _ _ z) h
    · exact fun h => ⟨h.1, k _ _ h.2⟩
    · exact fun h => h
  | _ => exact h.elim
section
variable {X : Cx}
theorem od_in_neg (neg : Bool) (op : CmpOp) (he : op = if neg then .NotIn else .In) (hu : X.A.units + 120 < cLine) : OpR X (compareOp op) (upO X.w X.K (dIn neg)) := by
  rintro pins s σ H x y v u Q I rx ry ⟨d, e, S, rep, rd, re, h⟩
  have go : rIn X.K neg x y H Q → wpAny (model X.prog X.w) X.A (compareOp op v u) (EP X pins σ Q) X.xe s := fun z => by
    subst he
    cases neg
    · exact op_in_seq pins s σ H x y v u Q I rx ry z
    · exact op_notIn_seq pins s σ H x y v u Q I rx ry z
  have lst : ∀ {ds : List D}, seqD S e = some ds → dInQ neg d ds S (fun z S' => ∀ v H', LeH H H' → Rep X.w X.K S' H' → RD X.K H' z v → Q v H') → wpAny (model X.prog X.w) X.A (compareOp op v u) (EP X pins σ Q) X.xe s := fun {ds} es ⟨b, r, q⟩ => by
    rcases r with ⟨f, g, rfl⟩ | ⟨hd, hs, rfl⟩
    · obtain ⟨p, xs, rfl, sq, rs⟩ := seqD_rd rep re es
      exact go ⟨p, xs, rfl, .inl sq.l, flD_V rd f, flDs_V rs g, by rw [inF_V rd f rs g]; exact q _ H (LeH.refl H) rep rfl⟩
    · obtain ⟨p2, s2⟩ := seqD_pd es hs
      rw [← inP_dec hd.1 fun e he => (hs e he).1] at q
      subst he
      cases neg
      · exact (od_inL (X := X) (by omega)).run pins s σ H x y v u Q I rx ry ⟨d, e, S, rep, rd, re, _, _, hd.pd S, p2, hd.shaped (by decide), s2, q⟩
      · exact (od_ninL (X := X) (by omega)).run pins s σ H x y v u Q I rx ry ⟨d, e, S, rep, rd, re, _, _, hd.pd S, p2, hd.shaped (by decide), s2, q⟩
  cases e with
  | tup ds =>
    obtain ⟨p, xs, rfl, sq, rs⟩ : ∃ p xs, y = V.ref p ∧ SqT X.K H p xs ∧ RDs X.K H ds xs := re
    exact go ⟨p, xs, rfl, .inr sq, flD_V rd h.1, flDs_V rs h.2.1, by rw [inF_V rd h.1 rs h.2.1]; exact h.2.2 _ H (LeH.refl H) rep rfl⟩
  | rol ds => exact lst rfl h
  | ref a =>
    revert h
    show (match S a with | some (.lst ds) => _ | some (.dK kvs) => _ | some (.dN kvs) => _ | _ => False) → _
    split
    · rename_i ds ea
      exact lst (by simp [ea])
    · rename_i kvs ea
      intro h
      cases re
      obtain ⟨ws, e0, rk⟩ : ∃ ws, H a = some (.dK ws) ∧ RKs X.K H kvs ws := rep a _ ea
      obtain ⟨k, ek, h⟩ := opt_ex h
      have ey := dkey_rd ek rd
      subst ey
      cases ry
      have g : DGet H a (kV k) (valV ws k) := DGet.k e0
      subst he
      cases neg
      · exact d_in (by omega) I g rx fun s3 I3 => ⟨.bl _, H, I3, rfl, by rw [rk.isSome k]; exact h _ H (LeH.refl H) rep rfl⟩
      · exact d_notIn (by omega) I g rx fun s3 I3 => ⟨.bl _, H, I3, rfl, by rw [rk.isSome k]; exact h _ H (LeH.refl H) rep rfl⟩
    · rename_i kvs ea
      rintro ⟨hk, h⟩
      cases re
      cases ry
      obtain ⟨xs, dd, rx', hsys, hl, nd, mu⟩ := dn_open I (rep a _ ea)
      obtain ⟨nk, b, ek, _, rfl, rfl, his⟩ := okT_key I hk rd rx
      rw [← rx'.isSome ek] at h
      subst he
      cases neg
      · exact in_keyed (knd := nestedKind X.prog X.w) (show X.A.units + 1 + 8 < cLine by omega) his hsys ⟨xs, dd, rfl⟩ ⟨.bl _, H, I.tok _, rfl, by rw [valueAt_pairsH, Option.isSome_map]; exact h _ H (LeH.refl H) rep rfl⟩
      · exact notIn_keyed (knd := nestedKind X.prog X.w) (show X.A.units + 1 + 8 < cLine by omega) his hsys ⟨xs, dd, rfl⟩ ⟨.bl _, H, I.tok _, rfl, by rw [valueAt_pairsH, Option.isSome_map]; exact h _ H (LeH.refl H) rep rfl⟩
    · exact fun h => h.elim
  | _ => exact h.elim
theorem od_in (hu : X.A.units + 120 < cLine) : OpD X (compareOp .In) (dIn false) := ⟨dIn_mono false, od_in_neg false .In rfl hu⟩
theorem od_nin (hu : X.A.units + 120 < cLine) : OpD X (compareOp .NotIn) (dIn true) := ⟨dIn_mono true, od_in_neg true .NotIn rfl hu⟩
end
/-! ### comprehensions whose list is a value -/
theorem upo_comm {S : DH} {p q : Addr} {o u : Ob} (h : p ≠ q) : upo (upo S p o) q u = upo (upo S q u) p o := by
  funext b
  unfold upo
  split
  · rename_i e
    split
    · rename_i e'
      exact absurd (e'.symm.trans e) h
    · rfl
  · rfl
theorem lcF_inv {g : DTG} {tt : DTT} {te : DTE} {E : DW} {τ : DSt} {G : DH → Prop} {ds : List D} {S : DH} {Q : DK} (I : Nat → List D → DH → Prop) (h0 : I 0 [] S)
    (hG : ∀ i acc S1 p, i ≤ ds.length → I i acc S1 → S1 p = none → G (upo S1 p (.lst acc)))
    (hs : ∀ i d acc S1 p (N : DH → Prop), ds[i]? = some d → I i acc S1 → S1 p = none → acc.length < 16777216 → (∀ acc' S2, S2 p = none → I (i + 1) acc' S2 → acc'.length ≤ acc.length + 1 → N (upo S2 p (.lst acc'))) →
      g d τ (upo S1 p (.lst acc)) fun τ1 S2 => tt E τ1 S2 fun b S3 => if b = true then te E τ1 S3 fun y S4 => (match S4 p with | some (.lst acc) => acc.length < 16777216 ∧ N (upo S4 p (.lst (acc ++ [y]))) | _ => False) else N S3)
    (hl : ds.length < sizeLine) (hd : ∀ acc S1, I ds.length acc S1 → Q (.rol acc) S1) : newO S (.lst []) fun p S1 => dLcL g tt te E τ G p (fzK Q (.ref p)) ds S1 := by
  intro p hp
  have go : ∀ (m i : Nat) (acc : List D) (S1 : DH), i + m = ds.length → acc.length ≤ i → S1 p = none → I i acc S1 → dLcL g tt te E τ G p (fzK Q (.ref p)) (ds.drop i) (upo S1 p (.lst acc)) := by
    intro m
    induction m with
    | zero =>
      intro i acc S1 e _ hp1 hi
      have e' : i = ds.length := by omega
      subst e'
      rw [List.drop_length]
      exact ⟨hG _ _ _ _ (Nat.le_refl _) hi hp1, fzK_new hp1 (hd _ _ hi)⟩
    | succ m ih =>
      intro i acc S1 e ha hp1 hi
      have hlt : i < ds.length := by omega
      have ed : ds[i]? = some ds[i] := List.getElem?_eq_getElem hlt
      rw [drop_at ed]
      refine ⟨hG _ _ _ _ (by omega) hi hp1, ?_⟩
      have := hs i _ acc S1 p (dLcL g tt te E τ G p (fzK Q (.ref p)) (ds.drop (i + 1))) ed hi hp1 (by rw [line_lt] at hl; omega) fun acc' S2 h2 hi2 hle => ih (i + 1) acc' S2 (by omega) (by omega) h2 hi2
      simp only [line_lt] at this ⊢
      exact this
  have := go ds.length 0 [] S (by omega) (Nat.le_refl _) hp h0
  rwa [List.drop_zero] at this
/-- [f d for d in ds if c d], where nothing changes -/
theorem lcF_of {g : DTG} {tt : DTT} {te : DTE} {E : DW} {τ : DSt} {G : DH → Prop} {ds : List D} {S : DH} {Q : DK} (c : D → Bool) (f : D → D)
    (hG : ∀ p acc, S p = none → G (upo S p (.lst acc)))
    (hs : ∀ d ∈ ds, ∀ acc p (N : DH → Prop), S p = none → acc.length < 16777216 → (c d = true → N (upo S p (.lst (acc ++ [f d])))) → (c d = false → N (upo S p (.lst acc))) →
      g d τ (upo S p (.lst acc)) fun τ1 S2 => tt E τ1 S2 fun b S3 => if b = true then te E τ1 S3 fun y S4 => (match S4 p with | some (.lst acc) => acc.length < 16777216 ∧ N (upo S4 p (.lst (acc ++ [y]))) | _ => False) else N S3)
    (hl : ds.length < sizeLine) (hq : Q (.rol ((ds.filter c).map f)) S) : newO S (.lst []) fun p S1 => dLcL g tt te E τ G p (fzK Q (.ref p)) ds S1 := by
  refine lcF_inv (fun i acc S1 => S1 = S ∧ acc = ((ds.take i).filter c).map f) ⟨rfl, rfl⟩ (fun i acc S1 p _ ⟨e, _⟩ hp => by subst e; exact hG p acc hp) (fun i d acc S1 p N ed ⟨e1, e2⟩ hp ha hN => ?_) hl fun acc S1 ⟨e1, e2⟩ => ?_
  · subst e1
    refine hs d (List.mem_of_getElem? ed) acc p N hp ha (fun hc => hN _ _ hp ⟨rfl, ?_⟩ (by simp)) fun hc => hN _ _ hp ⟨rfl, ?_⟩ (by simp)
    · rw [List.take_succ, ed, e2]
      simp [hc]
    · rw [List.take_succ, ed, e2]
      simp [hc]
  · subst e1 e2
    rw [List.take_length]
    exact hq
/-- [f d for d in ds], where nothing changes -/
theorem lcF_map {g : DTG} {te : DTE} {E : DW} {τ : DSt} {G : DH → Prop} {ds : List D} {S : DH} {Q : DK} (f : D → D)
    (hG : ∀ p acc, S p = none → G (upo S p (.lst acc)))
    (hs : ∀ d ∈ ds, ∀ acc p (N : DH → Prop), S p = none → acc.length < 16777216 → N (upo S p (.lst (acc ++ [f d]))) →
      g d τ (upo S p (.lst acc)) fun τ1 S2 => te E τ1 S2 fun y S4 => (match S4 p with | some (.lst acc) => acc.length < 16777216 ∧ N (upo S4 p (.lst (acc ++ [y]))) | _ => False))
    (hl : ds.length < sizeLine) (hq : Q (.rol (ds.map f)) S) : newO S (.lst []) fun p S1 => dLcL g dYes te E τ G p (fzK Q (.ref p)) ds S1 := by
  have hf : ds.filter (fun _ => true) = ds := List.filter_eq_self.mpr fun _ _ => rfl
  refine lcF_of (fun _ => true) f hG (fun d hd acc p N hp ha h1 _ => ?_) hl (by rw [hf]; exact hq)
  simpa only [dYes, if_true] using hs d hd acc p N hp ha (h1 rfl)
/-! ### sorted(set(e)) -/
/-- sorted, each once -/
def ssD (ds : List D) : List D := srtD ds.eraseDups
theorem ss_mem {ds : List D} {d : D} : d ∈ ssD ds ↔ d ∈ ds := by unfold ssD; rw [srt_mem, List.mem_eraseDups]
theorem nodup_eraseDups {α : Type} [BEq α] [LawfulBEq α] : ∀ (n : Nat) (l : List α), l.length ≤ n → l.eraseDups.Nodup
  | _, [], _ => by simp
  | 0, _ :: _, h => by simp at h
  | n + 1, a :: l, h => by
    rw [List.eraseDups_cons]
    refine List.nodup_cons.mpr ⟨fun z => ?_, nodup_eraseDups n _ (Nat.le_trans (List.length_filter_le ..) (by simpa using h))⟩
    rw [List.mem_eraseDups] at z
    simpa using (List.mem_filter.mp z).2
theorem ss_nodup (ds : List D) : (ssD ds).Nodup := (srt_perm _).nodup_iff.mpr (nodup_eraseDups _ _ (Nat.le_refl _))
theorem ss_len (ds : List D) : (ssD ds).length ≤ ds.length := by
  unfold ssD
  rw [srt_len]
  have go : ∀ (n : Nat) (l : List D), l.length ≤ n → l.eraseDups.length ≤ l.length := fun n => by
    induction n with
    | zero => intro l h; cases l <;> simp at h ⊢
    | succ n ih =>
      intro l h
      cases l with
      | nil => simp
      | cons a l =>
        rw [List.eraseDups_cons]
        have := ih (l.filter fun b => !b == a) (Nat.le_trans (List.length_filter_le ..) (by simpa using h))
        have := List.length_filter_le (fun b => !b == a) l
        simp
        omega
  exact go _ _ (Nat.le_refl _)
theorem perm_of_mem {α : Type} [DecidableEq α] {as bs : List α} (ha : as.Nodup) (hb : bs.Nodup) (h : ∀ x, x ∈ as ↔ x ∈ bs) : as.Perm bs := by
  rw [List.perm_iff_count]
  intro x
  rw [ha.count, hb.count]
  simp [h x]
/-- two lists of the same things, sorted, each once -/
theorem ss_one {t : Ty} {as bs : List D} (ht : ∀ d ∈ as, hasTy t d = true) (h : ∀ x, x ∈ as ↔ x ∈ bs) : ssD as = ssD bs :=
  srt_one (t := t) (fun d hd => ht d (List.mem_eraseDups.mp hd)) (perm_of_mem (nodup_eraseDups _ _ (Nat.le_refl _)) (nodup_eraseDups _ _ (Nat.le_refl _)) fun x => by rw [List.mem_eraseDups, List.mem_eraseDups, h])
/-- a list that rises, with just these things -/
theorem ss_is {t : Ty} {as bs : List D} (ht : ∀ d ∈ as, hasTy t d = true) (nd : bs.Nodup) (hs : bs.Pairwise fun a b => ltD b a = false) (h : ∀ x, x ∈ as ↔ x ∈ bs) : ssD as = bs :=
  sorted_one (t := t) (fun d hd => ht d (ss_mem.mp hd)) (srt_sorted _) hs (perm_of_mem (ss_nodup as) nd fun x => by rw [ss_mem, h])
theorem fold_mem2 {k : Key} : ∀ (all acc : List Key), k ∈ acc ∨ k ∈ all → k ∈ all.foldl addK acc
  | [], acc, h => h.elim id fun z => nomatch z
  | j :: all, acc, h => by
    refine fold_mem2 all (addK acc j) ?_
    rcases h with h | h
    · left
      unfold addK
      split
      · exact h
      · exact List.mem_append_left _ h
    · rcases List.mem_cons.mp h with rfl | h
      · left
        unfold addK
        split
        · rename_i z
          exact any_key.mp z
        · exact List.mem_append_right _ (List.mem_singleton.mpr rfl)
      · exact .inr h
theorem first_mem {k : Key} {all : List Key} : k ∈ firstK all ↔ k ∈ all := ⟨fun h => (fold_key all [] h).elim (fun z => nomatch z) id, fun h => fold_mem2 all [] (.inr h)⟩
theorem addK_nodup {ks : List Key} {k : Key} (h : ks.Nodup) : (addK ks k).Nodup := by
  unfold addK
  split
  · exact h
  · rename_i z
    exact List.nodup_append.mpr ⟨h, List.nodup_cons.mpr ⟨List.not_mem_nil, .nil⟩, fun a ha b hb e => z (any_key.mpr (by rw [← List.mem_singleton.mp hb, ← e]; exact ha))⟩
theorem first_nodup (all : List Key) : (firstK all).Nodup := by
  have go : ∀ (all acc : List Key), acc.Nodup → (all.foldl addK acc).Nodup := fun all => by
    induction all with
    | nil => exact fun _ h => h
    | cons k all ih => exact fun acc h => ih _ (addK_nodup h)
  exact go all [] .nil
theorem keyD_inj {a b : Key} (h : keyD a = keyD b) : a = b := by
  cases a <;> cases b <;> simp [keyD] at h <;> rw [h]
theorem keyP_D (k : Key) : keyP k = toP (keyD k) := by cases k <;> rfl
theorem nodup_mapD {ks : List Key} (h : ks.Nodup) : (ks.map keyD).Nodup := by
  rw [List.nodup_iff_pairwise_ne, List.pairwise_map]
  exact (List.nodup_iff_pairwise_ne.mp h).imp fun h e => h (keyD_inj e)
theorem keys_of {t : Ty} (ht : t = .int ∨ t = .str) : ∀ {xs : List D}, (∀ d ∈ xs, hasTy t d = true) → ∃ all : List Key, xs = all.map keyD
  | [], _ => ⟨[], rfl⟩
  | d :: xs, h => by
    obtain ⟨all, e⟩ := keys_of ht (xs := xs) fun x hx => h x (List.mem_cons_of_mem _ hx)
    have hd := h d (List.mem_cons_self ..)
    rcases ht with rfl | rfl
    · cases d <;> first | (simp [hasTy] at hd; done) | exact ⟨_ :: all, by rw [e]; exact List.map_cons (f := keyD) (a := Sum.inl _) |>.symm⟩
    · cases d <;> first | (simp [hasTy] at hd; done) | exact ⟨_ :: all, by rw [e]; exact List.map_cons (f := keyD) (a := Sum.inr _) |>.symm⟩
def scTy (b : Bool) : Ty := if b then .int else .str
@[simp] def dSortSetM (t : DTE) : DTE := fun E τ S Q => t E τ S fun d S1 => opt (seqD S1 d) fun xs => (∃ b, ∀ d ∈ xs, hasTy (scTy b) d = true) ∧ xs.length + 1 < scanBound ∧ newO S1 (.lst (ssD xs)) fun p S' => Q (.ref p) S'
@[simp] def dSortSetF (t : DTE) : DTE := fun E τ S Q => t E τ S fun d S1 => opt (seqD S1 d) fun xs => (∃ b, ∀ d ∈ xs, hasTy (scTy b) d = true) ∧ xs.length + 1 < scanBound ∧ Q (.rol (ssD xs)) S1
theorem key_sorted {t : Ty} {bs : List Key} : ((bs.mergeSort (dataLe false keyP)).map keyD).Pairwise fun a b => ltD b a = false := by
  rw [List.pairwise_map]
  have e : (dataLe false keyP) = fun a b : Key => !ltD (keyD b) (keyD a) := by
    funext a b
    show (!dataLt (keyP b) (keyP a)) = _
    rw [keyP_D, keyP_D]
    rfl
  rw [e]
  have := List.pairwise_mergeSort (le := fun a b : Key => !ltD (keyD b) (keyD a)) (fun a b c h1 h2 => by
    cases e : ltD (keyD c) (keyD a) with
    | false => rfl
    | true =>
      rcases ltD_neg (y := keyD b) e with z | z
      · rw [z] at h2; cases h2
      · rw [z] at h1; cases h1) (fun a b => by
    cases e : ltD (keyD b) (keyD a) with
    | false => rfl
    | true => rw [ltD_asymm e]; rfl) bs
  exact this.imp fun h => by simpa using h
section
variable {X : Cx} {x y : Str} {e : Expr} {p p' pos pos' : Pos} {t : DTE}
theorem de_sortSetM (hc : X.calm = true) (hu : X.A.units + 64 < cLine) (hgs : Gl X "sorted") (hms : X.mg "sorted" = none) (hgt : Gl X "set") (hmt : X.mg "set" = none) (hbs : bootBuiltins "sorted" = some (.builtin "sorted")) (hbt : bootBuiltins "set" = some (.type "set")) (he : DE X e t)
    (h1 : starEach [e] X.env = (false, eval e X.env) :: starEach [] X.env := by rfl) (h2 : starEach [Expr.Call (.Name "set" p') [e] [] pos'] X.env = (false, eval (Expr.Call (.Name "set" p') [e] [] pos') X.env) :: starEach [] X.env := by rfl) :
    DE X (.Call (.Name "sorted" p) [.Call (.Name "set" p') [e] [] pos'] [] pos) (dSortSetM t) := by
  refine (de_sortSet hc hu hgs hms hgt hmt hbs hbt he h1 h2).sub (fun E E' τ S Q Q' hE k q => he.mono _ _ _ _ _ _ hE (fun d S1 q => opt_mono (fun _ q => ⟨q.1, q.2.1, fun p hp => k _ _ (q.2.2 p hp)⟩) q) q) fun E τ S Q q => he.mono _ _ _ _ _ _ (fun _ _ _ _ z => z) (fun d S1 q => ?_) q
  obtain ⟨xs, ex, ⟨b, hb⟩, hl, q⟩ := opt_ex q
  have ht : scTy b = .int ∨ scTy b = .str := by cases b; exact .inr rfl; exact .inl rfl
  obtain ⟨all, rfl⟩ := keys_of ht hb
  refine ⟨all, ?_, by simpa using hl, fun p hp q hq => ?_, fun bs pb p hp => ?_⟩
  · cases d with
    | rol ys => cases ex; exact .inl rfl
    | ref a =>
      simp only [seqD_ref] at ex
      split at ex
      · rename_i ys ea
        cases ex
        exact .inr ⟨a, rfl, ea⟩
      · cases ex
    | _ => simp at ex
  · obtain ⟨j, hj, rfl⟩ := List.mem_map.mp hp
    obtain ⟨k, hk, rfl⟩ := List.mem_map.mp hq
    rw [keyP_D, keyP_D]
    exact hasTy_alike _ _ _ (hb _ (List.mem_map_of_mem hj)) (hb _ (List.mem_map_of_mem hk))
  · have e : (bs.mergeSort (dataLe false keyP)).map keyD = ssD (all.map keyD) := by
      refine (ss_is (t := scTy b) hb (nodup_mapD ((List.mergeSort_perm ..).nodup_iff.mpr (pb.nodup_iff.mpr (first_nodup all)))) (key_sorted (t := .int)) fun x => ?_).symm
      rw [List.mem_map, List.mem_map]
      constructor
      · rintro ⟨k, hk, rfl⟩
        exact ⟨k, (List.mergeSort_perm ..).mem_iff.mpr (pb.mem_iff.mpr (first_mem.mpr hk)), rfl⟩
      · rintro ⟨k, hk, rfl⟩
        exact ⟨k, first_mem.mp (pb.mem_iff.mp ((List.mergeSort_perm ..).mem_iff.mp hk)), rfl⟩
    rw [e]
    exact q p hp
theorem de_sortSetF (hc : X.calm = true) (hu : X.A.units + 64 < cLine) (hgs : Gl X "sorted") (hms : X.mg "sorted" = none) (hgt : Gl X "set") (hmt : X.mg "set" = none) (hbs : bootBuiltins "sorted" = some (.builtin "sorted")) (hbt : bootBuiltins "set" = some (.type "set")) (he : DE X e t)
    (h1 : starEach [e] X.env = (false, eval e X.env) :: starEach [] X.env := by rfl) (h2 : starEach [Expr.Call (.Name "set" p') [e] [] pos'] X.env = (false, eval (Expr.Call (.Name "set" p') [e] [] pos') X.env) :: starEach [] X.env := by rfl) :
    DE X (.Call (.Name "sorted" p) [.Call (.Name "set" p') [e] [] pos'] [] pos) (dSortSetF t) :=
  (de_fz (de_sortSetM hc hu hgs hms hgt hmt hbs hbt he h1 h2)).sub (fun E E' τ S Q Q' hE k q => he.mono _ _ _ _ _ _ hE (fun d S1 q => opt_mono (fun _ q => ⟨q.1, q.2.1, k _ _ q.2.2⟩) q) q) fun E τ S Q q => he.mono _ _ _ _ _ _ (fun _ _ _ _ z => z) (fun d S1 q => opt_mono (fun _ q => ⟨q.1, q.2.1, fun p hp => fzK_new hp q.2.2⟩) q) q
end
end Dt
set_option maxRecDepth 100000
set_option maxHeartbeats 4000000
/-! DatX: y = [..] whose list is a value; ends of defs. -/
namespace Dt
open PySem PySem.Spec L2 PySem.W PyProof.Rows
theorem hu64 {A : Around} (h : A.units + 120 < cLine) : A.units + 64 < cLine := by omega
/-- what a def's body ends in -/
abbrev dEnd (Q : DK) (E : DXK) : DEnds := { nx := fun _ S' => Rt Q .non S', rt := Rt Q, xe := fun C fs _ S' => ∃ S'', Sub S'' S' ∧ E C fs S'' }
theorem fzK_at {X : Cx} {pins : List (Addr × Obj)} {σ : L2.St} {s : Shared} {S : DH} {H : Hp} {d : D} {v : V} {Q : DK} (I : Inv X pins σ H s) (r : Rep X.w X.K S H) (rd : RD X.K H d v) (h : fzK Q d S) :
    ∃ d' S' H', Inv X pins σ H' s ∧ LeH H H' ∧ Rep X.w X.K S' H' ∧ RD X.K H' d' v ∧ Q d' S' := by
  cases d with
  | ref a =>
    obtain rfl : v = .ref a := rd
    revert h
    show (match S a with | some (.lst ds) => _ | _ => False) → _
    split
    · rename_i ds ea
      intro h
      obtain ⟨xs, eh, rs⟩ : ∃ xs, H a = some (.lst xs) ∧ RDs X.K H ds xs := r a _ ea
      obtain ⟨o, I1⟩ := inv_frz I eh
      exact ⟨.rol ds, delo S a, _, I1, LeH.frz eh, rep_frz r eh, ⟨a, xs, rfl, .inl ⟨o, upd_same⟩, rs.le (LeH.frz eh)⟩, h⟩
    · exact fun h => h.elim
  | _ => exact ⟨_, S, H, I, LeH.refl H, r, rd, h⟩
section
variable {X : Cx} {tg iter elt : Expr} {ifs : List Expr} {scope : Scope} {own : List (Str × Nat)} {pos spos py : Pos} {ti : DTI} {g : DTG} {tt : DTT} {te : DTE}
theorem ds_setLcF {i : Nat} {y : Str} (hc : X.calm = true) (hN : X.N.Nodup) (hy : X.N[i]? = some y) (hyl : X.env.scope.names.lookup y = some .local)
    (hsw : swapsWith (.ListComp elt [⟨tg, iter, ifs, 0⟩] scope pos) (some (.Name y py)) spos.line X.env = pure true) (hi : DI X tg iter ti) (ok : BlkOk X.N X.env.scope scope own) (B : Blk X scope (own.map (·.2)) elt tg ifs g tt te)
    (hs : ∀ x, foldedSetIterable iter X.env x = pure x := by intro _; rfl) : DS X (.Assign [.Name y py] (.ListComp elt [⟨tg, iter, ifs, 0⟩] scope pos) spos) (dAsg (dFz (dLc ti g tt te (own.map (·.2)))) (dGN i)) := by
  have h0 := ds_setLc (g := g) (tt := tt) (te := te) hc hN hy hyl hsw hi ok B hs
  have m0 := dLc_mono hi B
  refine ⟨fun A B' τ S le q => m0 _ _ _ _ _ _ le.xe (fzK_mono fun _ _ z => le.nx _ _ z) q, ⟨fun pins s σ H D I ⟨E, τ, S, w, r, q⟩ => ?_⟩⟩
  have hlen : i < τ.length := by
    rw [r.st.len, I.len]
    exact (List.getElem?_eq_some_iff.mp hy).1
  refine PySem.wpAny_mono (h0.run.run pins s σ H { D with nx := fun σ' H' => ∃ τ' S' d, LeH H H' ∧ Rel X.w X.K τ' S' σ' H' ∧ τ' = τ.set i (some d) ∧ fzK (fun d S' => ∀ σ' H', LeH H H' → Rel X.w X.K (τ.set i (some d)) S' σ' H' → D.nx σ' H') d S' } I ⟨E, τ, S, w, r, ?_⟩) (fun fl s' hs => ?_) fun e s' hs => hs
  · exact m0 _ _ _ _ _ _ (fun _ _ _ _ z => z) (fun d S' z => show (dnE X.w X.K H _ E).nx _ _ from fun σ' H' le r' => ⟨_, S', d, le, r', rfl, z⟩) q
  · cases fl with
    | next =>
      obtain ⟨σ', H', J, τ', S', d, le, r', rfl, z⟩ := hs
      obtain ⟨v, ev, rv⟩ := r'.st.get i d (by rw [List.getElem?_set]; simp [hlen])
      obtain ⟨d', S2, H2, J2, le2, rp2, rd2, q2⟩ := fzK_at J r'.rep rv z
      refine ⟨σ', H2, J2, q2 σ' H2 (le.trans le2) ⟨⟨by simpa using r'.st.len, fun j e he => ?_⟩, rp2⟩⟩
      by_cases hj : i = j
      · subst hj
        rw [List.getElem?_set, if_pos rfl, if_pos hlen] at he
        cases he
        exact ⟨v, ev, rd2⟩
      · rw [List.getElem?_set, if_neg hj] at he
        obtain ⟨u, eu, ru⟩ := r'.st.get j e (by rw [List.getElem?_set, if_neg hj]; exact he)
        exact ⟨u, eu, ru.le le2⟩
    | ret u => exact hs
    | brk => exact hs
    | cont => exact hs
end
end Dt
set_option maxRecDepth 100000
set_option maxHeartbeats 4000000
/-! DatY: texts, cuts, names. -/
namespace Dt
open PySem PySem.Spec L2
section
variable {α : Type} {x y z : α} {xs : List α}
@[simp] theorem atI_0 : atI (x :: xs) 0 = some x := atI_nat (j := 0) rfl
@[simp] theorem atI_1 : atI (x :: y :: xs) 1 = some y := atI_nat (j := 1) rfl
@[simp] theorem atI_2 : atI (x :: y :: z :: xs) 2 = some z := atI_nat (j := 2) rfl
end
/-- a name -/
def Nm (y : Str) : Prop := 1 ≤ y.length ∧ y.length ≤ 8 ∧ ∀ c ∈ y.cps.toList, 97 ≤ c ∧ c ≤ 122
theorem Nm.pl {y : Str} (h : Nm y) : Pl 8 y := ⟨h.2.1, fun c hc => Nat.lt_of_le_of_lt (h.2.2 c hc).2 (by decide)⟩
@[simp] theorem cutD_drop (ds : List D) (k : Nat) : cutD ds (some (k : Int)) none = ds.drop k := by
  unfold cutD
  rw [HT.sIx_nat, HT.sIx_none]
  rcases Nat.le_total k ds.length with h | h
  · rw [Nat.min_eq_left h]
    exact List.take_of_length_le (by simp)
  · rw [Nat.min_eq_right h, List.drop_eq_nil_of_le (Nat.le_refl _), List.drop_eq_nil_of_le h]
    simp
@[simp] theorem cutD_take (ds : List D) (k : Nat) : cutD ds none (some (k : Int)) = ds.take k := by
  unfold cutD
  rw [HT.sIx_nat, HT.sIx_none, List.drop_zero, Nat.sub_zero]
  rcases Nat.le_total k ds.length with h | h
  · rw [Nat.min_eq_left h]
  · rw [Nat.min_eq_right h, List.take_of_length_le (Nat.le_refl _), List.take_of_length_le h]
theorem cutS_take (x : Str) (k : Nat) : (cutS x none (some (k : Int))).cps.toList = x.cps.toList.take k := by
  have e : x.length = x.cps.toList.length := by simp [Str.length]
  show (x.cps.toList.drop (HT.sIx x.length 0 none)).take (HT.sIx x.length x.length (some (k : Int)) - HT.sIx x.length 0 none) = _
  rw [HT.sIx_nat, HT.sIx_none, List.drop_zero, Nat.sub_zero, e]
  rcases Nat.le_total k x.cps.toList.length with h | h
  · rw [Nat.min_eq_left h]
  · rw [Nat.min_eq_right h, List.take_of_length_le (Nat.le_refl _), List.take_of_length_le h]
theorem cutS_mid (x : Str) (a b : Nat) (ha : a ≤ b) (hb : b ≤ x.cps.toList.length) : (cutS x (some (a : Int)) (some (b : Int))).cps.toList = (x.cps.toList.drop a).take (b - a) := by
  have e : x.length = x.cps.toList.length := by simp [Str.length]
  show (x.cps.toList.drop (HT.sIx x.length 0 (some (a : Int)))).take (HT.sIx x.length x.length (some (b : Int)) - HT.sIx x.length 0 (some (a : Int))) = _
  rw [HT.sIx_nat, HT.sIx_nat, e, Nat.min_eq_left (Nat.le_trans ha hb), Nat.min_eq_left hb]
theorem str_len (x : Str) : x.length = x.cps.toList.length := by simp [Str.length]
theorem app_tl (x y : Str) : (x ++ y).cps.toList = x.cps.toList ++ y.cps.toList := by
  show (x.cps ++ y.cps).toList = _
  rw [Array.toList_append]
/-- one sign each, joined -/
theorem join_one : ∀ ys : List Str, (∀ y ∈ ys, ∃ c, y = ⟨#[c]⟩ ∧ 97 ≤ c ∧ c ≤ 122) → (Txt.join (.ofString "") ys).cps.toList.length = ys.length ∧ ∀ c ∈ (Txt.join (.ofString "") ys).cps.toList, 97 ≤ c ∧ c ≤ 122 := fun ys h => by
  rw [show Txt.join (.ofString "") ys = Str.join (.ofString "") ys from PySem.StrLaws.glued_eq_join ..]
  exact go ys h
where
  go : ∀ ys : List Str, (∀ y ∈ ys, ∃ c, y = ⟨#[c]⟩ ∧ 97 ≤ c ∧ c ≤ 122) → (Str.join (.ofString "") ys).cps.toList.length = ys.length ∧ ∀ c ∈ (Str.join (.ofString "") ys).cps.toList, 97 ≤ c ∧ c ≤ 122
  | [], _ => ⟨rfl, fun c hc => by cases hc⟩
  | [x], h => by
    obtain ⟨c, rfl, h1, h2⟩ := h x (List.mem_cons_self ..)
    exact ⟨rfl, fun d hd => by rw [List.mem_singleton.mp hd]; exact ⟨h1, h2⟩⟩
  | x :: z :: r, h => by
    obtain ⟨k1, k2⟩ := go (z :: r) fun y hy => h y (List.mem_cons_of_mem _ hy)
    obtain ⟨c, rfl, h1, h2⟩ := h x (List.mem_cons_self ..)
    have e : (Str.join (.ofString "") (⟨#[c]⟩ :: z :: r)).cps.toList = c :: (Str.join (.ofString "") (z :: r)).cps.toList := by
      show ((⟨#[c]⟩ : Str) ++ (Str.ofString "") ++ Str.join (.ofString "") (z :: r)).cps.toList = _
      rw [app_tl, app_tl]
      rfl
    rw [e]
    exact ⟨by simpa using k1, fun d hd => by
      rcases List.mem_cons.mp hd with rfl | hd
      · exact ⟨h1, h2⟩
      · exact k2 d hd⟩
theorem letter_at (j : Nat) (h : j < 26) : (Str.ofString "abcdefghijklmnopqrstuvwxyz").cps.toList[j]? = some (97 + j) := by
  have : ∀ j : Fin 26, (Str.ofString "abcdefghijklmnopqrstuvwxyz").cps.toList[j.val]? = some (97 + j.val) := by decide +kernel
  exact this ⟨j, h⟩
theorem signs_apart (st : Nat) (h : st < 26) : ((List.range 8).map fun k => 97 + (st + 5 * k) % 26).Nodup := by
  have : ∀ st : Fin 26, ((List.range 8).map fun k => 97 + (st.val + 5 * k) % 26).Nodup := by decide +kernel
  exact this ⟨st, h⟩
theorem nodup_of_map {α β : Type} (f : α → β) {l : List α} (h : (l.map f).Nodup) : l.Nodup := List.Pairwise.of_map f (fun _ _ h e => h (congrArg f e)) h
@[simp] theorem cutD_drop1 (ds : List D) (k : Nat) : cutD ds (some ((k : Int) + 1)) none = ds.drop (k + 1) := cutD_drop ds (k + 1)
@[simp] theorem cutD_take1 (ds : List D) (k : Nat) : cutD ds none (some ((k : Int) + 1)) = ds.take (k + 1) := cutD_take ds (k + 1)
theorem dSeq_gen {a b : DTS} {A : DEnds} {τ : DSt} {S : DH} (h : ∀ R, R = b → dSeq a R A τ S) : dSeq a b A τ S := h b rfl
theorem dIf_gen {c : DTT} {a b : DTS} {A : DEnds} {τ : DSt} {S : DH} (h : ∀ R1 R2, R1 = a → R2 = b → dIf c R1 R2 A τ S) : dIf c a b A τ S := h a b rfl rfl
theorem dSeqIf_gen {c : DTT} {a b r : DTS} {A : DEnds} {τ : DSt} {S : DH} (h : ∀ R1 R2 R, R1 = a → R2 = b → R = r → dSeq (dIf c R1 R2) R A τ S) : dSeq (dIf c a b) r A τ S := h a b r rfl rfl rfl
theorem dFor_gen {ti : DTI} {g : DTG} {tb : DTS} {A : DEnds} {τ : DSt} {S : DH} (h : ∀ B, B = tb → dFor ti g B A τ S) : dFor ti g tb A τ S := h tb rfl
theorem dSeqFor_gen {ti : DTI} {g : DTG} {tb r : DTS} {A : DEnds} {τ : DSt} {S : DH} (h : ∀ B R, B = tb → R = r → dSeq (dFor ti g B) R A τ S) : dSeq (dFor ti g tb) r A τ S := h tb r rfl rfl
end Dt
set_option maxRecDepth 100000
set_option maxHeartbeats 4000000
/-! DatI: instances: o.f, o.f = e, C(..). -/
namespace Dt
open PySem PySem.Spec L2
/-- o.f -/
def dFldK (C : Addr) (f : Str) (Q : DK) : DK := fun d S1 => match d with
  | .ref a => (match S1 a with | some (.ins C' fs) => C' = C ∧ opt (fs.lookup f) fun v => Q v S1 | _ => False)
  | _ => False
@[simp] theorem dFldK_ref {C a : Addr} {f : Str} {Q : DK} {S : DH} : dFldK C f Q (.ref a) S = (match S a with | some (.ins C' fs) => C' = C ∧ opt (fs.lookup f) fun v => Q v S | _ => False) := rfl
@[simp] def dFld (C : Addr) (f : Str) (ta : DTE) : DTE := fun E τ S Q => ta E τ S (dFldK C f Q)
theorem dFldK_mono {C : Addr} {f : Str} {Q Q' : DK} (k : ∀ d S', Q d S' → Q' d S') (d : D) (S : DH) (h : dFldK C f Q d S) : dFldK C f Q' d S := by
  cases d with
  | ref a =>
    revert h
    show (match S a with | some (.ins C' fs) => _ | _ => False) → (match S a with | some (.ins C' fs) => _ | _ => False)
    split
    · exact fun h => ⟨h.1, opt_mono (fun v => k v S) h.2⟩
    · exact id
  | _ => exact h
section
variable {X : Cx} {k : Nat} {f C : Addr} {fd : FuncData} {ps : List Str} {sp : DSp} {x m : Str} {p pos apos pos' : Pos} {e o value : Expr} {es : List Expr} {ta tv : DTE} {t : DTA}
theorem de_fld (he : DE X e ta) (c : Cls X.K C) (n : NoAttr X.K C m) (hb : attributeBase e m X.env (eval e X.env) = eval e X.env := by rfl) : DE X (.Attribute e m pos) (dFld C m ta) := by
  refine ⟨fun E E' τ S Q Q' hE k q => he.mono _ _ _ _ _ _ hE (dFldK_mono k) q, pE_imp (pe_fld he.run hb) fun σ H Q ⟨E, τ, S, w, r, q⟩ => ?_⟩
  refine he.to w r q fun d S1 v H1 le1 w1 r1 rd z => ?_
  cases d with
  | ref a =>
    obtain rfl : v = V.ref a := rd
    revert z
    show (match S1 a with | some (.ins C' fs) => _ | _ => False) → _
    split
    · rename_i C' fs ea
      rintro ⟨rfl, hl⟩
      obtain ⟨d, hd, q⟩ := opt_ex hl
      obtain ⟨dx, ws, eh, rk⟩ : ∃ dx ws, H1 a = some (.ins C' dx ws) ∧ RKs X.K H1 fs ws := r1.rep a _ ea
      obtain ⟨v, hv, rv⟩ := rk.lookup_some hd
      exact ⟨a, C', dx, ws, v, rfl, eh, c, n, hv, q v H1 le1 r1.rep rv⟩
    · exact fun z => z.elim
  | _ => exact z.elim
/-- o.f = e -/
def putFD (f : Str) (v : D) : List (Str × D) → List (Str × D)
  | [] => [(f, v)]
  | (g, x) :: r => if g = f then (g, v) :: r else (g, x) :: putFD f v r
theorem RKs.putF {K : PySem.W.Frag} {H : Hp} {f : Str} {d : D} {v : V} (rd : RD K H d v) : ∀ {fs : List (Str × D)} {ws : List (Str × V)}, RKs K H fs ws → RKs K H (putFD f d fs) (L2.putF f v ws)
  | [], _, h => by
    cases h
    exact ⟨v, [], rfl, rd, rfl⟩
  | (g, x) :: r, _, h => by
    obtain ⟨y, s, rfl, h1, h2⟩ := h
    show RKs K H (if g = f then (g, d) :: r else (g, x) :: putFD f d r) (if g = f then (g, v) :: s else (g, y) :: L2.putF f v s)
    split
    · exact ⟨v, s, rfl, rd, h2⟩
    · exact ⟨y, _, rfl, h1, RKs.putF rd h2⟩
theorem RKs.len {κ : Type} {K : PySem.W.Frag} {H : Hp} : ∀ {fs : List (κ × D)} {ws : List (κ × V)}, RKs K H fs ws → fs.length = ws.length
  | [], _, h => by cases h; rfl
  | _ :: _, _, h => by
    obtain ⟨y, s, rfl, h1, h2⟩ := h
    rw [List.length_cons, List.length_cons, RKs.len h2]
def dPutFK (C : Addr) (f : Str) (y : D) (N : DH → Prop) : D → DH → Prop := fun d S2 => match d with
  | .ref a => (match S2 a with | some (.ins C' fs) => C' = C ∧ fs.length < 1000 ∧ N (upo S2 a (.ins C (putFD f y fs))) | _ => False)
  | _ => False
@[simp] theorem dPutFK_ref {C a : Addr} {f : Str} {y : D} {N : DH → Prop} {S : DH} : dPutFK C f y N (.ref a) S = (match S a with | some (.ins C' fs) => C' = C ∧ fs.length < 1000 ∧ N (upo S a (.ins C (putFD f y fs))) | _ => False) := rfl
theorem dPutFK_mono {C : Addr} {f : Str} {y : D} {N N' : DH → Prop} (k : ∀ S', N S' → N' S') (d : D) (S : DH) (h : dPutFK C f y N d S) : dPutFK C f y N' d S := by
  cases d with
  | ref a =>
    revert h
    show (match S a with | some (.ins C' fs) => _ | _ => False) → (match S a with | some (.ins C' fs) => _ | _ => False)
    split
    · exact fun h => ⟨h.1, h.2.1, k _ h.2.2⟩
    · exact id
  | _ => exact h
@[simp] def dPutF (C : Addr) (f : Str) (ta tv : DTE) : DTS := fun A τ S => tv A.xe τ S fun y S1 => ta A.xe τ S1 (dPutFK C f y (A.nx τ))
theorem ds_fput (ha : DE X o ta) (hv : DE X value tv) (c : Cls X.K C) (n : NoAttr X.K C m) (hs : swapsWith value (some (.Attribute o m pos')) pos.line X.env = pure false := by rfl) : DS X (.Assign [.Attribute o m pos'] value pos) (dPutF C m ta tv) := by
  refine ⟨fun A B τ S le q => hv.mono _ _ _ _ _ _ le.xe (fun y S1 z => ha.mono _ _ _ _ _ _ le.xe (dPutFK_mono fun S' => le.nx _ _) z) q, pS_imp (ps_fld ha.run hv.run hs) fun D σ H ⟨E, τ, S, w, r, q⟩ => ?_⟩
  refine hv.to w r q fun y S1 u H1 le1 w1 r1 rd1 z => ?_
  refine ha.to w1 r1 z fun d S2 v H2 le2 w2 r2 rd2 z => ?_
  cases d with
  | ref a =>
    obtain rfl : v = V.ref a := rd2
    revert z
    show (match S2 a with | some (.ins C' fs) => _ | _ => False) → _
    split
    · rename_i C' fs ea
      rintro ⟨rfl, hl, q⟩
      obtain ⟨dx, ws, eh, rk⟩ : ∃ dx ws, H2 a = some (.ins C' dx ws) ∧ RKs X.K H2 fs ws := r2.rep a _ ea
      have le3 : LeH H2 (upd H2 a (.ins C' dx (L2.putF m u ws))) := LeH.put eh trivial
      refine ⟨a, C', dx, ws, rfl, eh, c, n, by rw [← rk.len]; exact hl, q _ _ (le1.trans (le2.trans le3)) ⟨r2.st.le le3, r2.rep.put eh trivial ⟨dx, _, upd_same, RKs.putF (rd1.le (le2.trans le3)) (rk.le le3)⟩⟩⟩
    · exact fun z => z.elim
  | _ => exact z.elim
/-- C(..) -/
@[simp] def dMake (C : Addr) (sp : DSp) (t : DTA) : DTE := fun E τ S Q => t E τ S fun ds S1 => ∀ x, S1 x = none → sp (.ref x :: ds) (upo S1 x (.ins C [])) (fun d S' => d = .non ∧ Q (.ref x) S') fun C fs S' => E C fs τ S'
theorem guards_make {A : Around} {args : Args} (h : A.guards = some []) : (A.under (.builtin "type.__call__" args)).guards = some [] := by
  have e : (A.under (.builtin "type.__call__" args)).guards = pushGuards (Code.builtin "type.__call__" args).guards A.guards := rfl
  rw [e, h]
  rfl
theorem run_dmake {pins : List (Addr × Obj)} {s : Shared} {us : List Value} {vs : List V} {ds : List D} {E : DW} {τ : DSt} {S : DH} {σ : L2.St} {H : Hp} {Q0 : DK} {Q : VK} (M : Mk X.K C f) (F : DFn X.prog X.w X.K X.mg X.base k f fd ps sp) (hr : Room (k + 1) X.A) (gu : X.A.guards = some []) (hb : Binds X.K fd ps [])
    (I : Inv X pins σ H s) (w : Wish X E H) (rl : Rel X.w X.K τ S σ H) (r : Vals vs us) (rd : RDs X.K H ds vs) (h : ∀ x, S x = none → sp (.ref x :: ds) (upo S x (.ins C [])) (fun d S' => d = .non ∧ Q0 (.ref x) S') fun C fs S' => E C fs τ S')
    (kq : ∀ d S' v H', LeH H H' → Rep X.w X.K S' H' → RD X.K H' d v → Q0 d S' → Q v H') :
    wpAny (model X.prog X.w) X.A (call (.ref C) us) (EP X pins σ Q) X.xe s := by
  have fr1 := I.hok.fresh (Nat.le_succ s.heap.objs.size)
  have fr0 := I.hok.fresh (Nat.le_refl s.heap.objs.size)
  have ne : s.heap.objs.size + 1 ≠ s.heap.objs.size := Nat.succ_ne_self _
  have I2 := Inv.made (C := C) I
  have le1 : LeH H (upd H s.heap.objs.size (.own (s.heap.objs.size + 1))) := LeH.new fr0
  have fr1' : upd H s.heap.objs.size (.own (s.heap.objs.size + 1)) (s.heap.objs.size + 1) = none := by rw [upd_ne ne]; exact fr1
  have le2 : LeH (upd H s.heap.objs.size (.own (s.heap.objs.size + 1))) (upd (upd H s.heap.objs.size (.own (s.heap.objs.size + 1))) (s.heap.objs.size + 1) (.ins C s.heap.objs.size [])) := LeH.new fr1'
  have rp2 : Rep X.w X.K (upo S (s.heap.objs.size + 1) (.ins C [])) (upd (upd H s.heap.objs.size (.own (s.heap.objs.size + 1))) (s.heap.objs.size + 1) (.ins C s.heap.objs.size [])) := (rl.rep.garb fr0).new fr1' ⟨_, [], upd_same, rfl⟩
  have hs : S (s.heap.objs.size + 1) = none := rl.rep.free fr1
  have hq := h _ hs
  have rds2 : RDs X.K (upd (upd H s.heap.objs.size (.own (s.heap.objs.size + 1))) (s.heap.objs.size + 1) (.ins C s.heap.objs.size [])) (.ref (s.heap.objs.size + 1) :: ds) (V.ref (s.heap.objs.size + 1) :: vs) := RDs.cons (d := .ref _) rfl (rd.le (le1.trans le2))
  have hl : ((Value.ref (s.heap.objs.size + 1) :: us) ++ []).length = ps.length := by
    rw [List.append_nil, List.length_cons, ← r.length, ← rd.length, ← List.length_cons (a := D.ref (s.heap.objs.size + 1))]
    exact F.len _ _ _ _ hq
  have hbd := hb _ (Value.ref (s.heap.objs.size + 1) :: us) I2.kIn hl
  rw [List.append_nil] at hbd
  refine wpAny_call (make_map (f := f) I.kIn M.makes M.init (beq_iff_eq.mp M.fn) (codeAny_mono (F.run _ X.stack _ _ ⟨Value.ref (s.heap.objs.size + 1) :: us, []⟩ (Value.ref (s.heap.objs.size + 1) :: us) (V.ref (s.heap.objs.size + 1) :: vs) (fun v H2 => v = .non ∧ Q (.ref (s.heap.objs.size + 1)) H2)
    (fun cls d H' => upW X.w X.K E H cls d σ H') (hr.make C us []) (guards_make gu) (I2.env0.make C us []) hbd (.cons rfl r) ⟨_, _, rp2, rds2, F.mono _ _ _ _ _ _ (fun d S' q v H' le rp rv => ?_) (fun C fs S' q dd ws H' le rp hx rk => ⟨C, fs, τ, S', dd, ws, rfl, rfl, le1.trans (le2.trans le), rl.le (le1.trans (le2.trans le)) rp, hx, rk, q⟩) hq⟩) fun r s' hq' => ?_))
  · obtain ⟨rfl, q⟩ := q
    exact ⟨rv, kq (.ref _) S' _ H' (le1.trans (le2.trans le)) rp rfl q⟩
  cases r with
  | error e => exact w e s' (XE.of_call I2 (fun _ _ _ h => h) hq')
  | ok fl =>
    cases fl with
    | ret u =>
      obtain ⟨v, H', I3, rv, ev, q3⟩ := I2.after hq'
      subst ev
      exact ⟨rv, ⟨V.ref (s.heap.objs.size + 1), H', I3, rfl, q3⟩⟩
    | next => exact False.elim hq'
    | brk => exact False.elim hq'
    | cont => exact False.elim hq'
theorem dMake_mono (F : DFn X.prog X.w X.K X.mg X.base k f fd ps sp) (ma : ∀ (E E' : DW) τ S (Q Q' : List D → DH → Prop), (∀ C fs τ S, E C fs τ S → E' C fs τ S) → (∀ d S', Q d S' → Q' d S') → t E τ S Q → t E' τ S Q')
    (E E' : DW) (τ : DSt) (S : DH) (Q Q' : DK) (hE : ∀ C fs τ S, E C fs τ S → E' C fs τ S) (kq : ∀ d S', Q d S' → Q' d S') (q : dMake C sp t E τ S Q) : dMake C sp t E' τ S Q' :=
  ma _ _ _ _ _ _ hE (fun ds S1 z x hx => F.mono _ _ _ _ _ _ (fun d S' y => ⟨y.1, kq _ _ y.2⟩) (fun C fs S' y => hE _ _ _ _ y) (z x hx)) q
theorem de_make (M : Mk X.K C f) (F : DFn X.prog X.w X.K X.mg X.base k f fd ps sp) (hr : Room (k + 1) X.A) (gu : X.A.guards = some []) (hg : Gl X x) (hm : X.mg x = some (.ref C)) (hb : Binds X.K fd ps []) (ha : DA X (e :: es) t)
    (hdb : (x == ("__debug__" : Str)) = false := by decide) (he : starEach (e :: es) X.env = (false, eval e X.env) :: starEach es X.env := by rfl) (hpl : (backTo pos (starEach es X.env)).any (·.1) = false := by rfl) :
    DE X (.Call (.Name x p) (e :: es) [] pos) (dMake C sp t) := by
  refine ⟨dMake_mono F ha.mono, ⟨fun pins s σ H Q I ⟨E, τ, S, w, r, q⟩ => ?_⟩⟩
  refine PySem.wpAny_Call_Name_kw (ld_glob I hg hm ?_ hdb)
  refine PySem.W.callWith_K (h₀ := X.base) I.ok.mod.kin M.kp (thn (ha.run.run pos pins s σ H _ I (ha.to w r q fun ds S1 vs H1 le1 w1 r1 rd1 z => (⟨ds, S1, le1, w1, r1, rd1, z⟩ : ∃ ds S1, LeH H H1 ∧ Wish X E H1 ∧ Rel X.w X.K τ S1 σ H1 ∧ RDs X.K H1 ds vs ∧
    ∀ x, S1 x = none → sp (.ref x :: ds) (upo S1 x (.ins C [])) (fun d S' => d = .non ∧ (fun d S' => ∀ v H', LeH H H' → Rep X.w X.K S' H' → RD X.K H' d v → Q v H') (.ref x) S') fun C fs S' => E C fs τ S'))) fun us s1 ⟨vs, H1, I1, rv, ds, S1, le1, w1, r1, rd1, z⟩ => ⟨I1.kIn, ?_⟩) he hpl
  exact run_dmake (Q0 := fun d S' => ∀ v H', LeH H H' → Rep X.w X.K S' H' → RD X.K H' d v → Q v H') M F hr gu hb I1 w1 r1 rv rd1 z fun d S' v H' le rp rd q2 => q2 v H' (le1.trans le) rp rd
theorem de_make0 (M : Mk X.K C f) (F : DFn X.prog X.w X.K X.mg X.base k f fd ps sp) (hr : Room (k + 1) X.A) (gu : X.A.guards = some []) (hg : Gl X x) (hm : X.mg x = some (.ref C)) (hb : Binds X.K fd ps [])
    (hdb : (x == ("__debug__" : Str)) = false := by decide) : DE X (.Call (.Name x p) [] [] pos) (dMake C sp dNil) := by
  refine ⟨dMake_mono F (fun _ _ _ _ _ _ _ k q => k _ _ q), ⟨fun pins s σ H Q I ⟨E, τ, S, w, r, q⟩ => ?_⟩⟩
  refine PySem.wpAny_Call_Name_kw (ld_glob I hg hm ?_ hdb)
  exact PySem.W.callWith_K0 I.kIn M.kp (run_dmake (Q0 := fun d S' => ∀ v H', LeH H H' → Rep X.w X.K S' H' → RD X.K H' d v → Q v H') (us := []) M F hr gu hb I w r .nil .nil q fun d S' v H' le rp rd q2 => q2 v H' le rp rd)
end
end Dt
set_option maxRecDepth 100000
set_option maxHeartbeats 4000000
/-! DatJ: a dict's keys as a row: sorted(d), list(d); the methods of dicts. -/
namespace Dt
open PySem PySem.Spec L2 PySem.W PyProof.Rows
@[simp] def keysO (o : Ob) : Option (List D) := match o with
  | .dK kvs => some (kvs.map fun kv => keyD kv.1)
  | .dN kvs => some (kvs.map (·.1))
  | _ => none
@[simp] def keysD (S : DH) (d : D) : Option (List D) := match d with | .ref a => (S a).bind keysO | _ => none
section
variable {X : Cx} {pins : List (Addr × Obj)} {σ : L2.St} {H : Hp} {s : Shared} {a : Addr}
theorem pairs_vals {P : Program} {w : World} : ∀ {es : List DictEntry} {vs : List (Key × Value)}, Pairs (mixKind P w) es vs → Vals (vs.map fun p => kV p.1) (es.map (·.key))
  | _, _, .nil => .nil
  | _, _, .cons h1 h2 t => by
    rw [List.map_cons, List.map_cons]
    refine .cons ?_ (pairs_vals t)
    rcases keyIs_shape h1 with ⟨i, t, ek, ev⟩ | ⟨z, t, ek, ev⟩
    · rw [ek, ev]; exact ⟨t, rfl⟩
    · rw [ek, ev]; exact ⟨t, rfl⟩
theorem keys_raw (I : Inv X pins σ H s) {ob : Ob} {ks : List D} (r : ROb X.w X.K H a ob) (e : keysO ob = some ks) :
    ∃ es ep xs, s.heap.DictRaw a es ep ∧ (a == sysModules) = false ∧ es.size ≤ sizeLine ∧ Vals xs (es.toList.map (·.key)) ∧ RDs X.K H ks xs := by
  cases ob with
  | dK kvs =>
    cases e
    obtain ⟨ws, e0, rk⟩ : ∃ ws, H a = some (.dK ws) ∧ RKs X.K H kvs ws := r
    obtain ⟨z, lo, vs, kv, o, es, ep, h1, h2, h3, h4, h5, h6⟩ := dk_of I.hok e0
    have hl : kvs.length = ws.length := rk.length
    have hl2 : ws.length = vs.length := Paired.length kv
    have hl3 : es.toList.length = vs.length := h5.length
    have e1 : (kvs.map fun q => keyD q.1) = (vs.map fun p => p.1).map keyD := by
      have go : ∀ {kvs : List (Key × D)} {ws : List (Key × V)} {vs : List (Key × Value)}, RKs X.K H kvs ws → KV ws vs → (kvs.map fun q => keyD q.1) = (vs.map fun p => p.1).map keyD := by
        intro kvs
        induction kvs with
        | nil => intro ws vs r k; cases r; cases k; rfl
        | cons q kvs ih =>
          intro ws vs r k
          obtain ⟨v, s', rfl, _, r2⟩ := r
          cases k with
          | cons a b => rw [List.map_cons, List.map_cons, List.map_cons, ih r2 b, ← a.1]
      exact go rk kv
    refine ⟨es, ep, _, ⟨o, h1, h2, h3⟩, lo, by simp at hl3; omega, pairs_vals h5, ?_⟩
    rw [e1]
    have e2 : (vs.map fun p => kV p.1) = (vs.map fun p => p.1).map kV := by rw [List.map_map]; rfl
    rw [e2]
    exact keys_rds _
  | dN kvs =>
    cases e
    obtain ⟨xs, ⟨o, es, ep, h1, h2, h3, h4, h5, h6⟩, rx, hs, hz, _⟩ := dn_open I r
    have go : ∀ {kvs : List (D × D)} {xs : List (NestedKey × Addr × Value)}, RX X.K H kvs xs → ∃ ys, Vals ys (xs.map fun x => Value.ref x.2.1) ∧ RDs X.K H (kvs.map (·.1)) ys := by
      intro kvs
      induction kvs with
      | nil => intro xs r; cases r; exact ⟨[], .nil, .nil⟩
      | cons q kvs ih =>
        intro xs r
        obtain ⟨nk, b, u, s', rfl, ⟨_, _, r1, _⟩, r2⟩ := r
        obtain ⟨ys, g1, g2⟩ := ih r2
        exact ⟨.ref b :: ys, .cons rfl g1, RDs.cons r1 g2⟩
    obtain ⟨ys, g1, g2⟩ := go rx
    have hl : es.size = xs.length := by
      have := congrArg List.length h4
      simpa using this
    refine ⟨es, ep, ys, ⟨o, h1, h2, h3⟩, hs, by rw [hl, ← rx.length]; exact hz, ?_, g2⟩
    rw [h4, List.map_map]
    exact g1
  | lst ds => cases e
  | ins C fs => cases e
theorem items_keys {es : Array DictEntry} {acc : Array Value} (h : ItemsOf (fun i v => ∃ hi : i < es.size, v = es[i].key) acc es.size) : acc.toList = es.toList.map (·.key) := by
  obtain ⟨h1, h2⟩ := h
  refine List.ext_getElem? fun i => ?_
  rw [List.getElem?_map, Array.getElem?_toList, Array.getElem?_toList]
  cases e : acc[i]? with
  | none =>
    have : es.size ≤ i := by
      have := Array.getElem?_eq_none_iff.mp e
      omega
    rw [Array.getElem?_eq_none_iff.mpr this]
    rfl
  | some v =>
    obtain ⟨hi, ev⟩ := h2 i v e
    rw [Array.getElem?_eq_getElem hi, ev]
    rfl
end
/-! ### sorted of a sequence, of a dict -/
@[simp] def cSortA : RCD := fun ds S Q => match ds with
  | [d] => (opt (seqD S d) fun xs => cSrt xs fun ys => newO S (.lst ys) fun p S' => Q (.ref p) S') ∨ (opt (keysD S d) fun xs => cSrt xs fun ys => newO S (.lst ys) fun p S' => Q (.ref p) S')
  | _ => False
@[simp] def cSortAF : RCD := fun ds S Q => match ds with
  | [d] => (opt (seqD S d) fun xs => cSrt xs fun ys => Q (.rol ys) S) ∨ (opt (keysD S d) fun xs => cSrt xs fun ys => Q (.rol ys) S)
  | _ => False
theorem keysD_ex {S : DH} {d : D} {ks : List D} (h : keysD S d = some ks) : ∃ a ob, d = .ref a ∧ S a = some ob ∧ keysO ob = some ks := by
  cases d <;> first | (cases h; done) | skip
  rename_i a
  show ∃ a' ob, _
  have h' : (S a).bind keysO = some ks := h
  cases e : S a with
  | none => rw [e] at h'; cases h'
  | some ob => rw [e] at h'; exact ⟨a, ob, rfl, e, h'⟩
section
variable {X : Cx}
theorem cd_sortA (hc : X.calm = true) (hu : X.A.units + 64 < cLine) : CallD X (.builtin "sorted") cSortA := by
  refine ⟨fun ds S Q Q' k h => ?_, fun pins s σ H vs us Q I rv ⟨ds, S, rep, rd, h⟩ => ?_⟩
  · match ds, h with
    | [d], h => exact h.imp (opt_mono (fun _ h => ⟨h.1, fun p hp => k _ _ (h.2 p hp)⟩)) (opt_mono (fun _ h => ⟨h.1, fun p hp => k _ _ (h.2 p hp)⟩))
  · match ds, h with
    | [d], .inl h => exact (cd_sorted hu).run pins s σ H vs us Q I rv ⟨[d], S, rep, rd, h⟩
    | [d], .inr h =>
      obtain ⟨ks, e, ⟨t, ht, hd⟩, hQ⟩ := opt_ex h
      obtain ⟨a, ob, rfl, ea, ek⟩ := keysD_ex e
      obtain ⟨v, rfl, r⟩ := rds1 rd
      cases r
      rw [Vals.ref1 rv]
      obtain ⟨es, ep, xs, dr, lo, hz, vx, rx⟩ := keys_raw I (rep a ob ea) ek
      refine Calls.call_function_entry kind_sorted plain_sorted entry_sorted (args_sorted1 _) ?_
      unfold Builtin.«sorted»
      refine wpAny_bind (m := checkCount "sorted" 1 1 _) (wpAny_pure ?_)
      refine wpAny_bind (kdu_collect (A := X.A.in1) (KdlSrc.rawDict lo) (I.ok.hd hc) dr hz fun h' tk acc hk hacc => ?_)
      have eacc := items_keys hacc
      have I1 : Inv X pins σ H { s with heap := h', toks := tk } := I.kept hk
      have hal : acc.toList.length = ks.length := by rw [eacc, ← vx.length, rx.length]
      have hks : ks.length ≤ sizeLine := by rw [← hal, Array.length_toList, hacc.1]; exact hz
      rw [← eacc] at vx
      have ee := each_rel vx rx
      have sm : ∀ d ∈ ks, Sm 50 d := fun d z => (hasTy_sm t d (hd d z)).mono (sortTy_dep ht)
      refine wpAny_bind (wpAny_newList ?_ (by rw [hal]; exact hks))
      have hoL : (h'.push (seqObj "list" acc.toList.toArray 0)).get? h'.objs.size = some (seqObj "list" acc.toList.toArray 0) := Heap.get?_push_size _ rfl
      have er : EachIs (fun u d => ∃ as, Reads (sortingHeap (h'.push (seqObj "list" acc.toList.toArray 0)) h'.objs.size acc.toList) u (toP d) as) acc.toList ks := by
        refine EachIs.mono (fun u d z => ?_) (each_and ee sm)
        obtain ⟨⟨x, a1, a2⟩, a3⟩ := z
        obtain ⟨as, ra⟩ := Dp.reads I1 (toP d) x u ((a3.pd S).dp rep _ _ _ a2) a1
        exact ⟨as, Reads.keeps (fun b o q => sortingHeap_old (Nat.ne_of_lt (Heap.lt_size q)) (Heap.get?_push_of_some _ q)) ra⟩
      show wpAny _ _ _ _ _ { s with heap := h'.push (seqObj "list" acc.toList.toArray 0), toks := tk }
      have Srt := SortsAt.data (prog := X.prog) (w := X.w) (A := X.A.in1.in1) (s := { s with heap := sortingHeap (h'.push (seqObj "list" acc.toList.toArray 0)) h'.objs.size acc.toList, toks := tk }) (each_map (R := fun v d => ∃ as, Reads (sortingHeap (h'.push (seqObj "list" acc.toList.toArray 0)) h'.objs.size acc.toList) v d as) toP er) (cd_sorted.AllAlike.of' hd) (sortable_ty ht hd) (bound_map (A := X.A.in1.in1) fun b hb => by
        have h2 := (sm b hb).2
        show X.A.units + 2 + _ < _
        rw [dep_P]; omega)
      refine wpAny_bind (wpAny_holding (wpAny_call_entry slot_list_sort ⟨_, hoL, rfl⟩ entry_list_sort
        (list_sort_vals (s := { s with heap := h'.push (seqObj "list" acc.toList.toArray 0), toks := tk }) hoL Srt (by rw [hal]; exact hks) ⟨_, rfl, ?_⟩) (args_list_sort _)))
      have out := sortVals_data (R := fun u d => ∃ x, RelV x u ∧ RD X.K H d x) false ee er (cd_sorted.AllAlike.of' hd)
      rw [srtD_eq] at out
      obtain ⟨ys, r1, r2⟩ := rel_each out
      obtain ⟨e', he'⟩ := sortedHeap_at (vs := acc.toList) (out := (sortVals (dataKind (sortingHeap (h'.push (seqObj "list" acc.toList.toArray 0)) h'.objs.size acc.toList) (ks.map toP)) false acc.toList acc.toList).toArray) hoL
      have hn : H h'.objs.size = none := I1.hok.fresh (Nat.le_refl _)
      have hyl : ys.length ≤ sizeLine := by rw [← r2.length]; exact Nat.le_trans (Nat.le_of_eq (srt_len ks)) hks
      have le : LeH H (upd H h'.objs.size (.lst ys)) := LeH.new hn
      refine wpAny_pure ⟨_, rfl, .ref h'.objs.size, upd H h'.objs.size (.lst ys), I1.laid (t' := tk) (fun b u q => ?_) (Nat.le_refl _) ⟨hyl, _, e', r1, he'⟩, rfl, ?_⟩
      · have hb : b < h'.objs.size := Heap.lt_size q
        show (sortedHeap _ _ _ _).get? b = _
        rw [sortedHeap_old (Nat.ne_of_lt hb) (by rw [size_push']; exact Nat.lt_succ_of_lt hb)]
        exact Heap.get?_push_of_some _ q
      · exact hQ h'.objs.size (rep.free hn) _ _ le (rep.new hn ⟨ys, upd_same, r2.le le⟩) rfl
theorem cd_sortAF (hc : X.calm = true) (hu : X.A.units + 64 < cLine) : CallD X (.builtin "sorted") cSortAF := (cd_fz (cd_sortA hc hu)).sub (fun ds S Q Q' k h => by
    unfold cSortAF at h ⊢
    split at h
    · exact h.imp (opt_mono (fun _ h => ⟨h.1, k _ _ h.2⟩)) (opt_mono (fun _ h => ⟨h.1, k _ _ h.2⟩))
    · exact h) fun ds S Q h => by
    unfold cSortAF at h
    unfold cFz cSortA
    split at h
    · exact h.imp (opt_mono (fun _ h => ⟨h.1, fun p hp => fzK_new hp h.2⟩)) (opt_mono (fun _ h => ⟨h.1, fun p hp => fzK_new hp h.2⟩))
    · exact h
/-! ### list of a sequence, of a dict -/
@[simp] def cListA : RCD := fun ds S Q => match ds with
  | [d] => cList [d] S Q ∨ (opt (keysD S d) fun ys => newO S (.lst ys) fun p S' => Q (.ref p) S')
  | _ => False
@[simp] def cListAF : RCD := fun ds S Q => match ds with
  | [d] => cListF [d] S Q ∨ (opt (keysD S d) fun ys => Q (.rol ys) S)
  | _ => False
theorem cd_listA (hc : X.calm = true) : CallD X (.type "list") cListA := by
  refine ⟨fun ds S Q Q' k h => ?_, fun pins s σ H vs us Q I rv ⟨ds, S, rep, rd, h⟩ => ?_⟩
  · match ds, h with
    | [d], h => exact h.imp ((cd_list (X := X)).mono _ _ _ _ k) (opt_mono (fun _ h => fun p hp => k _ _ (h p hp)))
  · match ds, h with
    | [d], .inl h => exact cd_list.run pins s σ H vs us Q I rv ⟨[d], S, rep, rd, h⟩
    | [d], .inr h =>
      obtain ⟨ks, e, hQ⟩ := opt_ex h
      obtain ⟨a, ob, rfl, ea, ek⟩ := keysD_ex e
      obtain ⟨v, rfl, r⟩ := rds1 rd
      cases r
      rw [Vals.ref1 rv]
      obtain ⟨es, ep, xs, dr, lo, hz, vx, rx⟩ := keys_raw I (rep a ob ea) ek
      refine kdl_call (KdlSrc.rawDict lo) (I.ok.hd hc) dr hz fun h' tk acc c' hk hD hacc => ?_
      have eacc := items_keys hacc
      have hn : H s.heap.objs.size = none := I.hok.fresh (Nat.le_refl _)
      have le : LeH H (upd H s.heap.objs.size (.lst xs)) := LeH.new hn
      rw [← eacc] at vx
      have hyl : xs.length ≤ sizeLine := by rw [vx.length, Array.length_toList, hacc.1]; exact hz
      exact ⟨.ref s.heap.objs.size, upd H s.heap.objs.size (.lst xs), I.laid (t' := tk) hk (Nat.le_refl _) ⟨hyl, acc.toList, c', vx, by rw [Array.toArray_toList]; exact hD⟩, rfl,
        hQ s.heap.objs.size (rep.free hn) _ _ le (rep.new hn ⟨xs, upd_same, rx.le le⟩) rfl⟩
theorem cd_listAF (hc : X.calm = true) : CallD X (.type "list") cListAF := (cd_fz (cd_listA hc)).sub (fun ds S Q Q' k h => by
    unfold cListAF at h ⊢
    split at h
    · exact h.imp ((cd_listF (X := X)).mono _ _ _ _ k) (opt_mono (fun _ h => k _ _ h))
    · exact h) fun ds S Q h => by
    unfold cListAF at h
    unfold cFz cListA
    split at h
    · rename_i d
      refine h.imp (fun z => ?_) (opt_mono (fun _ h => fun p hp => fzK_new hp h))
      unfold cListF at z
      unfold cList
      split at z
      · rename_i e; cases e; exact fun p hp => fzK_new hp z
      · rename_i d' _ e
        cases e
        obtain ⟨xs, e, q⟩ := opt_ex z
        clear z
        cases d with
        | rol ys => cases e; exact fun p hp => fzK_new hp q
        | ref a =>
          revert e
          show (match S a with | some (.lst xs) => some xs | _ => none) = some xs → (match S a with | some (.lst xs) => _ | _ => False)
          split
          · intro e; cases e; exact fun p hp => fzK_new hp q
          · intro e; cases e
        | _ => cases e
      · exact z.elim
    · exact h
end
/-! ### get, pop, setdefault of dicts -/
@[simp] def lkO (ob : Ob) (k : D) : Option (Option D) := match ob with
  | .dK kvs => (dkey k).map fun kk => lk kvs kk
  | .dN kvs => if okT k = true then some (lk kvs k) else none
  | _ => none
@[simp] def drO (ob : Ob) (k : D) : Option Ob := match ob with
  | .dK kvs => (dkey k).map fun kk => .dK (dr kvs kk)
  | .dN kvs => if okT k = true then some (.dN (dr kvs k)) else none
  | _ => none
@[simp] def mDGet : RMD := fun d ds S Q => match d with
  | .ref a => opt (S a) fun ob => match ds with
    | [k] => opt (lkO ob k) fun o => Q (o.getD .non) S
    | [k, x] => opt (lkO ob k) fun o => Q (o.getD x) S
    | _ => False
  | _ => False
@[simp] def mDPop : RMD := fun d ds S Q => match d with
  | .ref a => opt (S a) fun ob => match ds with
    | [k] => opt (lkO ob k) fun o => opt o fun x => opt (drO ob k) fun ob' => Q x (upo S a ob')
    | [k, x] => opt (lkO ob k) fun o => (match o with | some y => opt (drO ob k) fun ob' => Q y (upo S a ob') | none => Q x S)
    | _ => False
  | _ => False
@[simp] def mDSet : RMD := fun d ds S Q => match d with
  | .ref a => opt (S a) fun ob => match ds with
    | [k, x] => opt (lkO ob k) fun o => (match o with | some y => Q y S | none => opt (putO ob k x) fun ob' => Q x (upo S a ob'))
    | _ => False
  | _ => False
section
variable {X : Cx} {pins : List (Addr × Obj)} {σ : L2.St} {H : Hp} {s : Shared} {a : Addr}
/-- what a dict has at a key, told of the true heap -/
theorem lkO_val {ob : Ob} {k : D} {o : Option D} (r : ROb X.w X.K H a ob) (e : lkO ob k = some o) : (∃ kvs kk ws, ob = .dK kvs ∧ dkey k = some kk ∧ o = lk kvs kk ∧ H a = some (.dK ws) ∧ RKs X.K H kvs ws) ∨ (∃ kvs, ob = .dN kvs ∧ okT k = true ∧ o = lk kvs k) := by
  cases ob with
  | dK kvs =>
    have e' : (dkey k).map (fun kk => lk kvs kk) = some o := e
    cases ek : dkey k with
    | none => rw [ek] at e'; cases e'
    | some kk =>
      rw [ek] at e'
      cases e'
      obtain ⟨ws, e0, rk⟩ : ∃ ws, H a = some (.dK ws) ∧ RKs X.K H kvs ws := r
      exact .inl ⟨kvs, kk, ws, rfl, rfl, rfl, e0, rk⟩
  | dN kvs =>
    have e' : (if okT k = true then some (lk kvs k) else none) = some o := e
    split at e'
    · rename_i h
      cases e'
      exact .inr ⟨kvs, rfl, h, rfl⟩
    · cases e'
  | lst _ => cases e
  | ins _ _ => cases e
theorem opt_some_of {α : Type} {o : Option α} {x : α} {p : α → Prop} (e : o = some x) (h : opt o p) : p x := by rw [e] at h; exact h
theorem md_dget (hu : X.A.units + 120 < cLine) : MtD X "dict.get" mDGet := by
  refine ⟨fun d ds S Q Q' k h => ?_, fun pins s σ H x vs v us Q I rx rv ⟨d, ds, S, rep, rd, rds, h⟩ => ?_⟩
  · cases d <;> first | exact h.elim | skip
    match ds, h with
    | [_], h => exact opt_mono (fun _ z => opt_mono (fun _ z => k _ _ z) z) h
    | [_, _], h => exact opt_mono (fun _ z => opt_mono (fun _ z => k _ _ z) z) h
    | [], h => exact opt_mono (fun _ z => z) h
    | _ :: _ :: _ :: _, h => exact opt_mono (fun _ z => z) h
  · cases d <;> first | exact h.elim | skip
    rename_i a
    cases rd
    cases rx
    obtain ⟨ob, ea, h⟩ := opt_ex h
    have rb := rep a ob ea
    have two : ∀ {k x : D} {y z : V} {u r : Value}, RD X.K H k y → RD X.K H x z → RelV y u → RelV z r → (us = [u, r] ∨ (us = [u] ∧ x = .non ∧ r = .none)) → (opt (lkO ob k) fun o => lQ X.w X.K H Q (o.getD x) S) →
        wpAny (model X.prog X.w) X.A (call (.builtin "dict.get") (.ref a :: us)) (fun u s' => ∃ v H', Inv X pins σ H' s' ∧ RelV v u ∧ Q v H') X.xe s := by
      intro k x y z u r rk rx ry rz hus h
      obtain ⟨o, eo, hQ⟩ := opt_ex h
      rcases lkO_val rb eo with ⟨kvs, kk, ws, rfl, ek, rfl, e0, rks⟩ | ⟨kvs, rfl, hk, rfl⟩
      · have ey := dkey_rd ek rk
        subst ey
        have g : ∃ o', DGet H a (kV kk) o' ∧ ∀ w', RelV (o'.getD z) w' → ∃ v', RelV v' w' ∧ RD X.K H ((lk kvs kk).getD x) v' := by
          refine ⟨_, .inl ⟨ws, kk, .inl e0, rfl, rfl⟩, fun w' rw' => ?_⟩
          cases el : lk kvs kk with
          | none => rw [rks.nn el] at rw'; exact ⟨z, rw', rx⟩
          | some dd => obtain ⟨vv, ev, rvv⟩ := rks.ss el; rw [ev] at rw'; exact ⟨vv, rw', rvv⟩
        obtain ⟨o', g1, g2⟩ := g
        rcases hus with rfl | ⟨rfl, rfl, rfl⟩
        · refine d_get2 (by omega) I g1 ry rz fun w' s' I' rw' => ?_
          obtain ⟨v', h1, h2⟩ := g2 w' rw'
          exact ⟨v', H, I', h1, hQ _ _ (LeH.refl H) rep h2⟩
        · cases rx
          refine d_get1 (by omega) I g1 ry fun w' s' I' rw' => ?_
          obtain ⟨v', h1, h2⟩ := g2 w' rw'
          exact ⟨v', H, I', h1, hQ _ _ (LeH.refl H) rep h2⟩
      · obtain ⟨xs, dd, rx', hsys, _, nd, mu⟩ := dn_open I rb
        obtain ⟨nk, b, ek, hd8, rfl, rfl, his⟩ := okT_key I hk rk ry
        have val : ∃ v', RelV v' (((atKey xs nk).map (·.2)).getD r) ∧ RD X.K H ((lk kvs k).getD x) v' := by
          have q := rx'.lk ek
          revert q
          cases atKey xs nk <;> cases lk kvs k <;> intro q
          · exact ⟨z, rz, rx⟩
          · exact q.elim
          · exact q.elim
          · exact q
        obtain ⟨v', h1, h2⟩ := val
        rcases hus with rfl | ⟨rfl, rfl, rfl⟩
        · exact call_meetsIn PySem.F.slot_dict_get dd.typeIs PySem.F.entry_dict_get (PySem.F.args_dict_get_3 _ _ _) (meetsH_dict_get_default (nestedKind X.prog X.w) a b hsys r) ⟨show X.A.units + 1 + 8 < cLine by omega, nk, xs, his, dd, v', H, I.tok _, h1, hQ _ _ (LeH.refl H) rep h2⟩
        · exact call_meetsIn PySem.F.slot_dict_get dd.typeIs PySem.F.entry_dict_get (PySem.F.args_dict_get_2 _ _) (meetsH_dict_get (nestedKind X.prog X.w) a b hsys) ⟨show X.A.units + 1 + 8 < cLine by omega, nk, xs, his, dd, v', H, I.tok _, h1, hQ _ _ (LeH.refl H) rep h2⟩
    match ds, rds, h with
    | [k], rds, h =>
      obtain ⟨y, rfl, rk⟩ := rds1 rds
      obtain ⟨u, rfl, ru⟩ := rv.one
      exact two (x := .non) (z := .non) (r := .none) rk rfl ru rfl (.inr ⟨rfl, rfl, rfl⟩) h
    | [k, x], rds, h =>
      obtain ⟨y, z, rfl, rk, rx⟩ := rds2 rds
      obtain ⟨u1, u2, rfl, r1, r2⟩ := rv.two
      exact two rk rx r1 r2 (.inl rfl) h
    | [], _, h => exact h.elim
    | _ :: _ :: _ :: _, _, h => exact h.elim
theorem ref_val {K : PySem.W.Frag} {H : Hp} {a : Addr} {v : V} (h : RD K H (.ref a) v) : v = .ref a := h
theorem md_dpop (hu : X.A.units + 120 < cLine) : MtD X "dict.pop" mDPop := by
  refine ⟨fun d ds S Q Q' k h => ?_, fun pins s σ H x vs v us Q I rx rv ⟨d, ds, S, rep, rd, rds, h⟩ => ?_⟩
  · cases d <;> first | exact h.elim | skip
    match ds, h with
    | [_], h => exact opt_mono (fun _ z => opt_mono (fun _ z => opt_mono (fun _ z => opt_mono (fun _ z => k _ _ z) z) z) z) h
    | [_, _], h =>
      refine opt_mono (fun _ z => opt_mono (fun o z => ?_) z) h
      cases o with
      | none => exact k _ _ z
      | some y => exact opt_mono (fun _ z => k _ _ z) z
    | [], h => exact opt_mono (fun _ z => z) h
    | _ :: _ :: _ :: _, h => exact opt_mono (fun _ z => z) h
  · cases d <;> first | exact h.elim | skip
    rename_i a
    cases rd
    cases rx
    obtain ⟨ob, ea, h⟩ := opt_ex h
    have rb := rep a ob ea
    have there : ∀ {k y : D} {v : V} {u : Value} {more : List Value}, RD X.K H k v → RelV v u → us = u :: more → (more = [] ∨ ∃ x, more = [x]) → lkO ob k = some (some y) → (opt (drO ob k) fun ob' => lQ X.w X.K H Q y (upo S a ob')) →
        wpAny (model X.prog X.w) X.A (call (.builtin "dict.pop") (.ref a :: us)) (fun u s' => ∃ v H', Inv X pins σ H' s' ∧ RelV v u ∧ Q v H') X.xe s := by
      intro k y v u more rk ry hus hmore eo h
      subst hus
      obtain ⟨ob', eb, hQ⟩ := opt_ex h
      rcases lkO_val rb eo with ⟨kvs, kk, ws, rfl, ek, el, e0, rks⟩ | ⟨kvs, rfl, hk, el⟩
      · have ey := dkey_rd ek rk
        subst ey
        have eb' : (dkey k).map (fun kk => Ob.dK (dr kvs kk)) = some ob' := eb
        rw [ek] at eb'
        cases eb'
        obtain ⟨vv, ev, rvv⟩ := rks.ss el.symm
        refine d_pop I e0 ry ev hmore fun w' s' I' rw' => ?_
        have le : LeH H (upd H a (.dK (dropK ws kk))) := LeH.put e0 trivial
        exact ⟨vv, _, I', rw', hQ _ _ le (rep.put e0 trivial (o := .dK (dr kvs kk)) ⟨_, upd_same, (rks.dr).le le⟩) (rvv.le le)⟩
      · have eb' : (if okT k = true then some (Ob.dN (dr kvs k)) else none) = some ob' := eb
        rw [if_pos hk] at eb'
        cases eb'
        obtain ⟨xs, dd, rx', hsys, hl, nd, mu⟩ := dn_open I rb
        obtain ⟨nk, b, ek, hd8, rfl, rfl, his⟩ := okT_key I hk rk ry
        obtain ⟨p, ep, vv, r1, r2⟩ := rx'.ss ek el.symm
        have ha : argsOk "dict.pop" ⟨.ref a :: .ref b :: more, []⟩ := by
          rcases hmore with q | ⟨x, q⟩
          · subst q; exact PySem.F.args_dict_pop_2 _ _
          · subst q; exact PySem.F.args_dict_pop_3 _ _ _
        refine call_pop_heap hmore ha (show X.A.units + 1 + 8 < cLine by omega) his hsys dd ep (fun h' dd' sb => ?_) (by rw [← rx'.length]; exact hl)
        obtain ⟨rows, I2, le, rb2⟩ := dn_close (t := s.toks + (nestedKind X.prog X.w).draws nk) I mu hsys (rx'.dr ek) (by have := dr_len kvs k; omega) (dr_nodup k nd) dd' sb
        obtain ⟨rows0, e0, _⟩ := rb
        exact ⟨vv, _, I2, r1, hQ _ _ le (rep.put e0 trivial rb2) (r2.le le)⟩
    match ds, rds, h with
    | [k], rds, h =>
      obtain ⟨y, rfl, rk⟩ := rds1 rds
      obtain ⟨u, rfl, ru⟩ := rv.one
      obtain ⟨o, eo, h⟩ := opt_ex h
      obtain ⟨y, rfl, h⟩ := opt_ex h
      exact there rk ru rfl (.inl rfl) eo h
    | [k, x], rds, h =>
      obtain ⟨y, z, rfl, rk, rx⟩ := rds2 rds
      obtain ⟨u1, u2, rfl, r1, r2⟩ := rv.two
      obtain ⟨o, eo, h⟩ := opt_ex h
      cases o with
      | some y => exact there rk r1 rfl (.inr ⟨_, rfl⟩) eo h
      | none =>
        rcases lkO_val rb eo with ⟨kvs, kk, ws, rfl, ek, el, e0, rks⟩ | ⟨kvs, rfl, hk, el⟩
        · have ey := dkey_rd ek rk
          subst ey
          exact d_popD I e0 r1 (rks.nn el.symm) fun s' I' => ⟨z, H, I', r2, h _ _ (LeH.refl H) rep rx⟩
        · obtain ⟨xs, dd, rx', hsys, hl, nd, mu⟩ := dn_open I rb
          obtain ⟨nk, b, ek, hd8, rfl, rfl, his⟩ := okT_key I hk rk r1
          have hn : atKey xs nk = none := by
            have q := rx'.lk ek
            rw [← el] at q
            revert q
            cases atKey xs nk
            · exact fun _ => rfl
            · exact fun q => q.elim
          exact call_pop_default_heap (show X.A.units + 1 + 8 < cLine by omega) his hsys dd hn (fun tk => ⟨z, H, I.tok _, r2, h _ _ (LeH.refl H) rep rx⟩) (by rw [← rx'.length]; exact hl)
    | [], _, h => exact h.elim
    | _ :: _ :: _ :: _, _, h => exact h.elim
theorem md_dset (hu : X.A.units + 120 < cLine) : MtD X "dict.setdefault" mDSet := by
  refine ⟨fun d ds S Q Q' k h => ?_, fun pins s σ H x vs v us Q I rx rv ⟨d, ds, S, rep, rd, rds, h⟩ => ?_⟩
  · cases d <;> first | exact h.elim | skip
    match ds, h with
    | [_, _], h =>
      refine opt_mono (fun _ z => opt_mono (fun o z => ?_) z) h
      cases o with
      | some y => exact k _ _ z
      | none => exact opt_mono (fun _ z => k _ _ z) z
    | [_], h => exact opt_mono (fun _ z => z) h
    | [], h => exact opt_mono (fun _ z => z) h
    | _ :: _ :: _ :: _, h => exact opt_mono (fun _ z => z) h
  · cases d <;> first | exact h.elim | skip
    rename_i a
    cases rd
    cases rx
    obtain ⟨ob, ea, h⟩ := opt_ex h
    have rb := rep a ob ea
    match ds, rds, h with
    | [k, x], rds, h =>
      obtain ⟨y, z, rfl, rk, rx⟩ := rds2 rds
      obtain ⟨u1, u2, rfl, r1, r2⟩ := rv.two
      obtain ⟨o, eo, h⟩ := opt_ex h
      rcases lkO_val rb eo with ⟨kvs, kk, ws, rfl, ek, el, e0, rks⟩ | ⟨kvs, rfl, hk, el⟩
      · have ey := dkey_rd ek rk
        subst ey
        obtain ⟨hz, hd, vs, rel, dd⟩ := dk_of I.hok e0
        refine call_meetsIn PySem.F.slot_dict_setdefault dd.typeIs PySem.F.entry_dict_setdefault (PySem.F.args_dict_setdefault_3 _ _ _) (kt_meets_setdefault (mixKind X.prog X.w) a (kV_is r1) hd u2) ⟨vs, dd, by rw [← rel.length]; exact hz, fun u eu => ?_, fun eu h' dd' sb => ?_⟩
        · have q := rel.val kk
          rw [eu] at q
          revert q
          cases ev : valV ws kk with
          | none => exact fun q => q.elim
          | some vv =>
            intro q
            have q2 := rks.lk kk
            rw [ev] at q2
            revert q2
            cases e2 : lk kvs kk with
            | none => exact fun q => q.elim
            | some dd =>
              intro q2
              rw [e2] at el
              subst el
              exact ⟨vv, H, I.tok _, q, h _ _ (LeH.refl H) rep q2⟩
        · have q := rel.val kk
          rw [eu] at q
          revert q
          cases ev : valV ws kk with
          | some vv => exact fun q => q.elim
          | none =>
            intro _
            have q2 := rks.lk kk
            rw [ev] at q2
            revert q2
            cases e2 : lk kvs kk with
            | some dd => exact fun q => q.elim
            | none =>
              intro _
              rw [e2] at el
              subst el
              obtain ⟨ob', eb, hQ⟩ := opt_ex h
              have eb' : ((dkey k).bind fun kk => if kvs.length < sizeLine then some (Ob.dK (pt kvs kk x)) else none) = some ob' := by cases k <;> exact eb
              rw [ek, Option.bind_some] at eb'
              split at eb'
              · rename_i hl
                cases eb'
                have le : LeH H (upd H a (.dK (putK ws kk z))) := LeH.put e0 trivial
                have hl2 : (putK ws kk z).length ≤ sizeLine := by have := length_putK ws kk z; have := rks.length; omega
                have he : ∃ q, h'.get? a = some q := let ⟨q, _, _, hq, _⟩ := dd'; ⟨q, hq⟩
                exact ⟨z, _, d_write I (by rw [e0]; exact True.intro) sb he (dk_new hl2 hd (rel.put kk r2) dd'), r2, hQ _ _ le (rep.put e0 trivial (o := .dK (pt kvs kk x)) ⟨_, upd_same, (rks.pt rx).le le⟩) (rx.le le)⟩
              · cases eb'
      · obtain ⟨xs, dd, rx', hsys, hl, nd, mu⟩ := dn_open I rb
        obtain ⟨nk, b, ek, hd8, rfl, rfl, his⟩ := okT_key I hk rk r1
        refine call_setdefault_heap (show X.A.units + 1 + 8 < cLine by omega) his hsys dd (fun p ep => ?_) (fun ep h' dd' sb => ?_) (by rw [← rx'.length]; exact hl)
        · have q := rx'.lk ek
          rw [ep] at q
          revert q
          cases e2 : lk kvs k with
          | none => exact fun q => q.elim
          | some y =>
            rintro ⟨vv, q1, q2⟩
            rw [e2] at el
            subst el
            exact ⟨vv, H, I.tok _, q1, h _ _ (LeH.refl H) rep q2⟩
        · have q := rx'.lk ek
          rw [ep] at q
          revert q
          cases e2 : lk kvs k with
          | some y => exact fun q => q.elim
          | none =>
            intro _
            rw [e2] at el
            subst el
            obtain ⟨ob', eb, hQ⟩ := opt_ex h
            have eb' : (if okT k = true ∧ kvs.length < sizeLine then some (Ob.dN (pt kvs k x)) else none) = some ob' := by cases k <;> exact eb
            split at eb'
            · rename_i hl
              cases eb'
              obtain ⟨rows, I2, le, rb2⟩ := dn_close (t := s.toks + (nestedKind X.prog X.w).draws nk) I mu hsys (rx'.pt ek hd8 rk r2 rx) (by have := pt_len kvs k x; omega) (pt_nodup k x nd) dd' sb
              obtain ⟨rows0, e0, _⟩ := rb
              exact ⟨z, _, I2, r2, hQ _ _ le (rep.put e0 trivial rb2) (rx.le le)⟩
            · cases eb'
    | [_], _, h => exact h.elim
    | [], _, h => exact h.elim
    | _ :: _ :: _ :: _, _, h => exact h.elim
end
/-! ### a, b = a tuple or a list -/
@[simp] def dGTupA (n : Nat) (t : DTGs) : DTG := fun d τ S Q => match d with
  | .tup ds => ds.length = n ∧ t ds τ S Q
  | d => opt (seqD S d) fun ds => ds.length = n ∧ t ds τ S Q
section
variable {X : Cx} {pos : Pos} {ts : DTGs}
theorem dg_tupA {es : List Expr} {k : Nat} {n : Nat} (hc : X.calm = true) (h : DGs X es ts) (hn : (assignEach es X.env).length = n := by rfl) (hst : (assignEach es X.env).findIdx? (·.1) = none := by rfl) : DG X (.Tuple es k pos) (dGTupA n ts) := by
  have two : PG X (.Tuple es k pos) fun v σ H Q => gTup X.K n (upGs X ts) v σ H Q ∨ gLst X.K n (upGs X ts) v σ H Q :=
    ⟨fun pins s σ H v u Q I r q => q.elim ((pg_tup hc h.run hn hst).run pins s σ H v u Q I r) ((pg_lst hc h.run hn hst).run pins s σ H v u Q I r)⟩
  refine ⟨fun d τ S Q Q' k q => ?_, pG_imp two fun v σ H Q ⟨d, τ, S, r, rd, q⟩ => ?_⟩
  · have o : ∀ d : D, (opt (seqD S d) fun ds => ds.length = n ∧ ts ds τ S Q) → (opt (seqD S d) fun ds => ds.length = n ∧ ts ds τ S Q') := fun d q => opt_mono (fun _ q => ⟨q.1, h.mono _ _ _ _ _ k q.2⟩) q
    cases d with
    | tup ds => exact ⟨q.1, h.mono _ _ _ _ _ k q.2⟩
    | non => exact o .non q
    | bl b => exact o (.bl b) q
    | int b => exact o (.int b) q
    | str b => exact o (.str b) q
    | rol b => exact o (.rol b) q
    | ref b => exact o (.ref b) q
  · have lst : ∀ {d : D}, RD X.K H d v → (opt (seqD S d) fun ds => ds.length = n ∧ ts ds τ S fun τ' S' => ∀ σ' H', LeH H H' → Rel X.w X.K τ' S' σ' H' → Q σ' H') → gLst X.K n (upGs X ts) v σ H Q := fun rd q => by
      obtain ⟨ds, e, q⟩ := opt_ex q
      obtain ⟨a, xs, rfl, sq, rs⟩ := seqD_rd r.rep rd e
      exact ⟨a, xs, rfl, sq.l, by rw [← rs.length]; exact q.1, ds, τ, S, r, rs, q.2⟩
    cases d with
    | tup ds =>
      obtain ⟨p, xs, rfl, sq, rds⟩ : ∃ p xs, v = V.ref p ∧ SqT X.K H p xs ∧ RDs X.K H ds xs := rd
      exact .inl ⟨p, xs, rfl, sq, by rw [← rds.length]; exact q.1, ds, τ, S, r, rds, q.2⟩
    | non => exact .inr (lst rd q)
    | bl _ => exact .inr (lst rd q)
    | int _ => exact .inr (lst rd q)
    | str _ => exact .inr (lst rd q)
    | rol _ => exact .inr (lst rd q)
    | ref _ => exact .inr (lst rd q)
end
end Dt
set_option maxRecDepth 100000
set_option maxHeartbeats 4000000
/-! DatK: set(t) of a tuple, sorted(set(t)). -/
namespace Dt
open PySem PySem.Spec L2 PySem.W PyProof.Rows
section
variable {P : Program} {w : World} {A : Around} {E : Value → Shared → Prop} {s : Shared} {a : Addr} {ks : List Key}
set_option maxHeartbeats 8000000 in
/-- set(xs): ints and texts -/
theorem call_ksT {l : Addr} {items : Array Value} {all : List Key} {Q : Value → Shared → Prop} (hh : A.handled = none) (hl : s.heap.IsTuple l items) (hit : EachIs (fun v k => keyIs k v = true) items.toList all) (hb : all.length + 1 < scanBound)
    (h : ∀ (h' : Heap) (tk : Nat), SetKs w h' s.heap.objs.size (firstK all) → (∀ b o, b < s.heap.objs.size → s.heap.get? b = some o → h'.get? b = some o) → Q (.ref s.heap.objs.size) { s with heap := h', toks := tk }) :
    wpAny (model P w) A (call (.type "set") [.ref l]) Q E s := by
  have hn : items.size = all.length := by rw [← Array.length_toList, hit.length]
  obtain ⟨c, tl, hmro⟩ := F.called_set.mro
  have hmade := F.called_set.made; have hsub := F.called_set.sub
  refine wpAny_call (codeAny_of_tree (show wpAny _ _ (callAny (.type "set") _) _ _ _ from wpAny_pure ⟨Code.quiet_builtin _ (by decide +kernel), codeAny_builtin F.entry_type_call ?_⟩))
  rw [Around.under_plain (weight_type_call_type "set" [.ref l] []) rfl]
  have h1 := F.called_set.notType; have h2 := F.called_set.canCreate; have hct := F.typeCall_set_1 (.ref l)
  repeat (any_goals (first | assumption | wp_step))
  refine codeAny_mono (code_set_led1 (.ref l) (E := E) (Q₁ := fun obj s₁ => obj = .ref s.heap.objs.size ∧ s₁ = { s with heap := s.heap.push (newSet w) }) ⟨rfl, rfl⟩) fun r s₁ hr => ?_
  match r, hr with
  | .error e, hr => exact hr
  | .ok .next, hr => exact hr.elim
  | .ok .brk, hr => exact hr.elim
  | .ok .cont, hr => exact hr.elim
  | .ok (.ret obj), ⟨e1, e2⟩ =>
    subst e1; subst e2
    have hS : (s.heap.push (newSet w)).get? s.heap.objs.size = some (newSet w) := Heap.get?_push_size _ rfl
    have hT : Shared.TypeIs { s with heap := s.heap.push (newSet w) } (.ref s.heap.objs.size) "set" := ⟨_, hS, rfl⟩
    have hli := F.called_set.init.lookup; have hbi := F.called_set.init.bind (.ref s.heap.objs.size)
    repeat (any_goals (first | assumption | wp_step))
    refine codeAny_mono (codeAny_call_builtin (R := wants (fun r s₂ => r = .none ∧ ∃ h' tk, s₂ = { s with heap := h', toks := tk } ∧ SetKs w h' s.heap.objs.size (firstK all) ∧ ∀ b o, b < s.heap.objs.size → s.heap.get? b = some o → h'.get? b = some o) E) F.called_set.init.plain F.entry_set_init (check_set_init_1 hT ?_)) fun r₂ s₂ hr₂ => ?_
    · obtain ⟨⟨ocls, odict, odata, oslots⟩, hol, hcl, nl, hdl⟩ := hl
      simp only at hcl hdl
      subst hcl; subst hdl
      have hol' : (s.heap.push (newSet w)).get? l = some { cls := .type "tuple", dict := odict, data := .seq items nl, slots := oslots } := Heap.get?_push_of_some _ hol
      have hsls := F.sub_tuple_set; have hslf := F.sub_tuple_frozenset; have hne : (Value.type "tuple" == Value.type "dict") = false := by decide
      have hl1 : (s.heap.push (newSet w)).IsTuple l items := ⟨_, hol', rfl, nl, rfl⟩
      unfold Builtin.«set.__init__» noKeywords Builtin.Frozenset.updateFrom
      (generalize hPI : pyIter = PI; wp_walk; subst hPI)
      refine wpAny_pyIter_tuple hl1 (wpAny_bind (wpAny_runValue ?_))
      have hlS : l < s.heap.objs.size := Heap.lt_size hol
      have hh3 : A.in1.in1.in1.handled = none := by simp [hh]
      have hz : (s.heap.push (newSet w)).objs.size = s.heap.objs.size + 1 := Heap.size_push ..
      have hneI : l ≠ (s.heap.push (newSet w)).objs.size := fun z => absurd hlS (by rw [z, Heap.size_push]; exact Nat.not_lt_of_le (Nat.le_succ _))
      have hSf : s.heap.objs.size ∉ [(s.heap.push (newSet w)).objs.size, l] := by
        rw [Heap.size_push]
        simp only [List.mem_cons, List.not_mem_nil, or_false, not_or]
        exact ⟨fun z => absurd z (Nat.ne_of_lt (Nat.lt_succ_self _)), fun z => absurd hlS (by rw [← z]; exact Nat.lt_irrefl _)⟩
      have hval : ∀ (i : Nat) (v : Value), items[i]? = some v → ∃ k, all[i]? = some k ∧ keyIs k v = true := fun i v hv => by
        rw [← Array.getElem?_toList] at hv
        exact each_get hit hv
      refine ks_loop (B := s.heap.objs.size) (all := all) ((Walks.tuple hh3 _ l hneI items).toS) hSf hn hval (by omega) (fun s' s0 hm hS' e0 => ?_) (items.size - 0) 0 _ (by omega) (Nat.zero_le _) ⟨⟨_, Heap.get?_push_size _ rfl, rfl, rfl⟩, (hl1.push _)⟩ (ks_none (Heap.get?_push_of_some _ hS)) (fun _ z => z)
      subst e0
      obtain ⟨h', g', d', tk', os'⟩ := s'
      have eg : g' = s.gens := hm.gens
      have ed : d' = s.drawn := hm.drawn
      have eo : os' = s.os := hm.os
      subst eg; subst ed; subst eo
      refine (show wpAny _ _ _ _ _ _ from wpAny_pure (show wpAny _ _ (ret Value.none) _ _ _ from wpAny_pure ⟨rfl, h', tk', rfl, hS', fun b o hb e => ?_⟩))
      exact hm.heap b o (by rw [Heap.size_push]; simp only [List.mem_cons, List.not_mem_nil, or_false, not_or]; exact ⟨Nat.ne_of_lt hb, Nat.ne_of_lt (Nat.lt_succ_of_lt hb)⟩) (Heap.get?_push_of_some _ (Heap.get?_push_of_some _ e))
    · match r₂, hr₂ with
      | .error e, hr₂ => exact hr₂
      | .ok .next, hr₂ => exact hr₂.elim
      | .ok .brk, hr₂ => exact hr₂.elim
      | .ok .cont, hr₂ => exact hr₂.elim
      | .ok (.ret r), ⟨e1, h', tk, e2, hS', hk'⟩ =>
        subst e1; subst e2
        repeat (any_goals (first | assumption | wp_step))
        exact h _ _ hS' hk'
end
end Dt

namespace Dt
open PySem PySem.Spec L2 PySem.W PyProof.Rows
/-- the row of a tuple or a list -/
def rowD (S : DH) (d : D) : Option (List D) := match d with | .tup xs => some xs | d => seqD S d
@[simp] theorem rowD_tup (S : DH) (xs : List D) : rowD S (.tup xs) = some xs := rfl
@[simp] theorem rowD_rol (S : DH) (xs : List D) : rowD S (.rol xs) = some xs := rfl
@[simp] theorem rowD_ref (S : DH) (a : Addr) : rowD S (.ref a) = (match S a with | some (.lst xs) => some xs | _ => none) := rfl
section
variable {X : Cx}
def rSetKsA (K : PySem.W.Frag) (w : World) : List V → Hp → VK → Prop := fun vs H Q => ∃ (a : Addr) (all : List Key), vs = [.ref a] ∧ (SqL K H a (all.map kV) ∨ SqT K H a (all.map kV)) ∧ all.length + 1 < scanBound ∧ ∀ p, H p = none → Q (.ref p) (upd H p (setHO w p (firstK all)))
theorem cr_setKsA (hc : X.calm = true) : CallR X (.type "set") (rSetKsA X.K X.w) := by
  intro pins s σ H vs us Q I r ⟨a, all, e, sq, hb, q⟩
  subst e
  rcases sq with sq | sq
  · exact cr_setKs hc pins s σ H _ us Q I r ⟨a, all, rfl, sq, hb, q⟩
  · obtain ⟨its, rv, hl, hz⟩ := I.tuple sq
    rw [Vals.ref1 r]
    refine call_ksT (I.ok.hd hc) (show s.heap.IsTuple a its.toArray from hl) (by simpa using each_keyV X.prog X.w rv) hb fun h' tk S k => ?_
    exact ⟨.ref _, upd H s.heap.objs.size (setHO X.w s.heap.objs.size (firstK all)), I.laid (t' := tk) (fun b u e => k b u (Heap.lt_size e) e) (Nat.le_refl _) (setHO_ok S), rfl, q _ (I.hok.fresh (Nat.le_refl _))⟩
variable {x y : Str} {e : Expr} {p p' pos pos' : Pos} {t : DTE}
@[simp] def dSortSetA (t : DTE) : DTE := fun E τ S Q => t E τ S fun d S1 => opt (rowD S1 d) fun xs => (∃ b, ∀ d ∈ xs, hasTy (scTy b) d = true) ∧ xs.length + 1 < scanBound ∧ newO S1 (.lst (ssD xs)) fun p S' => Q (.ref p) S'
@[simp] def dSortSetAF (t : DTE) : DTE := fun E τ S Q => t E τ S fun d S1 => opt (rowD S1 d) fun xs => (∃ b, ∀ d ∈ xs, hasTy (scTy b) d = true) ∧ xs.length + 1 < scanBound ∧ Q (.rol (ssD xs)) S1
theorem de_sortSetA (hc : X.calm = true) (hu : X.A.units + 64 < cLine) (hgs : Gl X "sorted") (hms : X.mg "sorted" = none) (hgt : Gl X "set") (hmt : X.mg "set" = none) (hbs : bootBuiltins "sorted" = some (.builtin "sorted")) (hbt : bootBuiltins "set" = some (.type "set")) (he : DE X e t)
    (h1 : starEach [e] X.env = (false, eval e X.env) :: starEach [] X.env := by rfl) (h2 : starEach [Expr.Call (.Name "set" p') [e] [] pos'] X.env = (false, eval (Expr.Call (.Name "set" p') [e] [] pos') X.env) :: starEach [] X.env := by rfl) :
    DE X (.Call (.Name "sorted" p) [.Call (.Name "set" p') [e] [] pos'] [] pos) (dSortSetA t) := by
  refine ⟨fun E E' τ S Q Q' hE k q => he.mono _ _ _ _ _ _ hE (fun d S1 q => opt_mono (fun _ q => ⟨q.1, q.2.1, fun p hp => k _ _ (q.2.2 p hp)⟩) q) q, pE_imp (pe_callB (cr_sortKs hc hu) hgs hms hbs (pa_cons (pe_callTy (cr_setKsA hc) hgt hmt hbt (pa_cons he.run pa_nil h1) (by decide) (by decide) h1 rfl) pa_nil h2) (by decide) (by decide) h2 rfl) fun σ H Q ⟨E, τ, S, w, rl, q⟩ => ?_⟩
  refine he.to w rl q fun d S1 v H1 le w1 r1 rd q => ?_
  obtain ⟨xs, ex, ⟨b, hb⟩, hl, q⟩ := opt_ex q
  have ht : scTy b = .int ∨ scTy b = .str := by cases b; exact .inr rfl; exact .inl rfl
  obtain ⟨all, rfl⟩ := keys_of ht hb
  have hal : AllAlike (all.map keyP) := fun p hp q hq => by
    obtain ⟨j, hj, rfl⟩ := List.mem_map.mp hp
    obtain ⟨k, hk, rfl⟩ := List.mem_map.mp hq
    rw [keyP_D, keyP_D]
    exact hasTy_alike _ _ _ (hb _ (List.mem_map_of_mem hj)) (hb _ (List.mem_map_of_mem hk))
  obtain ⟨a, rfl, sq⟩ : ∃ a, v = .ref a ∧ (SqL X.K H1 a (all.map kV) ∨ SqT X.K H1 a (all.map kV)) := by
    cases d with
    | tup ds =>
      cases ex
      obtain ⟨a, ys, rfl, sq, rs⟩ : ∃ a ys, v = V.ref a ∧ SqT X.K H1 a ys ∧ RDs X.K H1 (all.map keyD) ys := rd
      exact ⟨a, rfl, .inr (rds_keys rs ▸ sq)⟩
    | rol ds =>
      cases ex
      obtain ⟨a, ys, rfl, sq, rs⟩ : ∃ a ys, v = V.ref a ∧ SqR X.K H1 a ys ∧ RDs X.K H1 (all.map keyD) ys := rd
      exact ⟨a, rfl, .inl (rds_keys rs ▸ sq.l)⟩
    | ref a =>
      simp only [rowD_ref] at ex
      split at ex
      · rename_i ys ea
        cases ex
        obtain ⟨zs, e0, rs⟩ : ∃ zs, H1 a = some (.lst zs) ∧ RDs X.K H1 (all.map keyD) zs := r1.rep a _ ea
        exact ⟨a, rd, .inl (rds_keys rs ▸ .of e0)⟩
      · cases ex
    | non => cases ex
    | bl _ => cases ex
    | int _ => cases ex
    | str _ => cases ex
  refine ⟨a, all, rfl, sq, by simpa using hl, fun p hp => ⟨p, firstK all, rfl, upd_same, alike_first hal, fun bs pb q' hq => ?_⟩⟩
  have rg := r1.rep.garb (u := setHO X.w p (firstK all)) hp
  have e : (bs.mergeSort (dataLe false keyP)).map keyD = ssD (all.map keyD) := by
    refine (ss_is (t := scTy b) hb (nodup_mapD ((List.mergeSort_perm ..).nodup_iff.mpr (pb.nodup_iff.mpr (first_nodup all)))) (key_sorted (t := .int)) fun x => ?_).symm
    rw [List.mem_map, List.mem_map]
    constructor
    · rintro ⟨k, hk, rfl⟩
      exact ⟨k, (List.mergeSort_perm ..).mem_iff.mpr (pb.mem_iff.mpr (first_mem.mpr hk)), rfl⟩
    · rintro ⟨k, hk, rfl⟩
      exact ⟨k, first_mem.mp (pb.mem_iff.mp ((List.mergeSort_perm ..).mem_iff.mp hk)), rfl⟩
  exact q q' (rg.free hq) _ _ (le.trans ((LeH.new hp).trans (LeH.new hq))) (rg.new hq ⟨_, upd_same, by rw [← e]; exact keys_rds _⟩) rfl
theorem de_sortSetAF (hc : X.calm = true) (hu : X.A.units + 64 < cLine) (hgs : Gl X "sorted") (hms : X.mg "sorted" = none) (hgt : Gl X "set") (hmt : X.mg "set" = none) (hbs : bootBuiltins "sorted" = some (.builtin "sorted")) (hbt : bootBuiltins "set" = some (.type "set")) (he : DE X e t)
    (h1 : starEach [e] X.env = (false, eval e X.env) :: starEach [] X.env := by rfl) (h2 : starEach [Expr.Call (.Name "set" p') [e] [] pos'] X.env = (false, eval (Expr.Call (.Name "set" p') [e] [] pos') X.env) :: starEach [] X.env := by rfl) :
    DE X (.Call (.Name "sorted" p) [.Call (.Name "set" p') [e] [] pos'] [] pos) (dSortSetAF t) :=
  (de_fz (de_sortSetA hc hu hgs hms hgt hmt hbs hbt he h1 h2)).sub (fun E E' τ S Q Q' hE k q => he.mono _ _ _ _ _ _ hE (fun d S1 q => opt_mono (fun _ q => ⟨q.1, q.2.1, k _ _ q.2.2⟩) q) q) fun E τ S Q q => he.mono _ _ _ _ _ _ (fun _ _ _ _ z => z) (fun d S1 q => opt_mono (fun _ q => ⟨q.1, q.2.1, fun p hp => fzK_new hp q.2.2⟩) q) q
end
end Dt
set_option maxRecDepth 100000
set_option maxHeartbeats 4000000
namespace Dt
open PySem PySem.Spec L2 PyProof.Rows
section
variable {X : Cx}
/-! ### count, index, remove: plain data -/
def mCount : RMD := fun d ds S Q => ∃ (y : D) (xs : List D), ds = [y] ∧ seqD S d = some xs ∧ Sm 60 y ∧ (∀ x ∈ xs, Sm 60 x) ∧ Q (.int (xs.count y : Nat)) S
theorem countP_P {y : D} (hy : pl y = true) : ∀ {xs : List D}, (∀ x ∈ xs, pl x = true) → ((toPs xs).countP fun z => PyData.eqv z (toP y)) = xs.count y
  | [], _ => rfl
  | x :: xs, h => by
    have ih := countP_P hy (xs := xs) fun z hz => h z (List.mem_cons_of_mem _ hz)
    simp only [toPs, List.countP_cons, List.count_cons, ih, eqv_P x y (h x (List.mem_cons_self ..)) hy, deq_dec]
    by_cases e : x = y <;> simp [e]
theorem Sm.all_pl {n : Nat} {xs : List D} (h : ∀ x ∈ xs, Sm n x) : ∀ x ∈ xs, pl x = true := fun x hx => (h x hx).1
theorem plainAll_of : ∀ {ps : List PyData}, PyData.canLayAll0 ps = true → PyData.plainAll ps = true := fun {ps} h => by
  have := PyData.plain_of_canLay0 (.list ps) (by simpa [PyData.canLay0] using h)
  simpa [PyData.plain] using this
/-- the true list behind a list of plain data -/
theorem list_reads {pins : List (Addr × Obj)} {σ : L2.St} {s : Shared} {S : DH} {H : Hp} {d : D} {v : V} {xs : List D} (I : Inv X pins σ H s) (rep : Rep X.w X.K S H) (rd : RD X.K H d v) (e : seqD S d = some xs) (h : ∀ x ∈ xs, Sm 60 x) :
    ∃ (a : Addr) (its : Array Value) (as : List Addr), v = .ref a ∧ s.heap.IsList a its ∧ ReadsAll s.heap its.toList (toPs xs) as ∧ SeqAt.shaped (.list (toPs xs)) = true ∧ its.size = xs.length ∧ its.size ≤ sizeLine := by
  obtain ⟨hp, hs⟩ := seqD_pd e h
  have dp := Pd.dp rep _ _ _ hp rd
  simp only [toP] at dp hs
  cases dp with
  | @lst a ys _ hl ha =>
    obtain ⟨its, rv, p, hz⟩ := I.list hl
    obtain ⟨as, h4⟩ := Dp.readsAll I (toPs xs) _ its ha rv
    refine ⟨a, its.toArray, as, rfl, p.isList, h4, hs, ?_, ?_⟩
    · have := SeqAt.ReadsAll.length (toPs xs) its as h4
      rw [toPs_map, List.length_map] at this
      simpa using this
    · have := rv.length; simpa [← this] using hz
theorem md_count (hu : X.A.units + 65 < cLine) : MtD X "list.count" mCount := by
  refine ⟨fun d ds S Q Q' k ⟨y, xs, h1, h2, h3, h4, h⟩ => ⟨y, xs, h1, h2, h3, h4, k _ _ h⟩, fun pins s σ H x vs v us Q I rx rv ⟨d, ds, S, rep, rd, rds, y, xs, h1, h2, h3, h4, h⟩ => ?_⟩
  subst h1
  obtain ⟨u, rfl, ru⟩ := rds1 rds
  cases rv with
  | cons ry rt =>
  cases rt
  obtain ⟨a, its, as, rfl, il, ra, sh, hn, hz⟩ := list_reads I rep rd h2 h4
  cases rx
  obtain ⟨bs, r1⟩ := Dp.reads I _ _ _ (Pd.dp rep _ _ _ (h3.pd S) ru) ry
  have shy := h3.shaped (by decide)
  refine SeqAt.count_list_data il ra r1 (plainAll_of (SeqAt.canLay_of_shaped sh)) (PyData.plain_of_canLay0 _ (SeqAt.canLay_of_shaped shy)) (room_in_shaped shy hu) ?_
  rw [countP_P h3.1 (Sm.all_pl h4)]
  exact ⟨.int _, H, I.tok _, ⟨_, rfl⟩, h _ H (LeH.refl H) rep rfl⟩
def mIndex : RMD := fun d ds S Q => ∃ (y : D) (xs : List D) (j : Nat), ds = [y] ∧ seqD S d = some xs ∧ Sm 60 y ∧ (∀ x ∈ xs, Sm 60 x) ∧ xs[j]? = some y ∧ (∀ m, m < j → xs[m]? ≠ some y) ∧ Q (.int j) S
theorem toPs_at {xs : List D} {m : Nat} {p : PyData} (h : (toPs xs)[m]? = some p) : ∃ x, xs[m]? = some x ∧ p = toP x := by
  rw [toPs_map, List.getElem?_map] at h
  cases e : xs[m]? with
  | none => rw [e] at h; cases h
  | some x => rw [e] at h; exact ⟨x, rfl, (Option.some.inj h).symm⟩
theorem md_index (hu : X.A.units + 65 < cLine) : MtD X "list.index" mIndex := by
  refine ⟨fun d ds S Q Q' k ⟨y, xs, j, h1, h2, h3, h4, h5, h6, h⟩ => ⟨y, xs, j, h1, h2, h3, h4, h5, h6, k _ _ h⟩, fun pins s σ H x vs v us Q I rx rv ⟨d, ds, S, rep, rd, rds, y, xs, j, h1, h2, h3, h4, h5, h6, h⟩ => ?_⟩
  subst h1
  obtain ⟨u, rfl, ru⟩ := rds1 rds
  obtain ⟨hp, hs⟩ := seqD_pd h2 h4
  have dp := Pd.dp rep _ _ _ hp rd
  obtain ⟨a, xs', ea, _, _⟩ := seqD_rd rep rd h2
  subst ea
  refine mt_indexD hu pins s σ H _ _ v us Q I rx rv ⟨a, u, toP y, toPs xs, j, toP y, rfl, rfl, dp, Pd.dp rep _ _ _ (h3.pd S) ru, hs, h3.shaped (by decide), ?_, ?_, ?_, h _ H (LeH.refl H) rep rfl⟩
  · rw [toPs_map, List.getElem?_map, h5]; rfl
  · rw [eqv_P y y h3.1 h3.1, deq_self]
  · intro m z hm hz
    obtain ⟨x, hx, rfl⟩ := toPs_at hz
    have hxm : x ∈ xs := List.mem_of_getElem? hx
    rw [eqv_P x y (h4 x hxm).1 h3.1, deq_dec]
    exact decide_eq_false fun e => h6 m hm (e ▸ hx)
def mRemove : RMD := fun d ds S Q => mLst ds d S fun xs up => ∃ (y : D) (j : Nat), ds = [y] ∧ Sm 60 y ∧ (∀ x ∈ xs, Sm 60 x) ∧ xs[j]? = some y ∧ (∀ m, m < j → xs[m]? ≠ some y) ∧ Q .non (up (xs.eraseIdx j))
theorem md_remove (hu : X.A.units + 65 < cLine) : MtD X "list.remove" mRemove := by
  refine ⟨fun d ds S Q Q' k h => mLst_mono (fun a xs e1 e2 ⟨y, j, h1, h2, h3, h4, h5, h⟩ => ⟨y, j, h1, h2, h3, h4, h5, k _ _ h⟩) h, fun pins s σ H x vs v us Q I rx rv ⟨d, ds, S, rep, rd, rds, h⟩ => ?_⟩
  obtain ⟨a, xs, rfl, ea, y, j, h1, h2, h3, h4, h5, hq⟩ := mLst_ex h
  subst h1
  obtain ⟨u, rfl, ru⟩ := rds1 rds
  cases rv with
  | cons ry rt =>
  cases rt
  cases rd
  obtain ⟨a', its, as, ea', il, ra, sh, hn, hz⟩ := list_reads I rep (d := .ref a) rfl (show seqD S (.ref a) = some xs by simp [ea]) h3
  cases ea'
  cases rx
  obtain ⟨bs, r1⟩ := Dp.reads I _ _ _ (Pd.dp rep _ _ _ (h2.pd S) ru) ry
  have shy := h2.shaped (by decide)
  obtain ⟨ys, e0, rs⟩ : ∃ ys, H a = some (.lst ys) ∧ RDs X.K H xs ys := rep a _ ea
  obtain ⟨z, its2, n, r, hl, e⟩ := I.lstM e0
  have hp : SeqAt.dataPlace (toPs xs) (toP y) = some j := by
    unfold SeqAt.dataPlace
    obtain ⟨hj, hje⟩ := List.getElem?_eq_some_iff.mp h4
    rw [List.findIdx?_eq_some_iff_getElem]
    have hjl : j < (toPs xs).length := by rw [toPs_map, List.length_map]; exact hj
    refine ⟨hjl, ?_, fun m hm => ?_⟩
    · have : (toPs xs)[j] = toP y := by simp [toPs_map, hje]
      rw [this, eqv_P y y h2.1 h2.1, deq_self]
    · have hml : m < xs.length := by omega
      have : (toPs xs)[m] = toP xs[m] := by simp [toPs_map]
      rw [this, eqv_P _ y (h3 _ (List.getElem_mem hml)).1 h2.1, deq_dec]
      simp
      exact fun e => h5 m hm (by rw [List.getElem?_eq_getElem hml, e])
  refine SeqAt.remove_list_data il ra r1 (plainAll_of (SeqAt.canLay_of_shaped sh)) (PyData.plain_of_canLay0 _ (SeqAt.canLay_of_shaped shy)) (room_in_shaped shy hu) hp hz ?_
  have le : LeH H (upd H a (.lst (ys.eraseIdx j))) := LeH.put e0 trivial
  refine ⟨.non, _, I.lset (its' := its2.eraseIdx j) (t' := s.toks) e0 e ?_ (r.eraseIdx j) ?_, rfl, hq _ _ le (rep.put e0 trivial (o := .lst (xs.eraseIdx j)) ⟨_, upd_same, (rs.eraseIdx j).le le⟩) rfl⟩
  · show its2.toArray.eraseIdxIfInBounds j = (its2.eraseIdx j).toArray
    rw [List.eraseIdxIfInBounds_toArray]
  · have := List.length_eraseIdx_le ys j
    have := rs.length
    omega
@[simp] def mClear : RMD := fun d ds S Q => mLst ds d S fun xs up => match ds with | [] => Q .non (up []) | _ => False
theorem md_clear : MtD X "list.clear" mClear := by
  refine ⟨fun d ds S Q Q' k h => mLst_mono (fun a xs e1 e2 z => ?_) h, fun pins s σ H x vs v us Q I rx rv ⟨d, ds, S, rep, rd, rds, h⟩ => ?_⟩
  · match ds, z with | [], z => exact k _ _ z
  · obtain ⟨a, xs, rfl, ea, z⟩ := mLst_ex h
    match ds, z with
    | [], z =>
      cases rd
      cases rds
      obtain ⟨ys, e0, rs⟩ : ∃ ys, H a = some (.lst ys) ∧ RDs X.K H xs ys := rep a _ ea
      have le : LeH H (upd H a (.lst ([] : List V))) := LeH.put e0 trivial
      exact mt_clear pins s σ H _ _ v us Q I rx rv ⟨a, ys, rfl, rfl, e0, z _ _ le (rep.put e0 trivial (o := .lst []) ⟨_, upd_same, RDs.nil⟩) rfl⟩
@[simp] def mPopAt : RMD := fun d ds S Q => mLst ds d S fun xs up => match ds with | [.int i] => (-(2 ^ 63) ≤ i ∧ i < 2 ^ 63) ∧ opt (seqIndex? i xs.length) fun k => opt xs[k]? fun y => Q y (up (xs.eraseIdx k)) | _ => False
theorem md_popAt : MtD X "list.pop" mPopAt := by
  refine ⟨fun d ds S Q Q' k h => mLst_mono (fun a xs e1 e2 z => ?_) h, fun pins s σ H x vs v us Q I rx rv ⟨d, ds, S, rep, rd, rds, h⟩ => ?_⟩
  · match ds, z with | [.int i], z => exact ⟨z.1, opt_mono (fun _ z => opt_mono (fun _ z => k _ _ z) z) z.2⟩
  · obtain ⟨a, xs, rfl, ea, z⟩ := mLst_ex h
    match ds, z with
    | [.int i], z =>
      cases rd
      obtain ⟨u, rfl, ru⟩ := rds1 rds
      cases ru
      obtain ⟨⟨z1, z2⟩, z⟩ := z
      obtain ⟨k, ek, z⟩ := opt_ex z
      obtain ⟨y, ey, z⟩ := opt_ex z
      obtain ⟨ys, e0, rs⟩ : ∃ ys, H a = some (.lst ys) ∧ RDs X.K H xs ys := rep a _ ea
      obtain ⟨u, eu, ru⟩ := rs.get ey
      have le : LeH H (upd H a (.lst (ys.eraseIdx k))) := LeH.put e0 trivial
      exact mt_popAt pins s σ H _ _ v us Q I rx rv ⟨a, ys, i, k, u, rfl, rfl, e0, z1, z2, by rw [← rs.length]; exact ek, eu, z _ _ le (rep.put e0 trivial (o := .lst (xs.eraseIdx k)) ⟨_, upd_same, (rs.eraseIdx k).le le⟩) (ru.le le)⟩
/-! ### texts -/
@[simp] def mSplit : RMD := fun d ds S Q => match d, ds with | .str a, [.str b] => (b.length == 0) = false ∧ a.length + 2 ≤ sizeLine ∧ newO S (.lst ((Txt.split a b).map D.str)) fun p S' => Q (.ref p) S' | _, _ => False
theorem md_split : MtD X "str.split" mSplit := by
  refine ⟨fun d ds S Q Q' k h => ?_, fun pins s σ H x vs v us Q I rx rv ⟨d, ds, S, rep, rd, rds, h⟩ => ?_⟩
  · match d, ds, h with | .str a, [.str b], h => exact ⟨h.1, h.2.1, fun p hp => k _ _ (h.2.2 p hp)⟩
  · match d, ds, h with
    | .str a, [.str b], h =>
      cases rd
      obtain ⟨u, rfl, ru⟩ := rds1 rds
      cases ru
      exact mt_split pins s σ H _ _ v us Q I rx rv ⟨a, b, rfl, rfl, h.1, h.2.1, fun p hp => rep_new (Q0 := fun _ _ => True) rep hp (RDs.strs.mpr rfl) (h.2.2 p (rep.free hp))⟩
@[simp] def cStr : RCD := fun ds S Q => match ds with | [.int i] => i.natAbs.log2 < 1920 ∧ Q (.str (toString i)) S | [.str a] => Q (.str a) S | _ => False
theorem cd_str : CallD X (.type "str") cStr := by
  refine ⟨fun ds S Q Q' k h => ?_, fun pins s σ H vs us Q I rv ⟨ds, S, rep, rd, h⟩ => ?_⟩
  · match ds, h with
    | [.int i], h => exact ⟨h.1, k _ _ h.2⟩
    | [.str i], h => exact k _ _ h
  · match ds, h with
    | [.int i], h =>
      obtain ⟨v, rfl, r⟩ := rds1 rd
      cases r
      exact call_str_int pins s σ H _ us Q I rv ⟨i, rfl, h.1, h.2 _ H (LeH.refl H) rep rfl⟩
    | [.str i], h =>
      obtain ⟨v, rfl, r⟩ := rds1 rd
      cases r
      exact SkE.call_str_str pins s σ H _ us Q I rv ⟨i, rfl, h _ H (LeH.refl H) rep rfl⟩
@[simp] def cIntS : RCD := fun ds S Q => match ds with | [.int i] => Q (.int i) S | [.bl b] => Q (.int (if b then 1 else 0)) S | [.str a] => a.length ≤ 640 ∧ opt (PySem.intText? a) fun n => Q (.int n) S | _ => False
theorem cd_intS : CallD X (.type "int") cIntS := by
  refine ⟨fun ds S Q Q' k h => ?_, fun pins s σ H vs us Q I rv ⟨ds, S, rep, rd, h⟩ => ?_⟩
  · match ds, h with
    | [.int i], h => exact k _ _ h
    | [.bl i], h => exact k _ _ h
    | [.str a], h => exact ⟨h.1, opt_mono (fun _ z => k _ _ z) h.2⟩
  · match ds, h with
    | [.int i], h => exact cd_int.run pins s σ H vs us Q I rv ⟨[.int i], S, rep, rd, h⟩
    | [.bl i], h => exact cd_int.run pins s σ H vs us Q I rv ⟨[.bl i], S, rep, rd, h⟩
    | [.str a], h =>
      obtain ⟨v, rfl, r⟩ := rds1 rd
      cases r
      obtain ⟨n, e, z⟩ := opt_ex h.2
      exact call_int_str pins s σ H _ us Q I rv ⟨a, n, rfl, e, h.1, z _ H (LeH.refl H) rep rfl⟩
end
section
variable {X : Cx} {tg l : Expr} {tl : DTE} {p pos : Pos}
@[simp] def dRev (tl : DTE) : DTI := fun E τ S R => tl E τ S fun d S1 => match d with
  | .tup ds => R (fun _ => True) ds.reverse S1
  | .rol ds => R (fun _ => True) ds.reverse S1
  | .ref a => (match S1 a with | some (.lst ds) => R (fun S => S a = some (.lst ds)) ds.reverse S1 | _ => False)
  | _ => False
theorem rev_at {α : Type} {xs : List α} {i : Nat} (h : i < xs.length) : xs[xs.length - 1 - i]? = xs.reverse[i]? := by
  rw [List.getElem?_reverse h]
theorem feeds_revL {w : World} {K : PySem.W.Frag} {H0 : Hp} {a : Addr} {ds : List D} {G : DH → Prop} (h : ∀ S H, LeH H0 H → Rep w K S H → G S → ∃ xs, SqL K H a xs ∧ RDs K H ds xs) : Feeds w K H0 (Itv K a ds.length) G ds.reverse where
  go := fun i S H le rp g hi => by
    obtain ⟨xs, sq, rs⟩ := h S H le rp g
    have hl := rs.length
    rw [List.length_reverse] at hi
    exact ⟨hi, xs, xs[ds.length - 1 - i]'(by omega), sq, by simp⟩
  yld := fun i S H x H' le rp g hi ⟨e, y⟩ => by
    subst e
    obtain ⟨xs, sq, rs⟩ := h S _ le rp g
    rw [List.length_reverse] at hi
    obtain ⟨d, e, r⟩ := rs.got (y xs sq)
    exact ⟨LeH.refl _, rp, d, by rw [← rev_at hi]; exact e, r⟩
  stop := fun S H le rp g => by
    show ds.length ≤ ds.reverse.length
    simp
theorem feeds_revT {w : World} {K : PySem.W.Frag} {H0 : Hp} {a : Addr} {ds : List D} {G : DH → Prop} (h : ∀ S H, LeH H0 H → Rep w K S H → G S → ∃ xs, SqT K H a xs ∧ RDs K H ds xs) : Feeds w K H0 (RT.ItvT K a ds.length) G ds.reverse where
  go := fun i S H le rp g hi => by
    obtain ⟨xs, sq, rs⟩ := h S H le rp g
    have hl := rs.length
    rw [List.length_reverse] at hi
    exact ⟨hi, xs, xs[ds.length - 1 - i]'(by omega), sq, by simp⟩
  yld := fun i S H x H' le rp g hi ⟨e, y⟩ => by
    subst e
    obtain ⟨xs, sq, rs⟩ := h S _ le rp g
    rw [List.length_reverse] at hi
    obtain ⟨d, e, r⟩ := rs.got (y xs sq)
    exact ⟨LeH.refl _, rp, d, by rw [← rev_at hi]; exact e, r⟩
  stop := fun S H le rp g => by
    show ds.length ≤ ds.reverse.length
    simp
theorem di_rev (hg : Gl X "reversed") (hm : X.mg "reversed" = none) (hl : DE X l tl) (hs : starEach [l] X.env = (false, eval l X.env) :: starEach [] X.env := by rfl) : DI X tg (.Call (.Name "reversed" p) [l] [] pos) (dRev tl) := by
  refine ⟨fun E E' τ S Q Q' he k q => hl.mono _ _ _ _ _ _ he (fun d S1 z => ?_) q, pI_imp (RT.pi_revA hg hm hl.run hs) fun σ H R ⟨E, τ, S, w, r, q⟩ => ?_⟩
  · cases d with
    | tup ds => exact k _ _ _ z
    | rol ds => exact k _ _ _ z
    | ref a =>
      revert z
      show (match S1 a with | some (.lst ds) => _ | _ => False) → (match S1 a with | some (.lst ds) => _ | _ => False)
      split
      · exact k _ _ _
      · exact fun z => z
    | _ => exact z
  · refine hl.to w r q fun d S1 x H1 le w1 r1 rd z => ?_
    cases d with
    | tup ds =>
      obtain ⟨p, ys, rfl, sq, rs⟩ : ∃ p ys, x = V.ref p ∧ SqT X.K H1 p ys ∧ RDs X.K H1 ds ys := rd
      exact ⟨p, ys, rfl, .inr ⟨sq, by rw [← rs.length]; exact z _ H1 le r1.rep (feeds_revT fun S H le rp g => ⟨ys, sqT_le le sq, rs.le le⟩)⟩⟩
    | rol ds =>
      obtain ⟨p, ys, rfl, sq, rs⟩ : ∃ p ys, x = V.ref p ∧ SqR X.K H1 p ys ∧ RDs X.K H1 ds ys := rd
      exact ⟨p, ys, rfl, .inl ⟨sq.l, by rw [← rs.length]; exact z _ H1 le r1.rep (feeds_revL fun S H le rp g => ⟨ys, (sq.le le).l, rs.le le⟩)⟩⟩
    | ref a =>
      cases rd
      revert z
      show (match S1 a with | some (.lst ds) => _ | _ => False) → _
      split
      · rename_i ds ea
        intro z
        obtain ⟨ys, e0, rs⟩ : ∃ ys, H1 a = some (.lst ys) ∧ RDs X.K H1 ds ys := r1.rep a _ ea
        exact ⟨a, ys, rfl, .inl ⟨.of e0, by rw [← rs.length]; exact z _ H1 le r1.rep (feeds_revL fun S H le rp g => by
          obtain ⟨zs, e1, rz⟩ : ∃ ys, H a = some (.lst ys) ∧ RDs X.K H ds ys := rp a _ g
          exact ⟨zs, .of e1, rz⟩)⟩⟩
      · exact fun z => z.elim
    | _ => exact z.elim
/-! ### e[::-1] of a list -/
@[simp] def dRevL (tl : DTE) : DTE := fun E τ S Q => tl E τ S fun d S1 => opt (seqD S1 d) fun xs => newO S1 (.lst xs.reverse) fun p S' => Q (.ref p) S'
@[simp] def dRevLF (tl : DTE) : DTE := fun E τ S Q => tl E τ S fun d S1 => opt (seqD S1 d) fun xs => Q (.rol xs.reverse) S1
theorem de_revL {k : Nat} {p1 p2 p3 : Pos} (hl : DE X l tl) : DE X (.Subscript l (.Slice none none (some (.UnaryOp .USub (.Constant (.int 1) k p1) p2)) p3) pos) (dRevL tl) := by
  refine ⟨fun E E' τ S Q Q' he k q => hl.mono _ _ _ _ _ _ he (fun d S1 z => opt_mono (fun _ z p hp => k _ _ (z p hp)) z) q, pE_imp (pe_revL hl.run) fun σ H Q ⟨E, τ, S, w, r, q⟩ => ?_⟩
  refine hl.to w r q fun d S1 x H1 le w1 r1 rd z => ?_
  obtain ⟨xs, e, z⟩ := opt_ex z
  obtain ⟨a, ys, rfl, sq, rs⟩ := seqD_rd r1.rep rd e
  exact ⟨a, ys, rfl, sq.l, fun p hp => z p (r1.rep.free hp) _ _ (le.trans (LeH.new hp)) (r1.rep.new hp (o := .lst xs.reverse) ⟨_, upd_same, rs.reverse.le (LeH.new hp)⟩) rfl⟩
theorem de_revLF {k : Nat} {p1 p2 p3 : Pos} (hl : DE X l tl) : DE X (.Subscript l (.Slice none none (some (.UnaryOp .USub (.Constant (.int 1) k p1) p2)) p3) pos) (dRevLF tl) :=
  (de_fz (de_revL hl)).sub (fun E E' τ S Q Q' he k q => hl.mono _ _ _ _ _ _ he (fun d S1 z => opt_mono (fun _ z => k _ _ z) z) q)
    fun E τ S Q q => hl.mono _ _ _ _ _ _ (fun _ _ _ _ z => z) (fun d S1 z => opt_mono (fun xs z p hp => fzK_new hp z) z) q
/-! ### tuple(reversed(e)), e a list -/
@[simp] def dTupRev (tl : DTE) : DTE := fun E τ S Q => tl E τ S fun d S1 => opt (seqD S1 d) fun xs => Q (.tup xs.reverse) S1
theorem de_tupRev {p2 pos2 : Pos} (hc : X.calm = true) (hg : Gl X "tuple") (hm : X.mg "tuple" = none) (hg2 : Gl X "reversed") (hm2 : X.mg "reversed" = none) (hl : DE X l tl) (hs : starEach [l] X.env = (false, eval l X.env) :: starEach [] X.env := by rfl)
    (hs2 : starEach [.Call (.Name "reversed" p2) [l] [] pos2] X.env = (false, eval (.Call (.Name "reversed" p2) [l] [] pos2) X.env) :: starEach [] X.env := by rfl) :
    DE X (.Call (.Name "tuple" p) [.Call (.Name "reversed" p2) [l] [] pos2] [] pos) (dTupRev tl) := by
  refine ⟨fun E E' τ S Q Q' he k q => hl.mono _ _ _ _ _ _ he (fun d S1 z => opt_mono (fun _ z => k _ _ z) z) q, pE_imp (RT.pe_tupRev hc hg hm hg2 hm2 hl.run hs hs2) fun σ H Q ⟨E, τ, S, w, r, q⟩ => ?_⟩
  refine hl.to w r q fun d S1 x H1 le w1 r1 rd z => ?_
  obtain ⟨xs, e, z⟩ := opt_ex z
  obtain ⟨a, ys, rfl, sq, rs⟩ := seqD_rd r1.rep rd e
  exact ⟨a, ys, rfl, sq.l, fun p hp => z _ _ (le.trans (LeH.new hp)) (r1.rep.garb hp) ⟨p, _, rfl, .of upd_same, rs.reverse.le (LeH.new hp)⟩⟩
end
theorem hu65 {A : Around} (h : A.units + 120 < cLine) : A.units + 65 < cLine := by omega
end Dt
set_option maxRecDepth 100000
set_option maxHeartbeats 4000000
namespace Dt
open PySem PySem.Spec L2 PyProof.Rows
section
variable {prog : Program} {w : World} {A : Around} {E : Value → Shared → Prop} {s : Shared} {R : Result → Shared → Prop}
theorem nolen_rt : typeLookup (.type "reversed") "__len__" = pure none := by rw [typeLookup_type, builtinLookup_eq_fast]; kernel_rfl
theorem hint_rt : typeLookup (.type "reversed") "__length_hint__" = pure (some (.builtin "reversed.__length_hint__")) := by rw [typeLookup_type, builtinLookup_eq_fast]; kernel_rfl
theorem slot_rt_hint : Slot "reversed" "__length_hint__" "reversed.__length_hint__" :=
  .of (owner := "reversed") (n := "__length_hint__") (by rw [typeLookup_type, builtinLookup_eq_fast]; kernel_rfl) (by decide +kernel) (by decide +kernel) (by decide +kernel)
    (by first | exact .inl (by decide +kernel) | exact .inr (by decide +kernel)) (by rw [isSubtype_type]; kernel_rfl)
theorem entry_rt_hint : entryFor table "reversed.__length_hint__" = some Builtin.«reversed.__length_hint__» := entryFor_of_tree (by kernel_rfl)
theorem args_rt_hint (a : Value) : argsOk "reversed.__length_hint__" ⟨[a], []⟩ := by
  unfold argsOk; rw [signature?_of (id := "reversed.__length_hint__") (n := "__length_hint__".toList.reverse) (o := "reversed".toList.reverse) (by kernel_rfl) RT.owner_rt]; kernel_rfl
theorem hint_call {it t : Addr} {items : Array Value} {Q : Value → Shared → Prop} (hit : RT.IsRt s.heap it t ((items.size : Int) - 1)) (ht : IsTup s.heap t items) (hz : items.size ≤ sizeLine)
    (h : ∀ k, Q (.int items.size k) { s with toks := s.toks + 1 + 1 + 1 }) : wpAny (model prog w) A (call (.builtin "reversed.__length_hint__") [.ref it]) Q E s := by
  obtain ⟨o, ho, hc, hd⟩ := id hit
  have hl := sizeLine_eq
  refine wpAny_call_entry slot_rt_hint hit.typeIs entry_rt_hint ?_ (args_rt_hint _)
  unfold Builtin.«reversed.__length_hint__»
  refine wpAny_bind (wpAny_of_eq (a := Value.ref it) rfl ?_)
  try dsimp only
  refine wpAny_bind (wpAny_field ho hd (x := .ref t) rfl ?_)
  rw [if_neg (show ¬ ((Value.ref t == Value.none) = true) from Bool.false_ne_true)]
  try dsimp only
  refine wpAny_bind (len_tuple ht (by omega) ?_)
  refine wpAny_bind (wpAny_of_eq (a := some ((items.size : Nat) : Int)) rfl ?_)
  try dsimp only
  refine wpAny_bind (wpAny_field (s := { s with toks := s.toks + 1 + 1 }) ho hd (x := rawInt ((items.size : Int) - 1)) rfl ?_)
  show wpAny _ _ (if (items.size : Int) < (items.size : Int) - 1 + 1 then _ else _) _ _ _
  rw [if_neg (by omega)]
  refine wpAny_bind (wpAny_mkInt ?_)
  refine wpAny_pure ?_
  have e : (items.size : Int) - 1 + 1 = items.size := by omega
  rw [e]
  exact ⟨_, rfl, h _⟩
theorem hint_run {it t : Addr} {items : Array Value} {Q : Bool → Shared → Prop} (hit : RT.IsRt s.heap it t ((items.size : Int) - 1)) (ht : IsTup s.heap t items) (hz : items.size ≤ sizeLine)
    (h : ∀ b tk, Q b { s with toks := tk }) : wpAny (model prog w) A (Builtin.List.listLengthHint (.ref it)) Q E s := by
  have hT : s.TypeIs (.ref it) "reversed" := hit.typeIs
  have hl := sizeLine_eq
  unfold Builtin.List.listLengthHint
  refine wpAny_bind (wpAny_specialOf hT nolen_rt ?_)
  show wpAny _ _ (specialOf (Value.ref it) (Str.ofString "__length_hint__") >>= _) _ _ _
  refine wpAny_bind (wpAny_specialOf hT hint_rt ?_)
  generalize hid : ("reversed.__length_hint__" : String) = id0
  wp_delta
  rw [show splitId id0 = some ("reversed", "__length_hint__") from by subst hid; decide +kernel]
  subst hid
  refine wpAny_bind (wpAny_isInstance (b := true) hT (by rw [isSubtype_type]; kernel_rfl) ?_)
  rw [if_neg (by decide)]
  try dsimp only
  rw [if_neg (by decide +kernel)]
  refine wpAny_bind (wpAny_rule ?_)
  refine wpAny_bind (wpAny_of_eq (slot_rt_hint.bind _) ?_)
  try dsimp only
  refine wpAny_bind (wpAny_attempt (hint_call hit ht hz fun k => ?_))
  try dsimp only
  refine wpAny_bind ?_
  refine wpAny_of_eq (a := some (items.size : Int)) ?_ ?_
  · simp only [asInt?]
  have f1 : ¬ ((!Builtin.List.listFitsIndex (items.size : Int)) = true) := by
    simp [Builtin.List.listFitsIndex]; omega
  have f3 : ¬ (Builtin.List.listTooLong ((items.size : Int)).toNat = true) := by
    simp [Builtin.List.listTooLong]; omega
  show wpAny _ _ (if (!Builtin.List.listFitsIndex (items.size : Int)) = true then _ else _) _ _ _
  rw [if_neg f1, if_neg (show ¬ ((items.size : Int) < 0) by omega), if_neg f3]
  exact wpAny_pure (h _ _)
end
section
variable {prog : Program} {w : World} {A : Around} {E : Value → Shared → Prop} {s : Shared} {R : Result → Shared → Prop}
theorem walks_rt (hh : A.handled = none) (I t : Addr) (hne : t ≠ I) (items : Array Value) (hz : items.size ≤ sizeLine) :
    Walks prog w A I [I, t] [I] items.size (fun i v => items[items.size - 1 - i]? = some v) (fun i h => i ≤ items.size ∧ RT.IsRt h I t ((items.size : Int) - 1 - (i : Int)) ∧ IsTup h t items) where
  sub := fun b hb => by simp at hb; simp [hb]
  frame := fun i h h' x hk => ⟨x.1, x.2.1.at fun o e => hk I (by simp) o e, let ⟨o, ho, r⟩ := x.2.2; ⟨o, hk t (by simp) o ho, r⟩⟩
  item := fun i s Q E hi x hQ => by
    obtain ⟨x1, x2, x3⟩ := x
    have e : (items.size : Int) - 1 - (i : Int) = ((items.size - 1 - i : Nat) : Int) := by omega
    rw [e] at x2
    have hx : items[items.size - 1 - i]? = some (items[items.size - 1 - i]'(by omega)) := Array.getElem?_eq_getElem (by omega)
    refine RT.next_rt_item x2 x3 hx hz fun h' y sb => ?_
    have e2 : ((items.size - 1 - i : Nat) : Int) - 1 = (items.size : Int) - 1 - ((i + 1 : Nat) : Int) := by omega
    rw [e2] at y
    exact hQ _ h' _ hx ⟨hi, y, let ⟨o, ho, r⟩ := x3; ⟨o, (sb.2 t hne).trans ho, r⟩⟩ fun b o hb eo => sb.extBut b o (fun h => hb (by simp [h])) eo
  done := fun s Q E x hQ => by
    obtain ⟨x1, x2, x3⟩ := x
    have e : (items.size : Int) - 1 - (items.size : Int) = -1 := by omega
    rw [e] at x2
    exact RT.next_rt_end hh x2 fun h' he' => hQ h' s.toks fun b o hb eo => he' b o (fun h => hb (by simp [h])) eo
  self := fun _ _ _ _ x hQ => RT.iter_rt x.2.1 hQ
theorem extend_rt {it t : Addr} {items : Array Value} (hh : A.in1.handled = none) (hne : t ≠ it) (hz : items.size ≤ sizeLine) (S : Addr) (res : Value) (c₀ : Nat) (hit : RT.IsRt s.heap it t ((items.size : Int) - 1)) (ht : IsTup s.heap t items) (hSi : S ≠ it) (hSt : S ≠ t)
    (hS : s.heap.get? S = some { cls := .type "list", data := .seq #[] c₀ })
    (hR : ∀ h' tk acc' c', (∀ b o, b ≠ S → b ≠ it → s.heap.get? b = some o → h'.get? b = some o) → h'.get? S = some { cls := .type "list", dict := none, data := .seq acc' c', slots := #[] } → ItemsOf (fun i v => items[items.size - 1 - i]? = some v) acc' items.size → R (.ok (.ret res)) { s with heap := h', toks := tk }) :
    wpAny (model prog w) A.in1 (Builtin.List.listExtendWith (.ref S) (.ref it) res)
      (fun fin s' => match fin with | .done f => R (.ok f) s' | .again c' => c'.quiet = true ∧ codeAny (model prog w) A c' R s') (fun e s' => R (.error e) s') s := by
  have hT : s.TypeIs (.ref it) "reversed" := hit.typeIs
  unfold Builtin.List.listExtendWith
  refine wpAny_bind (wpAny_typeOf hT ?_)
  have h1 : Builtin.List.listSameRef (.ref S) (.ref it) = false := by simp [Builtin.List.listSameRef, hSi]
  have h2 : (Value.type "reversed" == Value.type "list") = false := by decide
  have h3 : (Value.type "reversed" == Value.type "tuple") = false := by decide
  simp only [h1, h2, h3, Bool.or_false, Bool.false_eq_true, if_false]
  refine wpAny_bind (RT.iter_rt hit ?_)
  refine wpAny_bind (wpAny_holding ?_)
  refine hint_run hit ht hz fun b tk => ?_
  have W := (walks_rt (prog := prog) (w := w) (A := A.in1) hh it t hne items hz).toS
  have hSf : S ∉ [it, t] := by simp [hSi, hSt]
  have e0 : ((items.size : Nat) : Int) - 1 - ((0 : Nat) : Int) = (items.size : Int) - 1 := by omega
  have fin : ∀ (h2 : Heap) (c2 : Nat), (∀ b o, b ≠ S → s.heap.get? b = some o → h2.get? b = some o) → h2.get? S = some { cls := .type "list", data := .seq #[] c2 } →
      codeAny (model prog w) A (.builtin "list.extend.loop" ⟨[.ref S, .ref it, res], []⟩) R { s with heap := h2, toks := tk } := fun h2 c2 hk hS2 =>
    codeAny_extend_loopS W hz _ hSf _ items.size 0 _ _ _ rfl (Nat.zero_le _) ⟨Nat.zero_le _, by rw [e0]; exact hit.at fun o e => hk it o (Ne.symm hSi) e, let ⟨o, ho, r⟩ := ht; ⟨o, hk t o (Ne.symm hSt) ho, r⟩⟩ hS2 (ItemsOf.nil _) fun s' acc' c' hm hS' hacc => by
      rw [Moved.eq_with hm]
      refine hR s'.heap s'.toks acc' c' (fun b o h1 h2 e => hm.heap b o (fun hmem => ?_) (hk b o h1 e)) hS' hacc
      rcases List.mem_cons.mp hmem with e' | hmem
      · exact h1 e'
      · exact h2 (List.mem_singleton.mp hmem)
  split
  · refine wpAny_bind (wpAny_rule ?_)
    refine wpAny_bind ?_
    show wpAny _ A.in1 (updateSeq S (·.push .none) >>= fun _ => updateSeq S (·.pop)) _ _ _
    refine wpAny_bind (wpAny_updateSeq (s := { s with toks := tk }) hS rfl ?_)
    have hS₂ := Heap.get?_update_self (Obj.mapSeq (·.push Value.none)) hS rfl
    refine wpAny_updateSeq (hz := by seq_fits) hS₂ rfl ?_
    have hS₃ := Heap.get?_update_self (Obj.mapSeq (·.pop)) hS₂ rfl
    refine wpAny_pure ⟨plainId_quiet F.plain_extend_loop _, fin _ _ (fun b o hb e => (Heap.get?_update_other _ _ (Ne.symm hb)).trans ((Heap.get?_update_other _ _ (Ne.symm hb)).trans e)) hS₃⟩
  · exact wpAny_pure ⟨plainId_quiet F.plain_extend_loop _, fin s.heap c₀ (fun _ _ _ e => e) hS⟩
theorem code_collect_rt {it t : Addr} {items : Array Value} (hh : A.in1.handled = none) (hne : t ≠ it) (hz : items.size ≤ sizeLine) (hit : RT.IsRt s.heap it t ((items.size : Int) - 1)) (ht : IsTup s.heap t items)
    (hR : ∀ (h' : Heap) (tk : Nat) (acc : Array Value) (c : Nat), (∀ b o, b ≠ it → s.heap.get? b = some o → h'.get? b = some o) → h'.get? s.heap.objs.size = some { cls := .type "list", dict := none, data := .seq acc c, slots := #[] } → ItemsOf (fun i v => items[items.size - 1 - i]? = some v) acc items.size → R (.ok (.ret (.ref s.heap.objs.size))) { s with heap := h', toks := tk }) :
    codeAny (model prog w) A (.builtin "proto.collect" ⟨[.ref it], []⟩) R s := by
  obtain ⟨oi, hoi, _⟩ := id hit
  obtain ⟨ol, hol, _⟩ := id ht
  have hSi : s.heap.objs.size ≠ it := Nat.ne_of_gt (Heap.lt_size hoi)
  have hSt : s.heap.objs.size ≠ t := Nat.ne_of_gt (Heap.lt_size hol)
  refine codeAny_builtin F.entry_proto_collect ?_
  rw [Around.under_plainId F.plain_proto_collect _]
  show wpAny _ A.in1 (newList [] >>= fun l' => again (.builtin "list.__iadd__" ⟨[l', .ref it], []⟩)) _ _ s
  refine wpAny_bind (wpAny_newObj_type ?_)
  refine wpAny_pure ⟨plainId_quiet F.plain_list_iadd _, codeAny_builtin F.entry_list_iadd ?_⟩
  rw [Around.under_plainId F.plain_list_iadd _]
  have hS₁ : (s.heap.push { cls := .type "list", data := .seq ([] : List Value).toArray }).get? s.heap.objs.size = some { cls := .type "list", data := .seq ([] : List Value).toArray } := Heap.get?_push_size _ rfl
  refine extend_rt (R := R) (s := { s with heap := s.heap.push { cls := .type "list", data := .seq ([] : List Value).toArray } }) hh hne hz s.heap.objs.size (.ref s.heap.objs.size) _ (hit.at fun o e => Heap.get?_push_of_some _ e) (let ⟨o, ho, r⟩ := ht; ⟨o, Heap.get?_push_of_some _ ho, r⟩) hSi hSt hS₁ fun h' tk acc c hk hS' hacc => ?_
  refine hR h' tk acc c (fun b o hb e => hk b o (fun e' => ?_) hb (Heap.get?_push_of_some _ e)) hS' hacc
  exact absurd (Heap.lt_size e) (by rw [e']; exact Nat.lt_irrefl _)
theorem collect_rt {it t : Addr} {items : Array Value} {Q : List Value → Shared → Prop} (hh : A.in1.handled = none) (hne : t ≠ it) (hz : items.size ≤ sizeLine) (hit : RT.IsRt s.heap it t ((items.size : Int) - 1)) (ht : IsTup s.heap t items)
    (hQ : ∀ (h' : Heap) (tk : Nat) (acc : Array Value), (∀ b o, b ≠ it → s.heap.get? b = some o → h'.get? b = some o) → ItemsOf (fun i v => items[items.size - 1 - i]? = some v) acc items.size → Q acc.toList { s with heap := h', toks := tk }) :
    wpAny (model prog w) A (collect (.ref it)) Q E s := by
  unfold collect
  refine wpAny_bind (wpAny_runValue (code_collect_rt hh hne hz hit ht fun h' tk acc c hk hS' hacc => ?_))
  refine wpAny_bind (wpAny_load (s := { s with heap := h', toks := tk }) hS' ?_)
  exact wpAny_pure (hQ h' tk acc hk hacc)
theorem code_tuple_rt {it t : Addr} {items : Array Value} {Q₁ : Value → Shared → Prop} (hh : A.handled = none) (hne : t ≠ it) (hz : items.size ≤ sizeLine) (hit : RT.IsRt s.heap it t ((items.size : Int) - 1)) (ht : IsTup s.heap t items)
    (h : ∀ (h' : Heap) (tk : Nat) (acc : Array Value), (∀ b o, b ≠ it → s.heap.get? b = some o → h'.get? b = some o) → ItemsOf (fun i v => items[items.size - 1 - i]? = some v) acc items.size →
      Q₁ (.ref h'.objs.size) { s with heap := h'.push { cls := .type "tuple", data := .seq acc }, toks := tk }) :
    codeAny (model prog w) A (.call (.builtin "tuple.__new__") ⟨[.type "tuple", .ref it], []⟩) (wants Q₁ E) s := by
  refine codeAny_of_tree ?_
  show wpAny _ A.in1 (do checkBuiltinCall "tuple.__new__" ⟨[.type "tuple", .ref it], []⟩; again (.builtin "tuple.__new__" ⟨[.type "tuple", .ref it], []⟩)) _ _ s
  refine wpAny_bind (wpAny_of_eq (F.newCall_tuple_1 _) (wpAny_pure ⟨plainId_quiet F.plain_tuple_new _, codeAny_builtin F.entry_tuple_new ?_⟩))
  rw [Around.under_plainId F.plain_tuple_new _]
  have hsub := sub_tuple_self
  have hinit := init_tuple_lookup
  have hmh := madeHere_tuple
  have hTI : s.TypeIs (.ref it) "reversed" := hit.typeIs
  have hh1 : A.in1.in1.handled = none := hh
  wp_walk using wpAny_typeOf hTI, collect_rt (A := A.in1) hh1 hne hz hit ht
  intro h' tk acc hk hacc
  show wpAny _ _ (Builtin.Tuple.tupleExact acc.toList.toArray >>= fun v => ret v) _ _ _
  unfold Builtin.Tuple.tupleExact
  refine wpAny_bind (wpAny_newObj_type ?_ (by show acc.toList.toArray.size ≤ sizeLine; simp only [Array.toArray_toList]; rw [hacc.1]; exact hz))
  refine wpAny_pure ?_
  have e : acc.toList.toArray = acc := by simp
  rw [e]
  exact h h' tk acc hk hacc
theorem call_tuple_rt {it t : Addr} {items : Array Value} {Q : Value → Shared → Prop} (hh : A.handled = none) (hne : t ≠ it) (hz : items.size ≤ sizeLine) (hit : RT.IsRt s.heap it t ((items.size : Int) - 1)) (ht : IsTup s.heap t items)
    (hQ : ∀ (h' : Heap) (tk : Nat) (acc : Array Value), (∀ b o, b ≠ it → s.heap.get? b = some o → h'.get? b = some o) → ItemsOf (fun i v => items[items.size - 1 - i]? = some v) acc items.size →
      Q (.ref h'.objs.size) { s with heap := h'.push { cls := .type "tuple", data := .seq acc }, toks := tk }) :
    wpAny (model prog w) A (call (.type "tuple") [.ref it]) Q E s := by
  refine callType_codes (Q₁ := fun obj s₁ => s₁.TypeIs obj "tuple" ∧ Q obj s₁) F.called_tuple (F.typeCall_tuple_1 _) F.entry_object_init
    (code_tuple_rt (A := A.in1) hh hne hz hit ht fun h' tk acc hk hacc => ⟨⟨_, Heap.get?_push_size _ rfl, rfl⟩, hQ h' tk acc hk hacc⟩) fun obj s₁ h₁ => ?_
  exact ⟨h₁.1, F.args_object_init_2 obj _, object_init_meets F.called_tuple.init.lookup F.called_tuple.made (by decide) prog w A.in1 _ s₁ ⟨h₁.1, rfl, h₁.2⟩⟩
end
section
variable {X : Cx} {l : Expr} {tl : DTE} {te : TE} {p p2 pos pos2 : Pos}
/-- tuple(reversed(x)), x a list or a tuple -/
def tTupRevA (K : PySem.W.Frag) (te : TE) : TE := fun σ H Q => te σ H fun v H1 => ∃ (a : Addr) (xs : List V), v = .ref a ∧ SqT K H1 a xs ∧ ∀ q, H1 q = none → Q (.ref q) (upd H1 q (.tup xs.reverse))
theorem pe_tupRevT (hc : X.calm = true) (hg : Gl X "tuple") (hm : X.mg "tuple" = none) (hg2 : Gl X "reversed") (hm2 : X.mg "reversed" = none) (he : PE X l te)
    (hs : starEach [l] X.env = (false, eval l X.env) :: starEach [] X.env := by rfl)
    (hs2 : starEach [.Call (.Name "reversed" p2) [l] [] pos2] X.env = (false, eval (.Call (.Name "reversed" p2) [l] [] pos2) X.env) :: starEach [] X.env := by rfl) :
    PE X (.Call (.Name "tuple" p) [.Call (.Name "reversed" p2) [l] [] pos2] [] pos) (tTupRevA X.K te) := by
  refine ⟨fun pins s σ H Q I h => ?_⟩
  refine Call_ (ld_blt I hg hm boot_tuple (PyProof.Rows.callWith_type1 (args_cons (Call_ (ld_blt I hg2 hm2 PyProof.Rows.boot_reversed (PyProof.Rows.callWith_type1 (args_cons (thn (he.run pins s σ H _ I h) fun u s1 ⟨v, H1, I1, r1, q1⟩ => args_nil ?_) hs) hs rfl))) hs2) hs2 rfl))
  obtain ⟨a, xs, ev, hq, q⟩ := q1
  subst ev
  obtain rfl : u = Value.ref a := r1
  obtain ⟨its, rv, p', hz⟩ := I1.tuple hq
  have hl := rv.length
  have hn := line63
  have hsz : its.toArray.size ≤ sizeLine := by rw [List.size_toArray, ← rv.length]; exact hz
  refine RT.call_reversed_tup p' (fun A E Q k => len_tuple p' (by simp only [List.size_toArray] <;> omega) k) (args_nil ?_)
  have k0 : ∀ b o, s1.heap.get? b = some o → (s1.heap.push (RT.rtObj a ((its.toArray.size : Int) - 1))).get? b = some o := fun b o e => Heap.get?_push_of_some _ e
  have I2 : Inv X pins σ H1 { s1 with heap := s1.heap.push (RT.rtObj a ((its.toArray.size : Int) - 1)), toks := s1.toks + 1 + 1 } := I1.kept (t' := s1.toks + 1 + 1) k0
  obtain ⟨f0, f1, f2, f3, f4, f5⟩ := I1.fpOk (H' := H1) (b := s1.heap.objs.size) (Nat.le_refl _) (I1.hok.fresh (Nat.le_refl _))
  obtain ⟨ol, hol, hcl⟩ := id p'
  have hne : a ≠ s1.heap.objs.size := Nat.ne_of_lt (Heap.lt_size hol)
  refine call_tuple_rt (s := { s1 with heap := s1.heap.push (RT.rtObj a ((its.toArray.size : Int) - 1)), toks := s1.toks + 1 + 1 }) (I1.ok.hd hc) hne hsz ⟨_, Heap.get?_push_size _ rfl, rfl, rfl⟩ ⟨ol, Heap.get?_push_of_some _ hol, hcl⟩ fun h' tk acc hk hi => ?_
  have I3 : Inv X pins σ H1 { s1 with heap := h', toks := tk } := I2.turned (t' := tk) (fun b o hb e => hk b o hb e) f0 f1 f3 f4 f5
  refine ⟨.ref h'.objs.size, upd H1 h'.objs.size (.tup xs.reverse), I3.laid (t' := tk) (fun c o e => Heap.get?_push_of_some _ e) (Nat.le_refl _) (show ObjOk X.prog X.w _ _ _ (.tup xs.reverse) from ⟨by rw [List.length_reverse]; exact hz, acc.toList, RT.vals_rev rv hi, ?_⟩), rfl, q _ (I3.hok.fresh (Nat.le_refl _))⟩
  rw [Array.toArray_toList]
  exact IsTup.new _ _
@[simp] def dTupRevT (tl : DTE) : DTE := fun E τ S Q => tl E τ S fun d S1 => match d with | .tup xs => Q (.tup xs.reverse) S1 | _ => False
theorem de_tupRevT (hc : X.calm = true) (hg : Gl X "tuple") (hm : X.mg "tuple" = none) (hg2 : Gl X "reversed") (hm2 : X.mg "reversed" = none) (hl : DE X l tl) (hs : starEach [l] X.env = (false, eval l X.env) :: starEach [] X.env := by rfl)
    (hs2 : starEach [.Call (.Name "reversed" p2) [l] [] pos2] X.env = (false, eval (.Call (.Name "reversed" p2) [l] [] pos2) X.env) :: starEach [] X.env := by rfl) :
    DE X (.Call (.Name "tuple" p) [.Call (.Name "reversed" p2) [l] [] pos2] [] pos) (dTupRevT tl) := by
  refine ⟨fun E E' τ S Q Q' he k q => hl.mono _ _ _ _ _ _ he (fun d S1 z => by cases d <;> first | exact k _ _ z | exact z) q, pE_imp (pe_tupRevT hc hg hm hg2 hm2 hl.run hs hs2) fun σ H Q ⟨E, τ, S, w, r, q⟩ => ?_⟩
  refine hl.to w r q fun d S1 x H1 le w1 r1 rd z => ?_
  cases d with
  | tup xs =>
    obtain ⟨a, ys, rfl, sq, rs⟩ : ∃ p ys, x = V.ref p ∧ SqT X.K H1 p ys ∧ RDs X.K H1 xs ys := rd
    exact ⟨a, ys, rfl, sq, fun p hp => z _ _ (le.trans (LeH.new hp)) (r1.rep.garb hp) ⟨p, _, rfl, .of upd_same, rs.reverse.le (LeH.new hp)⟩⟩
  | _ => exact z.elim
end
end Dt
set_option maxRecDepth 100000
set_option maxHeartbeats 4000000
namespace Dt
open PySem PySem.Spec L2 PyProof.Rows
section
variable {prog : Program} {w : World} {A : Around} {E : Value → Shared → Prop} {s : Shared} {R : Result → Shared → Prop}
theorem list_init_rt {it t : Addr} {items : Array Value} (hh : A.in1.handled = none) (hne : t ≠ it) (hz : items.size ≤ sizeLine) (S : Addr) (hit : RT.IsRt s.heap it t ((items.size : Int) - 1)) (ht : IsTup s.heap t items) (hSi : S ≠ it) (hSt : S ≠ t)
    (hS : s.heap.get? S = some { cls := .type "list", data := .seq #[] })
    (hR : ∀ h' tk acc' c', (∀ b o, b ≠ S → b ≠ it → s.heap.get? b = some o → h'.get? b = some o) → h'.get? S = some { cls := .type "list", dict := none, data := .seq acc' c', slots := #[] } → ItemsOf (fun i v => items[items.size - 1 - i]? = some v) acc' items.size → R (.ok (.ret .none)) { s with heap := h', toks := tk }) :
    wpAny (model prog w) A.in1 (Builtin.«list.__init__» ⟨[.ref S, .ref it], []⟩)
      (fun fin s' => match fin with | .done f => R (.ok f) s' | .again c' => c'.quiet = true ∧ codeAny (model prog w) A c' R s') (fun e s' => R (.error e) s') s := by
  show wpAny _ A.in1 (do let old ← Builtin.List.listItems (.ref S); Builtin.List.listUpdate (.ref S) (fun _ => #[]); letGo old.toList.reverse; Builtin.List.listExtendWith (.ref S) (.ref it) .none) _ _ s
  refine wpAny_bind ?_
  unfold Builtin.List.listItems
  refine wpAny_bind (wpAny_seqItems hS rfl (wpAny_pure ?_))
  show wpAny _ A.in1 (updateSeq S (fun _ => #[]) >>= fun _ => letGo (#[] : Array Value).toList.reverse >>= fun _ => Builtin.List.listExtendWith (.ref S) (.ref it) .none) _ _ s
  refine wpAny_bind (wpAny_updateSeq hS rfl ?_)
  have hS₂ := Heap.get?_update_self (Obj.mapSeq (fun _ => (#[] : Array Value))) hS rfl
  have oth : ∀ b o, b ≠ S → s.heap.get? b = some o → (s.heap.update S (Obj.mapSeq (fun _ => (#[] : Array Value)))).get? b = some o :=
    fun b o hb e => (Heap.get?_update_other _ _ (Ne.symm hb)).trans e
  refine wpAny_bind (wpAny_letGo ?_)
  exact extend_rt (R := R) (s := { s with heap := s.heap.update S (Obj.mapSeq (fun _ => (#[] : Array Value))) }) hh hne hz S .none _ (hit.at fun o e => oth it o (Ne.symm hSi) e) (let ⟨o, ho, r⟩ := ht; ⟨o, oth t o (Ne.symm hSt) ho, r⟩) hSi hSt hS₂
    fun h' tk acc c hk hS' hacc => hR h' tk acc c (fun b o h1 h2 e => hk b o h1 h2 (oth b o h1 e)) hS' hacc
theorem call_list_rt {it t : Addr} {items : Array Value} {Q : Value → Shared → Prop} (hh : A.handled = none) (hne : t ≠ it) (hz : items.size ≤ sizeLine) (hit : RT.IsRt s.heap it t ((items.size : Int) - 1)) (ht : IsTup s.heap t items)
    (hQ : ∀ (h' : Heap) (tk : Nat) (acc : Array Value) (c : Nat), (∀ b o, b ≠ it → s.heap.get? b = some o → h'.get? b = some o) → h'.get? s.heap.objs.size = some { cls := .type "list", dict := none, data := .seq acc c, slots := #[] } → ItemsOf (fun i v => items[items.size - 1 - i]? = some v) acc items.size →
      Q (.ref s.heap.objs.size) { s with heap := h', toks := tk }) :
    wpAny (model prog w) A (call (.type "list") [.ref it]) Q E s := by
  obtain ⟨oi, hoi, _⟩ := id hit
  obtain ⟨ol, hol, _⟩ := id ht
  have hSi : s.heap.objs.size ≠ it := Nat.ne_of_gt (Heap.lt_size hoi)
  have hSt : s.heap.objs.size ≠ t := Nat.ne_of_gt (Heap.lt_size hol)
  refine callType_codes (Q₁ := fun obj s₁ => obj = .ref s.heap.objs.size ∧ s₁ = { s with heap := s.heap.push { cls := .type "list", data := .seq #[] } }) F.called_list (F.typeCall_list_1 _) F.entry_list_init
    (code_list_new _ ⟨rfl, rfl⟩) fun obj s₁ h₁ => ?_
  obtain ⟨rfl, rfl⟩ := h₁
  have hS : (s.heap.push { cls := .type "list", data := .seq #[] }).get? s.heap.objs.size = some { cls := .type "list", data := .seq #[] } := Heap.get?_push_size _ rfl
  refine ⟨⟨_, hS, rfl⟩, F.args_list_init_2 _ _, list_init_rt (s := { s with heap := s.heap.push { cls := .type "list", data := .seq #[] } }) (by exact hh) hne hz _ (hit.at fun o e => Heap.get?_push_of_some _ e) (let ⟨o, ho, r⟩ := ht; ⟨o, Heap.get?_push_of_some _ ho, r⟩) hSi hSt hS fun h' tk acc c hk hS' hacc => ?_⟩
  exact ⟨rfl, hQ h' tk acc c (fun b o hb e => hk b o (fun e' => absurd (Heap.lt_size e) (by rw [e']; exact Nat.lt_irrefl _)) hb (Heap.get?_push_of_some _ e)) hS' hacc⟩
end
section
variable {X : Cx} {l : Expr} {tl : DTE} {te : TE} {p p2 pos pos2 : Pos}
/-- list(reversed(x)), x a tuple -/
def tLstRevA (K : PySem.W.Frag) (te : TE) : TE := fun σ H Q => te σ H fun v H1 => ∃ (a : Addr) (xs : List V), v = .ref a ∧ SqT K H1 a xs ∧ ∀ q, H1 q = none → Q (.ref q) (upd H1 q (.lst xs.reverse))
theorem pe_lstRevT (hc : X.calm = true) (hg : Gl X "list") (hm : X.mg "list" = none) (hg2 : Gl X "reversed") (hm2 : X.mg "reversed" = none) (he : PE X l te)
    (hs : starEach [l] X.env = (false, eval l X.env) :: starEach [] X.env := by rfl)
    (hs2 : starEach [.Call (.Name "reversed" p2) [l] [] pos2] X.env = (false, eval (.Call (.Name "reversed" p2) [l] [] pos2) X.env) :: starEach [] X.env := by rfl) :
    PE X (.Call (.Name "list" p) [.Call (.Name "reversed" p2) [l] [] pos2] [] pos) (tLstRevA X.K te) := by
  refine ⟨fun pins s σ H Q I h => ?_⟩
  refine Call_ (ld_blt I hg hm PyProof.Rows.boot_list (PyProof.Rows.callWith_type1 (args_cons (Call_ (ld_blt I hg2 hm2 PyProof.Rows.boot_reversed (PyProof.Rows.callWith_type1 (args_cons (thn (he.run pins s σ H _ I h) fun u s1 ⟨v, H1, I1, r1, q1⟩ => args_nil ?_) hs) hs rfl))) hs2) hs2 rfl))
  obtain ⟨a, xs, ev, hq, q⟩ := q1
  subst ev
  obtain rfl : u = Value.ref a := r1
  obtain ⟨its, rv, p', hz⟩ := I1.tuple hq
  have hl := rv.length
  have hn := line63
  have hsz : its.toArray.size ≤ sizeLine := by rw [List.size_toArray, ← rv.length]; exact hz
  refine RT.call_reversed_tup p' (fun A E Q k => len_tuple p' (by simp only [List.size_toArray] <;> omega) k) (args_nil ?_)
  have k0 : ∀ b o, s1.heap.get? b = some o → (s1.heap.push (RT.rtObj a ((its.toArray.size : Int) - 1))).get? b = some o := fun b o e => Heap.get?_push_of_some _ e
  obtain ⟨ol, hol, hcl⟩ := id p'
  have hne : a ≠ s1.heap.objs.size := Nat.ne_of_lt (Heap.lt_size hol)
  refine call_list_rt (s := { s1 with heap := s1.heap.push (RT.rtObj a ((its.toArray.size : Int) - 1)), toks := s1.toks + 1 + 1 }) (I1.ok.hd hc) hne hsz ⟨_, Heap.get?_push_size _ rfl, rfl, rfl⟩ ⟨ol, Heap.get?_push_of_some _ hol, hcl⟩ fun h' tk acc c hk hS hi => ?_
  have e1 : (s1.heap.push (RT.rtObj a ((its.toArray.size : Int) - 1))).objs.size = s1.heap.objs.size + 1 := size_push' ..
  simp only [e1] at hS ⊢
  refine ⟨.ref (s1.heap.objs.size + 1), upd H1 (s1.heap.objs.size + 1) (.lst xs.reverse), I1.laid (t' := tk) (fun b o e => hk b o (Nat.ne_of_lt (Heap.lt_size e)) (k0 b o e)) (Nat.le_succ _) ⟨by rw [List.length_reverse]; exact hz, acc.toList, c, RT.vals_rev rv hi, by rw [Array.toArray_toList]; exact hS⟩, rfl, q _ (I1.hok.fresh (Nat.le_succ _))⟩
@[simp] def dLstRevT (tl : DTE) : DTE := fun E τ S Q => tl E τ S fun d S1 => match d with | .tup xs => newO S1 (.lst xs.reverse) fun p S' => Q (.ref p) S' | _ => False
theorem de_lstRevT (hc : X.calm = true) (hg : Gl X "list") (hm : X.mg "list" = none) (hg2 : Gl X "reversed") (hm2 : X.mg "reversed" = none) (hl : DE X l tl) (hs : starEach [l] X.env = (false, eval l X.env) :: starEach [] X.env := by rfl)
    (hs2 : starEach [.Call (.Name "reversed" p2) [l] [] pos2] X.env = (false, eval (.Call (.Name "reversed" p2) [l] [] pos2) X.env) :: starEach [] X.env := by rfl) :
    DE X (.Call (.Name "list" p) [.Call (.Name "reversed" p2) [l] [] pos2] [] pos) (dLstRevT tl) := by
  refine ⟨fun E E' τ S Q Q' he k q => hl.mono _ _ _ _ _ _ he (fun d S1 z => by cases d <;> first | exact fun p hp => k _ _ (z p hp) | exact z) q, pE_imp (pe_lstRevT hc hg hm hg2 hm2 hl.run hs hs2) fun σ H Q ⟨E, τ, S, w, r, q⟩ => ?_⟩
  refine hl.to w r q fun d S1 x H1 le w1 r1 rd z => ?_
  cases d with
  | tup xs =>
    obtain ⟨a, ys, rfl, sq, rs⟩ : ∃ p ys, x = V.ref p ∧ SqT X.K H1 p ys ∧ RDs X.K H1 xs ys := rd
    exact ⟨a, ys, rfl, sq, fun p hp => z p (r1.rep.free hp) _ _ (le.trans (LeH.new hp)) (r1.rep.new hp (o := .lst xs.reverse) ⟨_, upd_same, rs.reverse.le (LeH.new hp)⟩) rfl⟩
  | _ => exact z.elim
@[simp] def dLstRevTF (tl : DTE) : DTE := fun E τ S Q => tl E τ S fun d S1 => match d with | .tup xs => Q (.rol xs.reverse) S1 | _ => False
theorem de_lstRevTF (hc : X.calm = true) (hg : Gl X "list") (hm : X.mg "list" = none) (hg2 : Gl X "reversed") (hm2 : X.mg "reversed" = none) (hl : DE X l tl) (hs : starEach [l] X.env = (false, eval l X.env) :: starEach [] X.env := by rfl)
    (hs2 : starEach [.Call (.Name "reversed" p2) [l] [] pos2] X.env = (false, eval (.Call (.Name "reversed" p2) [l] [] pos2) X.env) :: starEach [] X.env := by rfl) :
    DE X (.Call (.Name "list" p) [.Call (.Name "reversed" p2) [l] [] pos2] [] pos) (dLstRevTF tl) :=
  (de_fz (de_lstRevT hc hg hm hg2 hm2 hl hs hs2)).sub (fun E E' τ S Q Q' he k q => hl.mono _ _ _ _ _ _ he (fun d S1 z => by cases d <;> first | exact k _ _ z | exact z) q)
    fun E τ S Q q => hl.mono _ _ _ _ _ _ (fun _ _ _ _ z => z) (fun d S1 z => by cases d <;> first | exact fun p hp => fzK_new hp z | exact z) q
end
end Dt
set_option maxRecDepth 100000
set_option maxHeartbeats 4000000
/-! DatZ: what repr takes; patterns as trees. -/
namespace Dt
open PySem PySem.Spec L2
/-! ### repr -/
mutual
/-- may be shown -/
def rp : D → Bool
  | .non => true
  | .bl _ => true
  | .int i => decide (i.natAbs.log2 < 1920) && decide ((PyData.shown (.int i)).length ≤ 13)
  | .str x => PyData.strOk x
  | .tup ds => rps ds
  | .rol ds => rps ds
  | .ref _ => false
def rps : List D → Bool
  | [] => true
  | d :: ds => rp d && rps ds
end
mutual
def wgt : D → Nat
  | .str x => x.length
  | .int i => i.natAbs.log2 + 1
  | .tup ds => wgts ds
  | .rol ds => wgts ds
  | _ => 0
def wgts : List D → Nat
  | [] => 0
  | d :: ds => wgt d + 1 + wgts ds
end
mutual
theorem rp_show : ∀ d : D, rp d = true → imm d = true ∧ (toP d).showable = true ∧ (toP d).leavesShort 13 = true ∧ (toP d).weight ≤ wgt d
  | .non, _ => ⟨rfl, rfl, rfl, Nat.le_refl _⟩
  | .bl _, _ => ⟨rfl, rfl, rfl, Nat.le_refl _⟩
  | .int i, h => by
    simp only [rp, Bool.and_eq_true, decide_eq_true_eq] at h
    refine ⟨rfl, by simpa [toP, PyData.showable] using h.1, by simpa [toP, PyData.leavesShort] using h.2, ?_⟩
    show (if (i == 0) = true then 0 else i.natAbs.log2 + 1) ≤ _
    split
    · exact Nat.zero_le _
    · exact Nat.le_refl _
  | .str x, h => by
    refine ⟨rfl, rfl, ?_, Nat.le_refl _⟩
    show (x.cps.toList.all fun c => decide (c < 16 ^ 8)) = true
    have h' : x.cps.all (· < 0x110000) = true := h
    rw [← Array.all_toList, List.all_eq_true] at h'
    rw [List.all_eq_true]
    exact fun c hc => decide_eq_true (Nat.lt_trans (of_decide_eq_true (h' c hc)) (by decide))
  | .tup ds, h => rps_show ds h
  | .rol ds, h => rps_show ds h
theorem rps_show : ∀ ds : List D, rps ds = true → imms ds = true ∧ PyData.showableAll (toPs ds) = true ∧ PyData.leavesShortAll 13 (toPs ds) = true ∧ PyData.weightAll (toPs ds) ≤ wgts ds
  | [], _ => ⟨rfl, rfl, rfl, Nat.le_refl _⟩
  | d :: ds, h => by
    have h' : (rp d && rps ds) = true := h
    rw [Bool.and_eq_true] at h'
    obtain ⟨a1, a2, a3, a4⟩ := rp_show d h'.1
    obtain ⟨b1, b2, b3, b4⟩ := rps_show ds h'.2
    refine ⟨?_, ?_, ?_, ?_⟩
    · show (imm d && imms ds) = true
      rw [a1, b1]; rfl
    · show ((toP d).showable && PyData.showableAll (toPs ds)) = true
      rw [a2, b2]; rfl
    · show ((toP d).leavesShort 13 && PyData.leavesShortAll 13 (toPs ds)) = true
      rw [a3, b3]; rfl
    · show (toP d).weight + 1 + PyData.weightAll (toPs ds) ≤ wgt d + 1 + wgts ds
      omega
end
structure Rp (d : D) : Prop where
  rp : rp d = true
  w : wgt d ≤ 2 ^ 20
  d : dep d ≤ 100
mutual
theorem Vw.pd {S : DH} {F : List Addr} : ∀ {d e : D}, Vw S F d e → imm e = true → Pd S d (toP e)
  | _, _, .same d, h => imm_pd S d h
  | _, _, .lst h1 _ h3, h => .lst h1 (Vws.pd h3 h)
  | _, _, .tup hs, h => .tup (Vws.pd hs h)
  | _, _, .rol hs, h => .rol (Vws.pd hs h)
theorem Vws.pd {S : DH} {F : List Addr} : ∀ {ds es : List D}, Vws S F ds es → imms es = true → PdA S ds (toPs es)
  | _, _, .nil, _ => .nil
  | _, _, .cons (e := e) (es := es) h1 h2, h => by
    have h' : (imm e && imms es) = true := h
    rw [Bool.and_eq_true] at h'
    exact .cons (Vw.pd h1 h'.1) (Vws.pd h2 h'.2)
end
/-- repr, by how it is seen -/
theorem cRepr_vw {S : DH} {F : List Addr} {d e : D} {Q : DK} (v : Vw S F d e) (h : Rp e) (q : Q (.str (toP e).shown) S) : cRepr [d] S Q := by
  obtain ⟨h1, h2, h3, h4⟩ := rp_show e h.rp
  exact ⟨_, v.pd h1, h2, by rw [dep_P]; exact h.d, PyData.shown_fits (B := 13) (by decide) (by decide) h3 (Nat.le_trans h4 h.w), q⟩
theorem cRepr_rp {S : DH} {d : D} {Q : DK} (h : Rp d) (q : Q (.str (toP d).shown) S) : cRepr [d] S Q := cRepr_vw (F := []) (.same d) h q
theorem rps_iff : ∀ {ds : List D}, rps ds = true ↔ ∀ d ∈ ds, rp d = true
  | [] => by simp [rps]
  | d :: ds => by
    show (rp d && rps ds) = true ↔ _
    rw [Bool.and_eq_true, rps_iff (ds := ds)]
    simp
/-! ### patterns -/
inductive Pt where
  | stay | step (on : Bool) (w : Str) | mark (at_ : Bool) (m : Str) | seq (then_ : Bool) (ps : List Pt) | many (p : Pt)
mutual
def ptD : Pt → D
  | .stay => .tup [.str "stay"]
  | .step b w => .tup [.str "step", .str (if b then "on" else "back"), .str w]
  | .mark b m => .tup [.str (if b then "at" else "off"), .str m]
  | .seq b ps => .tup [.str (if b then "then" else "either"), .tup (ptDs ps)]
  | .many p => .tup [.str "many", ptD p]
def ptDs : List Pt → List D
  | [] => []
  | p :: ps => ptD p :: ptDs ps
end
theorem ptDs_map (ps : List Pt) : ptDs ps = ps.map ptD := by
  induction ps with
  | nil => rfl
  | cons p ps ih => show ptD p :: ptDs ps = _; rw [ih]; rfl
namespace Pt
def kids : Pt → List Pt
  | .seq _ ps => ps
  | .many p => [p]
  | _ => []
def isLeaf : Pt → Bool
  | .seq _ _ => false
  | .many _ => false
  | _ => true
mutual
/-- a pattern and all within it, the outer ones ahead -/
def all : Pt → List Pt
  | .seq b ps => .seq b ps :: alls ps
  | .many p => .many p :: all p
  | .stay => [.stay]
  | .step b w => [.step b w]
  | .mark b m => [.mark b m]
def alls : List Pt → List Pt
  | [] => []
  | p :: ps => all p ++ alls ps
end
mutual
/-- the same, the inner ones ahead -/
def post : Pt → List Pt
  | .seq b ps => posts ps ++ [.seq b ps]
  | .many p => post p ++ [.many p]
  | .stay => [.stay]
  | .step b w => [.step b w]
  | .mark b m => [.mark b m]
def posts : List Pt → List Pt
  | [] => []
  | p :: ps => post p ++ posts ps
end
mutual
/-- how many within one another -/
def deep : Pt → Nat
  | .seq _ ps => deeps ps + 1
  | .many p => deep p + 1
  | _ => 1
def deeps : List Pt → Nat
  | [] => 0
  | p :: ps => max (deep p) (deeps ps)
end
theorem deep_seq (b : Bool) (ps : List Pt) : deep (.seq b ps) = deeps ps + 1 := rfl
theorem deep_many (p : Pt) : deep (.many p) = deep p + 1 := rfl
theorem deeps_nil : deeps [] = 0 := rfl
theorem deeps_cons (p : Pt) (ps : List Pt) : deeps (p :: ps) = max (deep p) (deeps ps) := rfl
theorem all_seq (b : Bool) (ps : List Pt) : all (.seq b ps) = .seq b ps :: alls ps := rfl
theorem all_many (p : Pt) : all (.many p) = .many p :: all p := rfl
theorem alls_nil : alls [] = [] := rfl
theorem alls_cons (p : Pt) (ps : List Pt) : alls (p :: ps) = all p ++ alls ps := rfl
theorem alls_flat (ps : List Pt) : alls ps = ps.flatMap all := by
  induction ps with
  | nil => rfl
  | cons p ps ih => show all p ++ alls ps = _; rw [ih]; rfl
theorem posts_flat (ps : List Pt) : posts ps = ps.flatMap post := by
  induction ps with
  | nil => rfl
  | cons p ps ih => show post p ++ posts ps = _; rw [ih]; rfl
theorem all_kids (p : Pt) : all p = p :: p.kids.flatMap all := by
  cases p <;> simp [all, kids, alls_flat]
mutual
theorem post_all : ∀ p : Pt, (post p).Perm (all p)
  | .seq b ps => by
    show (posts ps ++ [Pt.seq b ps]).Perm (Pt.seq b ps :: alls ps)
    exact (List.perm_append_singleton _ _).trans ((posts_alls ps).cons _)
  | .many p => by
    show (post p ++ [Pt.many p]).Perm (Pt.many p :: all p)
    exact (List.perm_append_singleton _ _).trans ((post_all p).cons _)
  | .stay => List.Perm.refl _
  | .step _ _ => List.Perm.refl _
  | .mark _ _ => List.Perm.refl _
theorem posts_alls : ∀ ps : List Pt, (posts ps).Perm (alls ps)
  | [] => List.Perm.refl _
  | p :: ps => (post_all p).append (posts_alls ps)
end
theorem self_all (p : Pt) : p ∈ all p := by rw [all_kids]; exact List.mem_cons_self
theorem all_pos (p : Pt) : 1 ≤ (all p).length := List.length_pos_of_mem (self_all p)
theorem flat_all_len (ps : List Pt) : ps.length ≤ (ps.flatMap all).length := by
  induction ps with
  | nil => exact Nat.le_refl _
  | cons p ps ih =>
    have := all_pos p
    rw [List.flatMap_cons, List.length_append, List.length_cons]
    omega
/-- names are names -/
def okP (P : Str → Prop) : Pt → Prop := fun p => ∀ q ∈ all p, match q with | .step _ w => w = "*" ∨ P w | .mark _ m => P m | _ => True
end Pt
theorem nm_ok {x : Str} (h : Nm x) : PyData.strOk x = true := by
  unfold PyData.strOk
  rw [← Array.all_toList, List.all_eq_true]
  exact fun c hc => decide_eq_true (Nat.lt_of_le_of_lt (h.2.2 c hc).2 (by decide))
theorem ok_lit (s : String) (h : PyData.strOk (Str.ofString s) = true := by decide +kernel) : PyData.strOk (Str.ofString s) = true := h
theorem okP_kids {P : Str → Prop} {p q : Pt} (h : p.okP P) (hq : q ∈ p.kids) : q.okP P := fun r hr => h r (by
  rw [Pt.all_kids]
  exact List.mem_cons_of_mem _ (List.mem_flatMap.mpr ⟨q, hq, hr⟩))
mutual
theorem pt_sm : ∀ (p : Pt), p.okP Nm → Sm (2 * p.deep) (ptD p)
  | .stay, _ => by
    refine Sm_tup.mpr fun d hd => ?_
    rw [List.mem_singleton.mp hd]
    exact Sm_str.mpr (ok_lit "stay")
  | .step b w, h => by
    refine Sm_tup.mpr fun d hd => ?_
    have hw := h _ (Pt.self_all _)
    simp only [List.mem_cons, List.not_mem_nil, or_false] at hd
    rcases hd with rfl | rfl | rfl
    · exact Sm_str.mpr (ok_lit "step")
    · cases b
      · exact Sm_str.mpr (ok_lit "back")
      · exact Sm_str.mpr (ok_lit "on")
    · rcases hw with rfl | hw
      · exact Sm_str.mpr (ok_lit "*")
      · exact Sm_str.mpr (nm_ok hw)
  | .mark b m, h => by
    refine Sm_tup.mpr fun d hd => ?_
    have hw := h _ (Pt.self_all _)
    simp only [List.mem_cons, List.not_mem_nil, or_false] at hd
    rcases hd with rfl | rfl
    · cases b
      · exact Sm_str.mpr (ok_lit "off")
      · exact Sm_str.mpr (ok_lit "at")
    · exact Sm_str.mpr (nm_ok hw)
  | .seq b ps, h => by
    show Sm (2 * (Pt.deeps ps + 1)) _
    rw [show 2 * (Pt.deeps ps + 1) = (2 * Pt.deeps ps + 1) + 1 by omega]
    have hs := pts_sm ps fun q hq => okP_kids h hq
    refine Sm_tup.mpr fun d hd => ?_
    simp only [List.mem_cons, List.not_mem_nil, or_false] at hd
    rcases hd with rfl | rfl
    · cases b
      · exact Sm_str.mpr (ok_lit "either")
      · exact Sm_str.mpr (ok_lit "then")
    · exact Sm_tup.mpr hs
  | .many p, h => by
    show Sm (2 * (Pt.deep p + 1)) _
    rw [show 2 * (Pt.deep p + 1) = (2 * Pt.deep p + 1) + 1 by omega]
    have hs := pt_sm p (okP_kids h (List.mem_singleton.mpr rfl))
    refine Sm_tup.mpr fun d hd => ?_
    simp only [List.mem_cons, List.not_mem_nil, or_false] at hd
    rcases hd with rfl | rfl
    · exact Sm_str.mpr (ok_lit "many")
    · exact hs.mono (by omega)
theorem pts_sm : ∀ (ps : List Pt), (∀ p ∈ ps, p.okP Nm) → ∀ d ∈ ptDs ps, Sm (2 * Pt.deeps ps) d
  | [], _, _, hd => nomatch hd
  | p :: ps, h, d, hd => by
    have e : Pt.deeps (p :: ps) = max p.deep (Pt.deeps ps) := rfl
    rcases List.mem_cons.mp hd with rfl | hd
    · exact (pt_sm p (h p (List.mem_cons_self ..))).mono (by rw [e]; omega)
    · exact (pts_sm ps (fun q hq => h q (List.mem_cons_of_mem _ hq)) d hd).mono (by rw [e]; omega)
end
mutual
theorem pt_rp : ∀ (p : Pt), p.okP Nm → rp (ptD p) = true ∧ wgt (ptD p) ≤ 31 * p.all.length - 1
  | .stay, _ => ⟨by decide +kernel, by decide +kernel⟩
  | .step b w, h => by
    have hw := h _ (Pt.self_all _)
    have h1 : PyData.strOk w = true ∧ w.length ≤ 8 := by
      rcases hw with rfl | hw
      · exact ⟨ok_lit "*", by decide +kernel⟩
      · exact ⟨nm_ok hw, hw.2.1⟩
    refine ⟨?_, ?_⟩
    · cases b <;> simp only [ptD, rp, rps, h1.1, Bool.and_true, if_true, Bool.false_eq_true, if_false] <;> decide +kernel
    · have e : ∀ x y : Str, wgt (.tup [.str x, .str y, .str w]) = x.length + 1 + (y.length + 1 + (w.length + 1 + 0)) := fun _ _ => rfl
      show wgt (.tup [_, _, _]) ≤ 31 * 1 - 1
      rw [e]
      have l1 : (Str.ofString "step").length = 4 := by decide +kernel
      have l2 : (if b = true then (Str.ofString "on") else (Str.ofString "back")).length ≤ 4 := by cases b <;> decide +kernel
      have := h1.2
      omega
  | .mark b m, h => by
    have hw : Nm m := h _ (Pt.self_all _)
    refine ⟨?_, ?_⟩
    · cases b <;> simp only [ptD, rp, rps, nm_ok hw, Bool.and_true, if_true, Bool.false_eq_true, if_false] <;> decide +kernel
    · have e : ∀ x : Str, wgt (.tup [.str x, .str m]) = x.length + 1 + (m.length + 1 + 0) := fun _ => rfl
      show wgt (.tup [_, _]) ≤ 31 * 1 - 1
      rw [e]
      have l2 : (if b = true then (Str.ofString "at") else (Str.ofString "off")).length ≤ 4 := by cases b <;> decide +kernel
      have := hw.2.1
      omega
  | .seq b ps, h => by
    obtain ⟨h1, h2⟩ := pts_rp ps fun q hq => okP_kids h hq
    refine ⟨?_, ?_⟩
    · cases b <;> simp only [ptD, rp, rps, h1, Bool.and_true, if_true, Bool.false_eq_true, if_false] <;> decide +kernel
    · have e : ∀ x : Str, wgt (.tup [.str x, .tup (ptDs ps)]) = x.length + 1 + (wgts (ptDs ps) + 1 + 0) := fun _ => rfl
      show wgt (.tup [_, _]) ≤ 31 * ((Pt.alls ps).length + 1) - 1
      rw [e]
      have l2 : (if b = true then (Str.ofString "then") else (Str.ofString "either")).length ≤ 6 := by cases b <;> decide +kernel
      omega
  | .many p, h => by
    obtain ⟨h1, h2⟩ := pt_rp p (okP_kids h (List.mem_singleton.mpr rfl))
    refine ⟨?_, ?_⟩
    · simp only [ptD, rp, rps, h1, Bool.and_true]
      decide +kernel
    · have e : ∀ x : Str, wgt (.tup [.str x, ptD p]) = x.length + 1 + (wgt (ptD p) + 1 + 0) := fun _ => rfl
      show wgt (.tup [_, _]) ≤ 31 * ((Pt.all p).length + 1) - 1
      rw [e]
      have l2 : (Str.ofString "many").length = 4 := by decide +kernel
      omega
theorem pts_rp : ∀ (ps : List Pt), (∀ p ∈ ps, p.okP Nm) → rps (ptDs ps) = true ∧ wgts (ptDs ps) ≤ 31 * (Pt.alls ps).length
  | [], _ => ⟨rfl, Nat.le_refl _⟩
  | p :: ps, h => by
    obtain ⟨a1, a2⟩ := pt_rp p (h p (List.mem_cons_self ..))
    obtain ⟨b1, b2⟩ := pts_rp ps fun q hq => h q (List.mem_cons_of_mem _ hq)
    refine ⟨?_, ?_⟩
    · show (rp (ptD p) && rps (ptDs ps)) = true
      rw [a1, b1]; rfl
    · show wgt (ptD p) + 1 + wgts (ptDs ps) ≤ 31 * (Pt.all p ++ Pt.alls ps).length
      have := p.all_pos
      rw [List.length_append]
      omega
end
end Dt
set_option maxRecDepth 100000
set_option maxHeartbeats 4000000
/-! Sh: what many laws have: draws, names, leaves, patterns. -/
namespace Sh
open PySem PySem.Spec L2 Dt
def sp_l_names : DSp := fun ds S Q _ => ∃ (p : Addr) (m n : Nat) (o : Ob), ds = [.ref p, .int (m : Nat)] ∧ m ≤ 8 ∧ S p = some o ∧ FeedOb n o ∧ n < 2 ^ 90 ∧
  ∀ (ys : List Str) (o' : Ob), ys.length = m → (∀ y ∈ ys, Nm y) → ys.Nodup → FeedOb (n + 12) o' → Q (.rol (ys.map D.str)) (upo S p o')
theorem sp_l_names_mono : SpMono sp_l_names := fun ds S Q Q' E E' k _ ⟨p, m, n, o, h1, h2, h3, h4, h5, h⟩ => ⟨p, m, n, o, h1, h2, h3, h4, h5, fun ys o' a b c d => k _ _ (h ys o' a b c d)⟩
/-- words and marks by draws -/
structure Nms (ws ms : List Str) : Prop where
  w1 : 1 ≤ ws.length
  w8 : ws.length ≤ 8
  m1 : 1 ≤ ms.length
  m8 : ms.length ≤ 8
  w : ∀ w ∈ ws, Nm w
  m : ∀ m ∈ ms, Nm m
abbrev nmsD (e0 : D) (ws ms : List Str) : D := .rol [e0, .rol (ws.map D.str), .rol (ms.map D.str)]
def IsLf (ws ms : List Str) (d : D) : Prop := d = .tup [.str "stay"] ∨ (∃ a m : Str, (a = "at" ∨ a = "off") ∧ m ∈ ms ∧ d = .tup [.str a, .str m]) ∨ ∃ s w : Str, (s = "on" ∨ s = "back") ∧ (w = "*" ∨ w ∈ ws) ∧ d = .tup [.str "step", .str s, .str w]
def sp_l_leaf : DSp := fun ds S Q _ => ∃ (p : Addr) (e0 : D) (ws ms : List Str) (n : Nat) (o : Ob), ds = [.ref p, nmsD e0 ws ms] ∧ Nms ws ms ∧ S p = some o ∧ FeedOb n o ∧ n < 2 ^ 90 ∧
  ∀ (d : D) (o' : Ob), IsLf ws ms d → FeedOb (n + 3) o' → Q d (upo S p o')
theorem sp_l_leaf_mono : SpMono sp_l_leaf := fun ds S Q Q' E E' k _ ⟨p, e0, ws, ms, n, o, h1, h2, h3, h4, h5, h⟩ => ⟨p, e0, ws, ms, n, o, h1, h2, h3, h4, h5, fun d o' a b => k _ _ (h d o' a b)⟩
/-- patterns of so much within one another -/
def IsPat (ws ms : List Str) : Nat → D → Prop
  | 0, d => IsLf ws ms d
  | n + 1, d => IsLf ws ms d ∨ (∃ e, d = .tup [.str "many", e] ∧ IsPat ws ms n e) ∨ ∃ (h : Str) (es : List D), d = .tup [.str h, .tup es] ∧ (h = "then" ∨ h = "either") ∧ es.length ≤ 3 ∧ ∀ e ∈ es, IsPat ws ms n e
theorem IsLf.pat {ws ms : List Str} {d : D} (h : IsLf ws ms d) : ∀ n, IsPat ws ms n d
  | 0 => h
  | _ + 1 => .inl h
def costP : Nat → Nat
  | 0 => 4
  | n + 1 => 5 + 3 * costP n
def sp_l_pattern (k : Nat) : DSp := fun ds S Q _ => ∃ (p : Addr) (e0 : D) (j : Nat) (ws ms : List Str) (n : Nat) (o : Ob), ds = [.ref p, nmsD e0 ws ms, .int (j : Nat)] ∧ Nms ws ms ∧ j ≤ k ∧ S p = some o ∧ FeedOb n o ∧ n + costP k < 2 ^ 90 ∧
  ∀ (d : D) (o' : Ob), IsPat ws ms k d → FeedOb (n + costP k) o' → Q d (upo S p o')
theorem sp_l_pattern_mono (k : Nat) : SpMono (sp_l_pattern k) := fun ds S Q Q' E E' kk _ ⟨p, e0, j, ws, ms, n, o, h1, h0, h2, h3, h4, h5, h⟩ => ⟨p, e0, j, ws, ms, n, o, h1, h0, h2, h3, h4, h5, fun d o' a b => kk _ _ (h d o' a b)⟩
def t_l_cell_at : DTS := (dSeq (dIf (dTest (dOp rLt (dVar 1) (dCB cLen (dCons (dVar 0) dNil))))
      (dRet (dOp dIxS (dVar 0) (dVar 1)))
      dNx)
    (dSeq (dAsg (dC (.int 0)) (dGN 2))
    (dSeq (dIf (dTest (dOp rGt (dCB cLen (dCons (dVar 0) dNil)) (dC (.int 0))))
      (dAsg (dOp dIxS (dVar 0) (dOp rMod (dVar 1) (dCB cLen (dCons (dVar 0) dNil)))) (dGN 2))
      dNx)
    (dRet (dOp dAddF (dOp dAddF (dOp dMul (dOp rMod (dVar 2) (dC (.int 1000003))) (dC (.int 48271))) (dOp dMul (dC (.int 7919)) (dVar 1))) (dC (.int 1)))))))
abbrev N_l_cell_at : List Str := ["_law_script", "_law_k", "_law_seed"]
def t_l_feed : DTS := (dRet (dDisp [("left", (dCB cMax2 (dCons (dC (.int 0)) (dCons (dOp rSub (dVar 0) (dOp rPow (dC (.int 10)) (dC (.int 18)))) dNil)))), ("seed", (dOp rMod (dVar 0) (dC (.int 1000003)))), ("drawn", (dC (.int 0)))]))
abbrev N_l_feed : List Str := ["_law_cell"]
def t_l_next : DTS := (dSeq (dPut (dVar 0) (dC (.str "drawn")) (dOp dAddF (dOp dIxS (dVar 0) (dC (.str "drawn"))) (dC (.int 1))))
    (dSeq (dIf (dTest (dOp rGt (dOp dIxS (dVar 0) (dC (.str "left"))) (dC (.int 0))))
      (dSeq (dAsg (dOp rMod (dOp dIxS (dVar 0) (dC (.str "left"))) (dVar 1)) (dGN 2))
    (dSeq (dPut (dVar 0) (dC (.str "left")) (dOp rFdiv (dOp dIxS (dVar 0) (dC (.str "left"))) (dVar 1)))
    (dRet (dVar 2))))
      dNx)
    (dSeq (dAsg (dOp rMod (dOp dMul (dOp dAddF (dOp dIxS (dVar 0) (dC (.str "seed"))) (dC (.int 1))) (dOp dAddF (dOp dMul (dOp dIxS (dVar 0) (dC (.str "drawn"))) (dOp dIxS (dVar 0) (dC (.str "drawn")))) (dC (.int 48271)))) (dC (.int 65537))) (dGN 3))
    (dSeq (dAsg (dOp rMod (dOp dAddF (dOp dMul (dVar 3) (dVar 3)) (dOp dMul (dC (.int 30269)) (dOp dIxS (dVar 0) (dC (.str "drawn"))))) (dC (.int 65521))) (dGN 4))
    (dRet (dOp rMod (dOp rMod (dOp dAddF (dOp dMul (dVar 4) (dVar 4)) (dOp dMul (dC (.int 40503)) (dVar 3))) (dC (.int 65519))) (dVar 1)))))))
abbrev N_l_next : List Str := ["_law_feed_here", "_law_many", "_law_found", "_law_one", "_law_two"]
def t_l_names : DTS := (dSeq (dAsg (dC (.str "abcdefghijklmnopqrstuvwxyz")) (dGN 2))
    (dSeq (dAsg (dBM "str" mJoin (dC (.str "")) (dCons (dFz (dLc (dRng1 (dCons (dC (.int 8)) dNil)) (dGN 9) dYes (dOp dIxS (dVar 2) (dCall sp_l_next (dCons (dVar 0) (dCons (dC (.int 26)) dNil)))) [9])) dNil)) (dGN 3))
    (dSeq (dAsg (dCall sp_l_next (dCons (dVar 0) (dCons (dC (.int 3)) dNil))) (dGN 4))
    (dSeq (dAsg (dCall sp_l_next (dCons (dVar 0) (dCons (dC (.int 8)) dNil))) (dGN 5))
    (dSeq (dIf (dTest (dOp (dEq false) (dVar 4) (dC (.int 0))))
      (dAsg (dLc (dRng1 (dCons (dC (.int 8)) dNil)) (dGN 9) dYes (dSlF (dVar 3) dNoP (dSoP (dOp dAddF (dVar 9) (dC (.int 1))))) [9]) (dGN 6))
      (dIf (dTest (dOp (dEq false) (dVar 4) (dC (.int 1))))
      (dAsg (dLst (dCons (dC (.str "on")) (dCons (dC (.str "back")) (dCons (dC (.str "at")) (dCons (dC (.str "off")) (dCons (dC (.str "stay")) (dCons (dC (.str "many")) (dCons (dC (.str "then")) (dCons (dC (.str "either")) dNil))))))))) (dGN 6))
      (dSeq (dAsg (dCall sp_l_next (dCons (dVar 0) (dCons (dOp dAddF (dVar 5) (dC (.int 1))) dNil))) (dGN 7))
    (dSeq (dAsg (dCall sp_l_next (dCons (dVar 0) (dCons (dC (.int 26)) dNil))) (dGN 8))
    (dSeq (dAsg (dLst dNil) (dGN 6))
    (dFor (dRng1 (dCons (dC (.int 8)) dNil)) (dGN 9)
      (dSeq (dAsg (dOp dIxS (dVar 2) (dOp rMod (dOp dAddF (dVar 8) (dOp dMul (dC (.int 5)) (dVar 9))) (dC (.int 26)))) (dGN 10))
    (dDrop (dBM "list" mAppend (dVar 6) (dCons (dOp dAddF (dOp dAddF (dSlF (dVar 3) dNoP (dSoP (dVar 7))) (dVar 10)) (dSlF (dVar 3) (dSoP (dOp dAddF (dVar 7) (dC (.int 1)))) (dSoP (dOp dAddF (dVar 5) (dC (.int 1)))))) dNil))))))))))
    (dRet (dSlF (dOp dAddF (dSlF (dVar 6) (dSoP (dVar 5)) dNoP) (dSlF (dVar 6) dNoP (dSoP (dVar 5)))) dNoP (dSoP (dVar 1)))))))))
abbrev N_l_names : List Str := ["_law_feed_here", "_law_many", "_law_letters", "_law_word", "_law_way", "_law_turn", "_law_names_here", "_law_place", "_law_start", "_law_k", "_law_sign"]
def t_l_leaf : DTS := (dSeq (dAsg (dCall sp_l_next (dCons (dVar 0) (dCons (dC (.int 8)) dNil))) (dGN 2))
    (dSeq (dIf (dTest (dOp (dEq false) (dVar 2) (dC (.int 0))))
      (dRet (dTup (dCons (dC (.str "stay")) dNil)))
      dNx)
    (dSeq (dIf (dTest (dOp rLt (dVar 2) (dC (.int 3))))
      (dRet (dTup (dCons (dOp dIxS (dLstF (dCons (dC (.str "at")) (dCons (dC (.str "off")) dNil))) (dOp rSub (dVar 2) (dC (.int 1)))) (dCons (dOp dIxS (dOp dIxS (dVar 1) (dC (.int 2))) (dCall sp_l_next (dCons (dVar 0) (dCons (dCB cLen (dCons (dOp dIxS (dVar 1) (dC (.int 2))) dNil)) dNil)))) dNil))))
      dNx)
    (dSeq (dAsg (dOp dIxS (dOp dAddF (dLstF (dCons (dC (.str "*")) dNil)) (dOp dIxS (dVar 1) (dC (.int 1)))) (dCall sp_l_next (dCons (dVar 0) (dCons (dOp dAddF (dC (.int 1)) (dCB cLen (dCons (dOp dIxS (dVar 1) (dC (.int 1))) dNil))) dNil)))) (dGN 3))
    (dRet (dTup (dCons (dC (.str "step")) (dCons (dOp dIxS (dLstF (dCons (dC (.str "on")) (dCons (dC (.str "on")) (dCons (dC (.str "back")) dNil)))) (dCall sp_l_next (dCons (dVar 0) (dCons (dC (.int 3)) dNil)))) (dCons (dVar 3) dNil)))))))))
abbrev N_l_leaf : List Str := ["_law_feed_here", "_law_names_here", "_law_way", "_law_word"]
def t_l_pattern (spR : DSp) : DTS := (dSeq (dAsg (dCall sp_l_next (dCons (dVar 0) (dCons (dC (.int 8)) dNil))) (dGN 3))
    (dSeq (dIf (dOr (dTest (dOp (dEq false) (dVar 2) (dC (.int 0)))) (dTest (dOp rLt (dVar 3) (dC (.int 2)))))
      (dRet (dCall sp_l_leaf (dCons (dVar 0) (dCons (dVar 1) dNil))))
      dNx)
    (dSeq (dIf (dTest (dOp rLt (dVar 3) (dC (.int 4))))
      (dRet (dTup (dCons (dC (.str "many")) (dCons (dCall spR (dCons (dVar 0) (dCons (dVar 1) (dCons (dOp rSub (dVar 2) (dC (.int 1))) dNil)))) dNil))))
      dNx)
    (dSeq (dAsg (dOp dIxS (dLstF (dCons (dC (.int 2)) (dCons (dC (.int 1)) (dCons (dC (.int 3)) (dCons (dC (.int 0)) (dCons (dC (.int 2)) (dCons (dC (.int 2)) dNil))))))) (dCall sp_l_next (dCons (dVar 0) (dCons (dC (.int 6)) dNil)))) (dGN 4))
    (dSeq (dAsg (dCB cTuple (dCons (dFz (dLc (dRng1 (dCons (dVar 4) dNil)) (dGN 6) dYes (dCall spR (dCons (dVar 0) (dCons (dVar 1) (dCons (dOp rSub (dVar 2) (dC (.int 1))) dNil)))) [6])) dNil)) (dGN 5))
    (dRet (dTup (dCons (dOp dIxS (dLstF (dCons (dC (.str "then")) (dCons (dC (.str "either")) dNil))) (dOp rMod (dVar 3) (dC (.int 2)))) (dCons (dVar 5) dNil)))))))))
abbrev N_l_pattern : List Str := ["_law_feed_here", "_law_names_here", "_law_deep", "_law_way", "_law_many", "_law_parts", "_law_k"]
theorem r_l_next (ds S Q E) (h : sp_l_next ds S Q E) : t_l_next (dEnd Q E) (dstart N_l_next ds) S := by
  obtain ⟨p, m, n, o, rfl, h2, h3, h4, ⟨l, s, d, rfl, h5, h6, h7, h8, h9⟩, h10, h⟩ := h
  have b1 : Bd 101 (d + 1) := Bd.nat (n := n + 1) (by omega) (by omega) (by omega)
  have b2 : Bd 203 ((d + 1) * (d + 1) + 48271) := Bd.add (b1.mul b1) (show Bd 202 48271 by unfold Bd; decide)
  have b3 : Bd 20 (s + 1) := by unfold Bd; omega
  have b4 : ∀ x : Int, Bd 17 (x % 65537) := fun x => Bd.mod (by decide) (by unfold Bd; decide)
  have b5 : ∀ x : Int, Bd 17 (x % 65521) := fun x => Bd.mod (by decide) (by unfold Bd; decide)
  have c1 : CDivW l m := wide_div h2 (b := 100) (by omega) (by decide) (by decide)
  have e1 := Int.emod_nonneg l (show m ≠ 0 by omega)
  have e2 := Int.emod_lt_of_pos l h2
  have c2 := b1.cm b1
  have c3 := b3.cm b2
  have c4 := fun x y => (b4 x).cm (b4 y)
  have c5 := (show Bd 15 30269 by unfold Bd; decide).cm b1
  have c6 := fun x y => (b5 x).cm (b5 y)
  have c7 := fun x => (show Bd 16 40503 by unfold Bd; decide).cm (b4 x)
  simp [t_l_next, dstart, h4, lk, pt, h2, c1, c2, c3, c4, c5, c6, c7, upo_upo]
  split
  · exact .same (h _ _ e1 e2 ⟨l / m, s, d + 1, rfl, Int.ediv_nonneg h5 (by omega), h6, h7, by omega, by omega⟩)
  · exact .same (h _ _ (Int.emod_nonneg _ (by omega)) (Int.emod_lt_of_pos _ h2) ⟨l, s, d + 1, rfl, h5, h6, h7, by omega, by omega⟩)
theorem r_l_feed (ds S Q E) (h : sp_l_feed ds S Q E) : t_l_feed (dEnd Q E) (dstart N_l_feed ds) S := by
  obtain ⟨c, rfl, h⟩ := h
  have c1 : CPow 10 18 := by unfold CPow; decide
  simp [t_l_feed, dstart, c1, mergeD, pt, lk, upo_upo]
  intro p hp
  simp [upo_upo]
  refine .same (h p _ hp ⟨_, _, _, rfl, ?_, Int.emod_nonneg _ (by decide), Int.emod_lt_of_pos _ (by decide), by decide, by decide⟩)
  split <;> omega
theorem atI_map {ns : List Int} {k : Nat} (h : k < ns.length) : atI (ns.map D.int) (k : Int) = some (.int (ns.getD k 0)) := by
  refine atI_nat ?_
  simp [h]
theorem r_l_cell_at (ds S Q E) (h : sp_l_cell_at ds S Q E) : t_l_cell_at (dEnd Q E) (dstart N_l_cell_at ds) S := by
  obtain ⟨ns, k, rfl, h2, h⟩ := h
  have b1 : ∀ x : Int, Bd 20 (x % 1000003) := fun x => Bd.mod (by decide) (by unfold Bd; decide)
  have c1 := fun x => (b1 x).cm (show Bd 17 48271 by unfold Bd; decide)
  have c2 := (show Bd 17 7919 by unfold Bd; decide).cm (show Bd 100 (k : Int) by unfold Bd; omega)
  simp [t_l_cell_at, dstart]
  unfold cellZ at h
  by_cases h3 : k < ns.length
  · rw [if_pos h3] at h
    rw [if_pos h3, atI_map h3]
    exact .same h
  · rw [if_neg h3] at h
    rw [if_neg h3]
    by_cases h4 : 0 < ns.length
    · rw [if_pos h4] at h
      rw [if_pos h4]
      have h5 : k % ns.length < ns.length := Nat.mod_lt _ h4
      have e : ((k : Int) % (ns.length : Int)) = ((k % ns.length : Nat) : Int) := by omega
      rw [e, atI_map h5]
      simp [h4, c1, c2]
      exact .same (by simpa using h)
    · rw [if_neg h4] at h
      rw [if_neg h4]
      have c3 : CMulW 0 48271 := (show Bd 1 0 by unfold Bd; decide).cm (show Bd 17 48271 by unfold Bd; decide)
      simp [c3, c2]
      exact .same (by simpa using h)
theorem opt_mem {α : Type} {xs : List α} {i : Int} {k : α → Prop} (h0 : 0 ≤ i) (h1 : i < xs.length) (h : ∀ d ∈ xs, k d) : opt (atI xs i) k := opt_at h0 h1 h
theorem r_l_leaf (ds S Q E) (h : sp_l_leaf ds S Q E) : t_l_leaf (dEnd Q E) (dstart N_l_leaf ds) S := by
  obtain ⟨p, e0, ws, ms, n, o, rfl, nm, hp, fo, hn, h⟩ := h
  unfold t_l_leaf
  refine dSeq_gen fun R hR => ?_
  simp [dstart]
  refine ⟨p, 8, n, o, rfl, by decide, by decide, hp, fo, by omega, fun v o1 v0 v1 fo1 => ?_⟩
  subst hR
  by_cases c0 : v = 0
  · simp [c0]
    exact .same (h _ o1 (.inl rfl) (fo1.more (by omega)))
  by_cases c1 : v < 3
  · simp [c0, c1]
    refine opt_at (by omega) (by simp; omega) fun y hy => ?_
    refine ⟨p, ms.length, n + 1, o1, rfl, by have := nm.m1; omega, by have := nm.m8; omega, by simp, fo1, by omega, fun u o2 u0 u1 fo2 => ?_⟩
    simp
    refine opt_at u0 (by simpa using u1) fun z hz => ?_
    obtain ⟨m, hm, rfl⟩ := List.mem_map.mp hz
    refine .same (h _ o2 (.inr (.inl ?_)) (fo2.more (by omega)))
    simp at hy
    rcases hy with rfl | rfl
    · exact ⟨"at", m, .inl rfl, hm, rfl⟩
    · exact ⟨"off", m, .inr rfl, hm, rfl⟩
  · simp [c0, c1, catD]
    refine ⟨by have := nm.w8; omega, p, 1 + ws.length, n + 1, o1, rfl, by omega, by have := nm.w8; omega, by simp, fo1, by omega, fun u o2 u0 u1 fo2 => ?_⟩
    simp
    refine opt_at u0 (by simp; omega) fun z hz => ?_
    refine ⟨p, 3, n + 2, o2, rfl, by decide, by decide, by simp, fo2, by omega, fun u' o3 u0' u1' fo3 => ?_⟩
    simp
    refine opt_at u0' (by simpa using u1') fun y hy => ?_
    refine .same (h _ o3 (.inr (.inr ?_)) (fo3.more (by omega)))
    obtain ⟨w, hw, rfl⟩ : ∃ w : Str, (w = "*" ∨ w ∈ ws) ∧ z = .str w := by
      rcases List.mem_cons.mp hz with rfl | hz
      · exact ⟨"*", .inl rfl, rfl⟩
      · obtain ⟨w, hw, rfl⟩ := List.mem_map.mp hz
        exact ⟨w, .inr hw, rfl⟩
    simp at hy
    rcases hy with rfl | rfl
    · exact ⟨"on", w, .inl rfl, hw, rfl⟩
    · exact ⟨"back", w, .inr rfl, hw, rfl⟩
theorem r_l_pattern (k : Nat) (ds S Q E) (h : sp_l_pattern k ds S Q E) : t_l_pattern (prevSp sp_l_pattern k) (dEnd Q E) (dstart N_l_pattern ds) S := by
  obtain ⟨p, e0, j, ws, ms, n, o, rfl, nm, hj, hp, fo, hn, h⟩ := h
  have c4 : 4 ≤ costP k := by cases k <;> simp [costP]; omega
  unfold t_l_pattern
  refine dSeq_gen fun R hR => ?_
  simp [dstart]
  refine ⟨p, 8, n, o, rfl, by decide, by decide, hp, fo, by omega, fun v o1 v0 v1 fo1 => ?_⟩
  subst hR
  refine dSeq_gen fun R hR => ?_
  have leaf : sp_l_leaf [.ref p, nmsD e0 ws ms] (upo S p o1) (Rt Q) fun C fs S' => ∃ S'', Sub S'' S' ∧ E C fs S'' :=
    ⟨p, e0, ws, ms, n + 1, o1, rfl, nm, upo_same, fo1, by omega, fun d o' a b => .same (by rw [upo_upo]; exact h d o' (a.pat k) (b.more (by omega)))⟩
  by_cases c0 : j = 0
  · simp [c0]
    exact leaf
  by_cases c1 : v < 2
  · simp [c0, c1]
    exact leaf
  simp [c0, c1]
  subst hR
  obtain ⟨m, rfl⟩ : ∃ m, k = m + 1 := ⟨k - 1, by omega⟩
  have hc : costP (m + 1) = 5 + 3 * costP m := rfl
  have ej : (j : Int) - 1 = ((j - 1 : Nat) : Int) := by omega
  by_cases c2 : v < 4
  · simp [c2, ej]
    refine ⟨p, e0, j - 1, ws, ms, n + 1, o1, rfl, nm, by omega, by simp, fo1, by omega, fun d o' a b => ?_⟩
    simp
    exact .same (h _ o' (.inr (.inl ⟨d, rfl, a⟩)) (b.more (by omega)))
  simp [c2]
  refine ⟨p, 6, n + 1, o1, rfl, by decide, by decide, by simp, fo1, by omega, fun u o2 u0 u1 fo2 => ?_⟩
  simp
  refine opt_at u0 (by simpa using u1) fun y hy => ?_
  obtain ⟨M, hM, rfl⟩ : ∃ M : Nat, M ≤ 3 ∧ y = .int (M : Nat) := by
    simp only [List.mem_cons, List.not_mem_nil, or_false] at hy
    rcases hy with rfl | rfl | rfl | rfl | rfl | rfl
    · exact ⟨2, by decide, rfl⟩
    · exact ⟨1, by decide, rfl⟩
    · exact ⟨3, by decide, rfl⟩
    · exact ⟨0, by decide, rfl⟩
    · exact ⟨2, by decide, rfl⟩
    · exact ⟨2, by decide, rfl⟩
  simp
  refine ⟨by omega, ?_⟩
  refine lcF_inv (fun i acc S1 => acc.length = i ∧ (∀ e ∈ acc, IsPat ws ms m e) ∧ ∃ o3, S1 = upo S p o3 ∧ FeedOb (n + 2 + i * costP m) o3) ⟨rfl, (fun _ z => nomatch z), o2, rfl, fo2.more (by omega)⟩ (fun _ _ _ _ _ _ _ => trivial) ?_ (by simp [rngD]; omega) ?_
  · rintro i d acc S1 q N hd ⟨g1, g2, o3, rfl, fo3⟩ hq ha hN
    have hi : i < M := by
      have := (List.getElem?_eq_some_iff.mp hd).1
      simp [rngD] at this
      exact this
    have im : i * costP m + costP m ≤ 3 * costP m := by
      rw [← Nat.succ_mul]
      exact Nat.mul_le_mul_right _ (by omega)
    have npq : p ≠ q := fun z => by subst z; simp at hq
    simp [ej]
    refine ⟨p, e0, j - 1, ws, ms, n + 2 + i * costP m, o3, rfl, nm, by omega, by rw [upo_ne npq]; simp, fo3, by omega, fun d' o4 a b => ?_⟩
    rw [upo_comm npq.symm]
    simp
    refine ⟨ha, hN _ _ ?_ ⟨by simp [g1], fun z hz => ?_, o4, rfl, ?_⟩ (by simp)⟩
    · rw [upo_ne npq.symm]
      rw [upo_ne npq.symm] at hq
      exact hq
    · rcases List.mem_append.mp hz with z' | z'
      · exact g2 z z'
      · rw [List.mem_singleton.mp z']; exact a
    · rw [Nat.succ_mul, ← Nat.add_assoc]; exact b
  · rintro acc S1 ⟨g1, g2, o3, rfl, fo3⟩
    have g1' : acc.length = M := by rw [g1]; simp [rngD]
    have im : M * costP m ≤ 3 * costP m := Nat.mul_le_mul_right _ hM
    simp
    refine opt_at (by omega) (by simp; omega) fun y hy => ?_
    refine .same (h _ o3 (.inr (.inr ?_)) (fo3.more (by simp [rngD]; omega)))
    simp at hy
    rcases hy with rfl | rfl
    · exact ⟨"then", acc, rfl, .inl rfl, by omega, g2⟩
    · exact ⟨"either", acc, rfl, .inr rfl, by omega, g2⟩
theorem upo_none {S : DH} {p q : Addr} {o : Ob} (h : upo S p o q = none) : q ≠ p ∧ S q = none := by
  unfold upo at h
  split at h
  · cases h
  · rename_i e
    exact ⟨e, h⟩
theorem r_l_names (ds S Q E) (h : sp_l_names ds S Q E) : t_l_names (dEnd Q E) (dstart N_l_names ds) S := by
  obtain ⟨p, m, n, o, rfl, hm, hp, fo, hn, h⟩ := h
  have l26 : (Str.ofString "abcdefghijklmnopqrstuvwxyz").cps.toList.length = 26 := by decide +kernel
  have l26' : (Str.ofString "abcdefghijklmnopqrstuvwxyz").length = 26 := by decide +kernel
  have l0 : (Str.ofString "").length = 0 := by decide +kernel
  unfold t_l_names
  refine dSeq_gen fun R hR => ?_
  simp [dstart]
  subst hR
  refine dSeq_gen fun R hR => ?_
  simp
  refine lcF_inv (fun i acc S1 => ∃ ys : List Str, acc = ys.map D.str ∧ ys.length = i ∧ (∀ y ∈ ys, ∃ c, y = ⟨#[c]⟩ ∧ 97 ≤ c ∧ c ≤ 122) ∧ ∃ o1, S1 = upo S p o1 ∧ FeedOb (n + i) o1) ⟨[], rfl, rfl, (fun _ h => nomatch h), o, (upo_id hp).symm, fo⟩ (fun _ _ _ _ _ _ _ => trivial) ?_ (by simp [rngD]) ?_
  · rintro i d acc S1 q N hd ⟨ys, rfl, e2, e3, o1, rfl, fo1⟩ hq ha hN
    obtain ⟨j', hj', rfl⟩ := rng_at hd (by omega)
    have hj : i < 8 := by
      have := (List.getElem?_eq_some_iff.mp hd).1
      simpa [rngD] using this
    have npq : p ≠ q := fun z => by subst z; simp at hq
    have hq' : S q = none := by rw [upo_ne npq.symm] at hq; exact hq
    simp
    refine ⟨p, 26, n + i, o1, rfl, by decide, by decide, by rw [upo_ne npq]; simp, fo1, by omega, fun v o2 v0 v1 fo2 => ?_⟩
    rw [upo_comm npq.symm]
    simp
    refine ⟨by rw [l26']; decide, opt_at v0 (by rw [l26]; omega) fun c hc => ?_⟩
    have hcc := List.all_eq_true.mp (show ((Str.ofString "abcdefghijklmnopqrstuvwxyz").cps.toList.all fun c => decide (97 ≤ c ∧ c ≤ 122)) = true by decide +kernel) c hc
    refine ⟨by simpa using ha, hN _ _ (by rw [upo_ne npq.symm]; exact hq') ⟨ys ++ [⟨#[c]⟩], by simp, by simp [e2], fun y hy => ?_, o2, rfl, fo2⟩ (by simp)⟩
    rcases List.mem_append.mp hy with z | z
    · exact e3 y z
    · exact ⟨c, List.mem_singleton.mp z, of_decide_eq_true hcc⟩
  rintro acc S1 ⟨ys, rfl, e2, e3, o1, rfl, fo1⟩
  have e2' : ys.length = 8 := by simpa [rngD] using e2
  obtain ⟨w, hw⟩ : ∃ w : Str, w = Txt.join (.ofString "") ys := ⟨_, rfl⟩
  have hwl : w.cps.toList.length = 8 ∧ ∀ c ∈ w.cps.toList, 97 ≤ c ∧ c ≤ 122 := by
    have := join_one ys e3
    rw [e2', ← hw] at this
    exact this
  have wl : w.length = 8 := by rw [str_len, hwl.1]
  have hsum : (ys.map (·.length)).sum ≤ 8 := by
    rw [← e2']
    exact sum_le1 ys fun y hy => by
      obtain ⟨c, rfl, _⟩ := e3 y hy
      exact Nat.le_refl 1
  refine ⟨_, _, ys, rfl, rfl, .inl rfl, by rw [l0]; omega, ?_⟩
  rw [← hw]
  subst hR
  refine dSeq_gen fun R hR => ?_
  simp
  refine ⟨p, 3, n + 8, o1, rfl, by decide, by decide, by simp, by simpa [rngD] using fo1, by omega, fun v1 o6 v10 v11 fo6 => ?_⟩
  simp
  subst hR
  refine dSeq_gen fun R hR => ?_
  simp
  refine ⟨p, 8, n + 9, o6, rfl, by decide, by decide, by simp, fo6, by omega, fun t o7 t0 t1 fo7 => ?_⟩
  simp
  obtain ⟨T, rfl⟩ := Int.eq_ofNat_of_zero_le t0
  have hT : T < 8 := by omega
  subst hR
  refine dSeq_gen fun R hR => ?_
  have tail : ∀ (o8 : Ob) (r : Addr) (L : List Str) (a3 a4 a7 a8 a9 a10 : Option D), S r = none → FeedOb (n + 12) o8 → L.length = 8 → (∀ y ∈ L, Nm y) → L.Nodup →
      R (dEnd Q E) [some (.ref p), some (.int (m : Nat)), some (.str "abcdefghijklmnopqrstuvwxyz"), a3, a4, some (.int (T : Nat)), some (.ref r), a7, a8, a9, a10] (upo (upo S p o8) r (.lst (L.map D.str))) := by
    intro o8 r L a3 a4 a7 a8 a9 a10 hr fo8 hl hy hd
    have npr : p ≠ r := fun z => by subst z; rw [hp] at hr; cases hr
    subst hR
    simp [catD]
    refine ⟨by omega, .keep (S := upo S p o8) (Sub.new (by rw [upo_ne npr.symm]; exact hr)) ?_⟩
    have := h (((L.drop T) ++ (L.take T)).take m) o8 (by simp; omega) (fun y hy' => ?_) ?_ fo8
    · simpa using this
    · have := List.mem_of_mem_take hy'
      rcases List.mem_append.mp this with z | z
      · exact hy y (List.mem_of_mem_drop z)
      · exact hy y (List.mem_of_mem_take z)
    · refine List.Sublist.nodup (List.take_sublist _ _) ?_
      have : (L.drop T ++ L.take T).Perm L := List.perm_append_comm.trans (by rw [List.take_append_drop])
      exact this.nodup_iff.mpr hd
  clear hR
  by_cases c0 : v1 = 0
  · simp [c0]
    intro r hr
    obtain ⟨nrp, hr⟩ := upo_none hr
    refine lc_map (fun d => match d with | .int i => .str (cutS w none (some (i + 1))) | _ => .non) _ (by simp) (fun _ => trivial) (fun d hd acc N' hN' hacc => ?_) (by simp [rngD]) ?_
    · simp only [rngD, List.mem_map] at hd
      obtain ⟨k, hk, rfl⟩ := hd
      simp at hN' ⊢
      exact ⟨by rw [wl]; decide, hacc, hN'⟩
    · have eL : (rngD 0 8).map (fun d => match d with | .int i => D.str (cutS w none (some (i + 1))) | _ => D.non) = ((List.range 8).map fun k : Nat => cutS w none (some ((k + 1 : Nat) : Int))).map D.str := by
        simp only [rngD, List.map_map]
        refine List.map_congr_left fun k _ => ?_
        simp
      rw [eL]
      have lens : ∀ k : Nat, k < 8 → (cutS w none (some ((k + 1 : Nat) : Int))).length = k + 1 := fun k hk => by
        rw [str_len, cutS_take, List.length_take, hwl.1]
        omega
      rw [upo_upo]
      refine tail o7 r _ _ _ _ _ _ _ hr (fo7.more (by omega)) (by simp) (fun y hy => ?_) ?_
      · obtain ⟨k, hk, rfl⟩ := List.mem_map.mp hy
        rw [List.mem_range] at hk
        refine ⟨by rw [lens k hk]; omega, by rw [lens k hk]; omega, fun c hc => hwl.2 c ?_⟩
        rw [cutS_take] at hc
        exact List.mem_of_mem_take hc
      · refine nodup_of_map (fun y : Str => y.length) ?_
        rw [List.map_map]
        have e : (List.range 8).map ((fun y : Str => y.length) ∘ fun k : Nat => cutS w none (some ((k + 1 : Nat) : Int))) = (List.range 8).map (· + 1) := List.map_congr_left fun k hk => lens k (List.mem_range.mp hk)
        rw [e]
        decide
  by_cases c1 : v1 = 1
  · simp [c1]
    intro r hr
    obtain ⟨nrp, hr⟩ := upo_none hr
    refine tail o7 r ["on", "back", "at", "off", "stay", "many", "then", "either"] _ _ _ _ _ _ hr (fo7.more (by omega)) rfl (fun y hy => ?_) (by decide +kernel)
    have := List.all_eq_true.mp (show (["on", "back", "at", "off", "stay", "many", "then", "either"] : List Str).all (fun y => decide (1 ≤ y.length) && decide (y.length ≤ 8) && y.cps.toList.all fun c => decide (97 ≤ c ∧ c ≤ 122)) = true by decide +kernel) y hy
    simp only [Bool.and_eq_true, decide_eq_true_eq, List.all_eq_true] at this
    exact ⟨this.1.1, this.1.2, this.2⟩
  · show dIf _ _ _ { dEnd Q E with nx := R (dEnd Q E) } _ _
    simp only [dIf, dTest, dOp, dVar, dC, dEq_int, List.getElem?_cons_succ, List.getElem?_cons_zero, Bool.false_eq_true, if_false]
    simp only [beq_iff_eq, c0, c1, if_false]
    refine dSeq_gen fun R2 hR2 => ?_
    simp
    refine ⟨p, (T : Int) + 1, n + 10, o7, rfl, by omega, by omega, upo_same, fo7, by omega, fun pl o8 pl0 pl1 fo8 => ?_⟩
    subst hR2
    refine dSeq_gen fun R2 hR2 => ?_
    simp
    refine ⟨p, 26, n + 11, o8, rfl, by decide, by decide, upo_same, fo8, by omega, fun st o9 st0 st1 fo9 => ?_⟩
    subst hR2
    simp
    obtain ⟨P, rfl⟩ := Int.eq_ofNat_of_zero_le pl0
    obtain ⟨s0, rfl⟩ := Int.eq_ofNat_of_zero_le st0
    intro r hr
    obtain ⟨nrp, hr⟩ := upo_none hr
    have hP : P ≤ T := by omega
    have hs0 : s0 < 26 := by omega
    obtain ⟨Y, hY⟩ : ∃ Y : Nat → Str, Y = fun k => cutS w none (some (P : Int)) ++ (⟨#[97 + (s0 + 5 * k) % 26]⟩ : Str) ++ cutS w (some ((P + 1 : Nat) : Int)) (some ((T + 1 : Nat) : Int)) := ⟨_, rfl⟩
    have tlY : ∀ k, (Y k).cps.toList = w.cps.toList.take P ++ [97 + (s0 + 5 * k) % 26] ++ (w.cps.toList.drop (P + 1)).take (T + 1 - (P + 1)) := fun k => by
      rw [hY, app_tl, app_tl, cutS_take, cutS_mid _ _ _ (by omega) (by rw [hwl.1]; omega)]
    have lnY : ∀ k, (Y k).length = T + 1 := fun k => by
      rw [str_len, tlY]
      simp [hwl.1]
      omega
    refine loop_inv (fun i τ S' => ∃ a9 a10, τ = [some (.ref p), some (.int (m : Nat)), some (.str "abcdefghijklmnopqrstuvwxyz"), some (.str w), some (.int v1), some (.int (T : Nat)), some (.ref r), some (.int (P : Nat)), some (.int (s0 : Nat)), a9, a10] ∧ S' = upo (upo S p o9) r (.lst (((List.range i).map Y).map D.str)))
      ⟨none, none, rfl, rfl⟩ (fun _ _ _ _ _ => trivial) ?_ ?_
    · rintro i d τ S7 N hd ⟨a9, a10, rfl, rfl⟩ hN
      have hi : i < 8 := by
        have := (List.getElem?_eq_some_iff.mp hd).1
        simpa [rngD] using this
      have ed : d = .int (i : Nat) := by
        obtain ⟨h1, h2⟩ := List.getElem?_eq_some_iff.mp hd
        simp [rngD] at h2
        exact h2.symm
      subst ed
      obtain ⟨J, hJ⟩ : ∃ J, J = (s0 + 5 * i) % 26 := ⟨_, rfl⟩
      have hc : ((s0 : Int) + 5 * (i : Int)) % 26 = (J : Int) := by omega
      have hl := letter_at J (by omega)
      have c1' : CMulW 5 (i : Int) := (show Bd 5 5 by unfold Bd; decide).cm (show Bd 5 (i : Int) by unfold Bd; omega)
      have q1 : (cutS w none (some (P : Int))).length ≤ 8 := Nat.le_trans (cutS_length w _ _) (by rw [wl]; decide)
      have q2 : ∀ lo hi, (cutS w lo hi).length ≤ 8 := fun lo hi => Nat.le_trans (cutS_length w _ _) (by rw [wl]; decide)
      have q3 : (cutS w none (some (P : Int)) ++ (⟨#[97 + J]⟩ : Str)).length ≤ 9 := by
        rw [str_len, app_tl, List.length_append, ← str_len]
        simpa using q1
      simp [c1', hc, l26', atI_nat hl, wl]
      refine ⟨by have := q1; show _ + 1 ≤ _; omega, by have := q2 (some ((P : Int) + 1)) (some ((T : Int) + 1)); omega, by omega, hN _ _ ⟨_, _, rfl, ?_⟩⟩
      rw [List.range_succ, List.map_append, List.map_append, hY]
      simp only [List.map_cons, List.map_nil, List.map_map]
      rw [← hJ]
      rfl
    · rintro τ S7 ⟨a9, a10, rfl, rfl⟩
      refine tail o9 r _ _ _ _ _ _ _ hr (fo9.more (by omega)) (by simp [rngD]) (fun y hy => ?_) ?_
      · obtain ⟨k, hk, rfl⟩ := List.mem_map.mp hy
        refine ⟨by rw [lnY]; omega, by rw [lnY]; omega, fun c hc => ?_⟩
        rw [tlY] at hc
        rcases List.mem_append.mp hc with z | z
        · rcases List.mem_append.mp z with z | z
          · exact hwl.2 c (List.mem_of_mem_take z)
          · rw [List.mem_singleton.mp z]; omega
        · exact hwl.2 c (List.mem_of_mem_drop (List.mem_of_mem_take z))
      · refine nodup_of_map (fun y : Str => y.cps.toList.getD P 0) ?_
        rw [List.map_map, show (rngD 0 8).length = 8 by simp [rngD]]
        have e : (List.range 8).map ((fun y : Str => y.cps.toList.getD P 0) ∘ Y) = (List.range 8).map fun k => 97 + (s0 + 5 * k) % 26 := List.map_congr_left fun k _ => by
          show (Y k).cps.toList.getD P 0 = _
          have hPl : (w.cps.toList.take P).length = P := by rw [List.length_take, hwl.1]; omega
          rw [tlY, List.append_assoc, List.getD_eq_getElem?_getD, List.getElem?_append_right (by omega), hPl, Nat.sub_self]
          rfl
        rw [e]
        exact signs_apart s0 hs0
end Sh
set_option maxRecDepth 100000
set_option maxHeartbeats 4000000
/-! ShP: what stands in a pattern. -/
namespace Sh
open PySem PySem.Spec L2 Dt
@[simp] theorem ptD_0 (p : Pt) : ∃ r, ptD p = .tup r := by cases p <;> exact ⟨_, rfl⟩
def sp_parts_of : DSp := fun ds S Q _ => ∃ p : Pt, ds = [ptD p] ∧ Q (.rol (ptDs p.kids)) S
theorem sp_parts_of_mono : SpMono sp_parts_of := fun ds S Q Q' E E' k _ ⟨d, h1, h⟩ => ⟨d, h1, k _ _ h⟩
def sp_all_parts : DSp := fun ds S Q _ => ∃ p : Pt, ds = [ptD p] ∧ p.all.length ≤ 100000 ∧ ∀ L : List Pt, L.Perm p.all → Q (.rol (ptDs L)) S
theorem sp_all_parts_mono : SpMono sp_all_parts := fun ds S Q Q' E E' k _ ⟨d, h1, h2, h⟩ => ⟨d, h1, h2, fun L a => k _ _ (h L a)⟩
def sp_parts_in : DSp := fun ds S Q _ => ∃ p : Pt, ds = [ptD p] ∧ p.all.length ≤ 100000 ∧ Q (.int (p.all.length : Nat)) S
theorem sp_parts_in_mono : SpMono sp_parts_in := fun ds S Q Q' E E' k _ ⟨d, h1, h2, h⟩ => ⟨d, h1, h2, k _ _ h⟩
def sp_leaves_in : DSp := fun ds S Q _ => ∃ p : Pt, ds = [ptD p] ∧ p.all.length ≤ 100000 ∧ Q (.int ((p.all.filter Pt.isLeaf).length : Nat)) S
theorem sp_leaves_in_mono : SpMono sp_leaves_in := fun ds S Q Q' E E' k _ ⟨d, h1, h2, h⟩ => ⟨d, h1, h2, k _ _ h⟩
end Sh
namespace Dt
open PySem PySem.Spec L2
/-- the words of steps, the marks -/
def Pt.word? : Pt → Option Str
  | .step _ w => some w
  | _ => none
def Pt.mark? : Pt → Option Str
  | .mark _ m => some m
  | _ => none
def Pt.words (p : Pt) : List Str := (p.all.filterMap Pt.word?).filter fun w => !decide (w = "*")
def Pt.marks (p : Pt) : List Str := p.all.filterMap Pt.mark?
end Dt
namespace Sh
open PySem PySem.Spec L2 Dt
/-- new lists -/
def sp_words_in : DSp := fun ds S Q _ => ∃ p : Pt, ds = [ptD p] ∧ p.all.length ≤ 4000 ∧ p.okP Nm ∧ ∀ q, S q = none → Q (.ref q) (upo S q (.lst (ssD (p.words.map D.str))))
theorem sp_words_in_mono : SpMono sp_words_in := fun ds S Q Q' E E' k _ ⟨d, h1, h2, h3, h⟩ => ⟨d, h1, h2, h3, fun q a => k _ _ (h q a)⟩
def sp_marks_in : DSp := fun ds S Q _ => ∃ p : Pt, ds = [ptD p] ∧ p.all.length ≤ 4000 ∧ p.okP Nm ∧ ∀ q, S q = none → Q (.ref q) (upo S q (.lst (ssD (p.marks.map D.str))))
theorem sp_marks_in_mono : SpMono sp_marks_in := fun ds S Q Q' E E' k _ ⟨d, h1, h2, h3, h⟩ => ⟨d, h1, h2, h3, fun q a => k _ _ (h q a)⟩
def t_parts_of : DTS := (dSeq (dIf (dTest (dOp (dEq false) (dOp dIxS (dVar 0) (dC (.int 0))) (dC (.str "many"))))
      (dRet (dLstF (dCons (dOp dIxS (dVar 0) (dC (.int 1))) dNil)))
      dNx)
    (dSeq (dIf (dTest (dOp (dIn false) (dOp dIxS (dVar 0) (dC (.int 0))) (dTup (dCons (dC (.str "then")) (dCons (dC (.str "either")) dNil)))))
      (dRet (dCB cListF (dCons (dOp dIxS (dVar 0) (dC (.int 1))) dNil)))
      dNx)
    (dRet (dLstF dNil))))
abbrev N_parts_of : List Str := ["pattern"]
def t_all_parts : DTS := (dSeq (dAsg (dLst (dCons (dVar 0) dNil)) (dGN 1))
    (dSeq (dAsg (dC (.int 0)) (dGN 2))
    (dSeq (dWhile (dTest (dOp rLt (dVar 2) (dCB cLen (dCons (dVar 1) dNil))))
      (dSeq (dDrop (dBM "list" mExtend (dVar 1) (dCons (dCall sp_parts_of (dCons (dOp dIxS (dVar 1) (dVar 2)) dNil)) dNil)))
    (dAsg (dOp dAddF (dVar 2) (dC (.int 1))) (dGN 2))))
    (dRet (dVar 1)))))
abbrev N_all_parts : List Str := ["pattern", "found", "at"]
def t_parts_in : DTS := (dRet (dCB cLen (dCons (dCall sp_all_parts (dCons (dVar 0) dNil)) dNil)))
abbrev N_parts_in : List Str := ["pattern"]
def t_leaves_in : DTS := (dRet (dCB cLen (dCons (dFz (dLc (dSeqI (dCall sp_all_parts (dCons (dVar 0) dNil))) (dGN 1) (dTest (dOp (dIn false) (dOp dIxS (dVar 1) (dC (.int 0))) (dTup (dCons (dC (.str "stay")) (dCons (dC (.str "step")) (dCons (dC (.str "at")) (dCons (dC (.str "off")) dNil))))))) (dVar 1) [1])) dNil)))
abbrev N_leaves_in : List Str := ["pattern", "part"]
def t_words_in : DTS := (dSeq (dAsg (dFz (dLc (dSeqI (dCall sp_all_parts (dCons (dVar 0) dNil))) (dGN 2) (dTest (dOp (dEq false) (dOp dIxS (dVar 2) (dC (.int 0))) (dC (.str "step")))) (dOp dIxS (dVar 2) (dC (.int 2))) [2])) (dGN 1))
    (dRet (dSortSetM (dFz (dLc (dSeqI (dVar 1)) (dGN 3) (dTest (dOp (dEq true) (dVar 3) (dC (.str "*")))) (dVar 3) [3])))))
abbrev N_words_in : List Str := ["pattern", "words", "part", "word"]
def t_marks_in : DTS := (dRet (dSortSetM (dFz (dLc (dSeqI (dCall sp_all_parts (dCons (dVar 0) dNil))) (dGN 1) (dTest (dOp (dIn false) (dOp dIxS (dVar 1) (dC (.int 0))) (dTup (dCons (dC (.str "at")) (dCons (dC (.str "off")) dNil))))) (dOp dIxS (dVar 1) (dC (.int 1))) [1]))))
abbrev N_marks_in : List Str := ["pattern", "part"]
theorem r_parts_of (ds S Q E) (h : sp_parts_of ds S Q E) : t_parts_of (dEnd Q E) (dstart N_parts_of ds) S := by
  obtain ⟨p, rfl, h⟩ := h
  cases p with
  | stay => simp [t_parts_of, dstart, ptD, inF]; exact .same h
  | step b w => simp [t_parts_of, dstart, ptD, inF]; exact .same h
  | mark b m => cases b <;> simp [t_parts_of, dstart, ptD, inF] <;> exact .same h
  | many q => simp [t_parts_of, dstart, ptD, inF]; exact .same h
  | seq b ps => cases b <;> simp [t_parts_of, dstart, ptD, inF] <;> exact .same h
theorem ptDs_len (ps : List Pt) : (ptDs ps).length = ps.length := by rw [ptDs_map, List.length_map]
theorem ptDs_at {ps : List Pt} {j : Nat} (h : j < ps.length) : (ptDs ps)[j]? = some (ptD ps[j]) := by rw [ptDs_map, List.getElem?_map, List.getElem?_eq_getElem h]; rfl
theorem ptDs_app (ps qs : List Pt) : ptDs (ps ++ qs) = ptDs ps ++ ptDs qs := by simp [ptDs_map]
theorem r_all_parts (ds S Q E) (h : sp_all_parts ds S Q E) : t_all_parts (dEnd Q E) (dstart N_all_parts ds) S := by
  obtain ⟨p, rfl, hz, h⟩ := h
  simp [t_all_parts, dstart]
  intro l hl
  refine while_inv (fun τ S' => ∃ (found : List Pt) (j : Nat), τ = [some (ptD p), some (.ref l), some (.int (j : Nat))] ∧ S' = upo S l (.lst (ptDs found)) ∧ j ≤ found.length ∧ (found.take j ++ (found.drop j).flatMap Pt.all).Perm p.all)
    (fun (τ : DSt) _ => match τ[2]? with | some (some (D.int j)) => (200000 - j).toNat | _ => 0) ⟨[p], 0, rfl, rfl, by simp, by simp⟩ ?_
  rintro τ S2 N ⟨found, j, rfl, rfl, hj, hp⟩ hN
  have hlen : found.length ≤ 100000 := by
    have e := hp.length_eq
    have f := Pt.flat_all_len (found.drop j)
    rw [List.length_append, List.length_take] at e
    rw [List.length_drop] at f
    omega
  by_cases hjl : j < found.length
  · have ed : found.drop j = found[j] :: found.drop (j + 1) := List.drop_eq_getElem_cons hjl
    simp [ptDs_len, hjl, atI_nat (ptDs_at hjl)]
    refine ⟨_, rfl, ?_⟩
    have hkid : found[j].kids.length + found.length ≤ 100000 := by
      have e := hp.length_eq
      have f := Pt.flat_all_len found[j].kids
      have g := Pt.flat_all_len (found.drop (j + 1))
      rw [ed, List.flatMap_cons, Pt.all_kids, List.length_append, List.length_append, List.length_cons, List.length_take] at e
      rw [List.length_drop] at g
      omega
    simp [ptDs_len]
    refine ⟨by omega, hN _ _ ⟨found ++ found[j].kids, j + 1, rfl, by rw [ptDs_app], by simp; omega, ?_⟩ ?_⟩
    · rw [List.drop_append_of_le_length (by omega), List.take_append_of_le_length (by omega), List.take_succ, List.getElem?_eq_getElem hjl]
      rw [ed, List.flatMap_cons, Pt.all_kids] at hp
      refine List.Perm.trans ?_ hp
      rw [List.flatMap_append]
      simp only [Option.toList_some, List.append_assoc, List.singleton_append, List.cons_append]
      rw [List.nil_append]
      exact List.Perm.append_left _ (List.perm_append_comm.cons _)
    · simp
      omega
  · have e : j = found.length := by omega
    subst e
    simp at hp
    simp [ptDs_len]
    exact .rol (by simp) hl (Sub.new hl) (h found hp)
theorem r_parts_in (ds S Q E) (h : sp_parts_in ds S Q E) : t_parts_in (dEnd Q E) (dstart N_parts_in ds) S := by
  obtain ⟨p, rfl, hz, h⟩ := h
  simp [t_parts_in, dstart]
  refine ⟨p, rfl, hz, fun L pm => ?_⟩
  simp [ptDs_len, pm.length_eq]
  exact .same h
/-- [f part for part in .. if c part] of patterns -/
theorem pt_filt {L : List Pt} {c : D → Bool} {c' : Pt → Bool} {f : D → D} {f' : Pt → D} (hc : ∀ p ∈ L, c (ptD p) = c' p) (hf : ∀ p ∈ L, c' p = true → f (ptD p) = f' p) : ((ptDs L).filter c).map f = (L.filter c').map f' := by
  rw [ptDs_map, List.filter_map, List.map_map]
  have e : L.filter (c ∘ ptD) = L.filter c' := List.filter_congr hc
  rw [e]
  exact List.map_congr_left fun p hp => hf p (List.mem_filter.mp hp).1 (List.mem_filter.mp hp).2
def hd0 (d : D) : D := match d with | .tup (x :: _) => x | _ => .non
def at1 (d : D) : D := match d with | .tup (_ :: x :: _) => x | _ => .non
def at2 (d : D) : D := match d with | .tup (_ :: _ :: x :: _) => x | _ => .non
theorem mem_ptDs {L : List Pt} {d : D} (h : d ∈ ptDs L) : ∃ p ∈ L, d = ptD p := by
  rw [ptDs_map] at h
  obtain ⟨p, hp, e⟩ := List.mem_map.mp h
  exact ⟨p, hp, e.symm⟩
theorem r_leaves_in (ds S Q E) (h : sp_leaves_in ds S Q E) : t_leaves_in (dEnd Q E) (dstart N_leaves_in ds) S := by
  obtain ⟨p, rfl, hz, h⟩ := h
  simp [t_leaves_in, dstart]
  refine ⟨p, rfl, hz, fun L pm => ?_⟩
  simp
  have hl := pm.length_eq
  refine lcF_of (fun d => inF (hd0 d) [.str "stay", .str "step", .str "at", .str "off"]) id (fun _ _ _ => trivial) (fun d hd acc q N hq ha h1 h2 => ?_) (by simp [ptDs_len]; omega) ?_
  · obtain ⟨r, hr, rfl⟩ := mem_ptDs hd
    cases r with
    | stay => simp [ptD, hd0, inF] at h1 h2 ⊢; exact ⟨by simpa using ha, h1⟩
    | step b w => simp [ptD, hd0, inF] at h1 h2 ⊢; exact ⟨by simpa using ha, h1⟩
    | mark b w => cases b <;> simp [ptD, hd0, inF] at h1 h2 ⊢ <;> exact ⟨by simpa using ha, h1⟩
    | many w => simp [ptD, hd0, inF] at h1 h2 ⊢; exact h2
    | seq b w => cases b <;> simp [ptD, hd0, inF] at h1 h2 ⊢ <;> exact h2
  · rw [pt_filt (c' := Pt.isLeaf) (f' := ptD) (fun r hr => ?_) (fun _ _ _ => rfl)]
    · simp
      have e := (pm.filter Pt.isLeaf).length_eq
      rw [e]
      exact .same h
    · cases r with
      | mark b w => cases b <;> simp [ptD, hd0, inF, Pt.isLeaf]
      | seq b w => cases b <;> simp [ptD, hd0, inF, Pt.isLeaf]
      | _ => simp [ptD, hd0, inF, Pt.isLeaf]
theorem filterMap_filt {α β : Type} (g : α → Option β) (c : α → Bool) (f : α → β) : ∀ l : List α, (∀ a ∈ l, g a = if c a then some (f a) else none) → l.filterMap g = (l.filter c).map f
  | [], _ => rfl
  | a :: l, h => by
    rw [List.filterMap_cons, h a (List.mem_cons_self ..), List.filter_cons, filterMap_filt g c f l fun b hb => h b (List.mem_cons_of_mem _ hb)]
    cases c a <;> simp
def isStep (p : Pt) : Bool := match p with | .step _ _ => true | _ => false
def isMark (p : Pt) : Bool := match p with | .mark _ _ => true | _ => false
def theName (p : Pt) : Str := match p with | .step _ w => w | .mark _ m => m | _ => ""
theorem r_words_in (ds S Q E) (h : sp_words_in ds S Q E) : t_words_in (dEnd Q E) (dstart N_words_in ds) S := by
  obtain ⟨p, rfl, hz, ok, h⟩ := h
  simp [t_words_in, dstart]
  refine ⟨p, rfl, by omega, fun L pm => ?_⟩
  simp
  have hl := pm.length_eq
  refine lcF_of (fun d => decide (hd0 d = .str "step")) at2 (fun _ _ _ => trivial) (fun d hd acc q N hq ha h1 h2 => ?_) (by simp [ptDs_len]; omega) ?_
  · obtain ⟨r, hr, rfl⟩ := mem_ptDs hd
    cases r with
    | stay => simp [ptD, hd0] at h1 h2 ⊢; exact h2
    | step b w => simp [ptD, hd0, at2] at h1 h2 ⊢; exact ⟨by simpa using ha, h1⟩
    | mark b w => cases b <;> simp [ptD, hd0] at h1 h2 ⊢ <;> exact h2
    | many w => simp [ptD, hd0] at h1 h2 ⊢; exact h2
    | seq b w => cases b <;> simp [ptD, hd0] at h1 h2 ⊢ <;> exact h2
  rw [pt_filt (c' := isStep) (f' := fun r => .str (theName r)) (fun r hr => ?_) (fun r hr hc => ?_)]
  rotate_left
  · cases r with
    | mark b w => cases b <;> simp [ptD, hd0, isStep]
    | seq b w => cases b <;> simp [ptD, hd0, isStep]
    | _ => simp [ptD, hd0, isStep]
  · cases r <;> simp [isStep] at hc
    rfl
  simp
  have hf : ((L.filter isStep).map fun r => D.str (theName r)).length ≤ 4000 := by
    have := List.length_filter_le isStep L
    simp
    omega
  refine lcF_of (fun d => !decide (d = .str "*")) id (fun _ _ _ => trivial) (fun d hd acc q N hq ha h1 h2 => ?_) (by simp at hf ⊢; omega) ?_
  · obtain ⟨r, hr, rfl⟩ := List.mem_map.mp hd
    by_cases e : theName r = "*"
    · simp [e] at h1 h2 ⊢; exact h2
    · simp [e] at h1 h2 ⊢; exact ⟨by simpa using ha, h1⟩
  have e1 : (((L.filter isStep).map fun r => D.str (theName r)).filter fun d => !decide (d = .str "*")).map id = (((L.filterMap Pt.word?).filter fun w : Str => !decide (w = "*")).map D.str) := by
    rw [filterMap_filt Pt.word? isStep theName L (fun a _ => by cases a <;> rfl), List.map_id, List.filter_map, List.filter_map, List.map_map]
    refine congrArg _ (List.filter_congr fun w _ => ?_)
    simp
  rw [e1]
  have hw : ∀ d ∈ ((L.filterMap Pt.word?).filter fun w : Str => !decide (w = "*")).map D.str, hasTy .str d = true := fun d hd => by
    obtain ⟨w, hw, rfl⟩ := List.mem_map.mp hd
    obtain ⟨hw1, hw2⟩ := List.mem_filter.mp hw
    obtain ⟨r, hr, e⟩ := List.mem_filterMap.mp hw1
    cases r <;> simp [Pt.word?] at e
    subst e
    have := ok _ (pm.mem_iff.mp hr)
    simp at hw2
    exact nm_ok (this.resolve_left hw2)
  have e2 : ssD (((L.filterMap Pt.word?).filter fun w : Str => !decide (w = "*")).map D.str) = ssD (p.words.map D.str) := by
    refine ss_one (t := .str) hw fun x => ?_
    unfold Pt.words
    rw [List.mem_map, List.mem_map]
    simp only [List.mem_filter, List.mem_filterMap, pm.mem_iff]
  have hl2 : (((L.filterMap Pt.word?).filter fun w : Str => !decide (w = "*")).map D.str).length ≤ 4000 := by
    rw [List.length_map]
    have := List.length_filter_le (fun w : Str => !decide (w = "*")) (L.filterMap Pt.word?)
    have := List.length_filterMap_le Pt.word? L
    omega
  simp only [seqD_rol, opt_some]
  refine ⟨.inl hw, by unfold scanBound; omega, fun q hq => .same ?_⟩
  rw [e2]
  exact h q hq
theorem r_marks_in (ds S Q E) (h : sp_marks_in ds S Q E) : t_marks_in (dEnd Q E) (dstart N_marks_in ds) S := by
  obtain ⟨p, rfl, hz, ok, h⟩ := h
  simp [t_marks_in, dstart]
  refine ⟨p, rfl, by omega, fun L pm => ?_⟩
  simp
  have hl := pm.length_eq
  refine lcF_of (fun d => inF (hd0 d) [.str "at", .str "off"]) at1 (fun _ _ _ => trivial) (fun d hd acc q N hq ha h1 h2 => ?_) (by simp [ptDs_len]; omega) ?_
  · obtain ⟨r, hr, rfl⟩ := mem_ptDs hd
    cases r with
    | stay => simp [ptD, hd0, inF] at h1 h2 ⊢; exact h2
    | step b w => simp [ptD, hd0, inF] at h1 h2 ⊢; exact h2
    | mark b w => cases b <;> simp [ptD, hd0, at1, inF] at h1 h2 ⊢ <;> exact ⟨by simpa using ha, h1⟩
    | many w => simp [ptD, hd0, inF] at h1 h2 ⊢; exact h2
    | seq b w => cases b <;> simp [ptD, hd0, inF] at h1 h2 ⊢ <;> exact h2
  rw [pt_filt (c' := isMark) (f' := fun r => .str (theName r)) (fun r hr => ?_) (fun r hr hc => ?_)]
  rotate_left
  · cases r with
    | mark b w => cases b <;> simp [ptD, hd0, inF, isMark]
    | seq b w => cases b <;> simp [ptD, hd0, inF, isMark]
    | _ => simp [ptD, hd0, inF, isMark]
  · cases r <;> simp [isMark] at hc
    rfl
  have e1 : ((L.filter isMark).map fun r => D.str (theName r)) = (L.filterMap Pt.mark?).map D.str := by
    rw [filterMap_filt Pt.mark? isMark theName L (fun a _ => by cases a <;> rfl), List.map_map]
    rfl
  rw [e1]
  have hw : ∀ d ∈ (L.filterMap Pt.mark?).map D.str, hasTy .str d = true := fun d hd => by
    obtain ⟨w, hw1, rfl⟩ := List.mem_map.mp hd
    obtain ⟨r, hr, e⟩ := List.mem_filterMap.mp hw1
    cases r <;> simp [Pt.mark?] at e
    subst e
    exact nm_ok (ok _ (pm.mem_iff.mp hr))
  have e2 : ssD ((L.filterMap Pt.mark?).map D.str) = ssD (p.marks.map D.str) := by
    refine ss_one (t := .str) hw fun x => ?_
    unfold Pt.marks
    rw [List.mem_map, List.mem_map]
    simp only [List.mem_filterMap, pm.mem_iff]
  have hl2 : ((L.filterMap Pt.mark?).map D.str).length ≤ 4000 := by
    rw [List.length_map]
    have := List.length_filterMap_le Pt.mark? L
    omega
  simp only [seqD_rol, opt_some]
  refine ⟨.inl hw, by unfold scanBound; omega, fun q hq => .same ?_⟩
  rw [e2]
  exact h q hq
/-! ### drawn patterns as trees -/
theorem lf_pt {ws ms : List Str} (nm : Nms ws ms) {d : D} (h : IsLf ws ms d) : ∃ p : Pt, d = ptD p ∧ p.okP Nm ∧ p.deep = 1 ∧ p.all.length = 1 := by
  rcases h with rfl | ⟨a, m, ha, hm, rfl⟩ | ⟨s, w, hs, hw, rfl⟩
  · exact ⟨.stay, rfl, fun q hq => by rw [List.mem_singleton.mp hq]; trivial, rfl, rfl⟩
  · refine ⟨.mark (decide (a = "at")) m, ?_, fun q hq => by rw [List.mem_singleton.mp hq]; exact nm.m m hm, rfl, rfl⟩
    rcases ha with rfl | rfl <;> rfl
  · refine ⟨.step (decide (s = "on")) w, ?_, fun q hq => by rw [List.mem_singleton.mp hq]; exact hw.imp id (nm.w w), rfl, rfl⟩
    rcases hs with rfl | rfl <;> rfl
/-- how many a drawn pattern is of at most -/
def szP : Nat → Nat
  | 0 => 1
  | n + 1 => 1 + 3 * szP n
theorem szP_pos (k : Nat) : 1 ≤ szP k := by cases k <;> simp [szP]
theorem okP_seq {P : Str → Prop} {b : Bool} {ps : List Pt} (h : ∀ p ∈ ps, p.okP P) : (Pt.seq b ps).okP P := fun q hq => by
  rw [Pt.all_kids] at hq
  rcases List.mem_cons.mp hq with rfl | hq
  · trivial
  · obtain ⟨p, hp, hq⟩ := List.mem_flatMap.mp hq
    exact h p hp q hq
theorem okP_many {P : Str → Prop} {p : Pt} (h : p.okP P) : (Pt.many p).okP P := fun q hq => by
  rw [Pt.all_kids] at hq
  rcases List.mem_cons.mp hq with rfl | hq
  · trivial
  · obtain ⟨r, hr, hq⟩ := List.mem_flatMap.mp hq
    rw [List.mem_singleton.mp hr] at hq
    exact h q hq
theorem alls_le {b : Nat} : ∀ {ps : List Pt}, (∀ p ∈ ps, p.all.length ≤ b) → (Pt.alls ps).length ≤ ps.length * b
  | [], _ => by simp [Pt.alls_nil]
  | p :: ps, h => by
    have h1 := h p (List.mem_cons_self ..)
    have h2 := alls_le fun q hq => h q (List.mem_cons_of_mem _ hq)
    rw [Pt.alls_cons, List.length_append, List.length_cons, Nat.succ_mul]
    omega
theorem deeps_le {b : Nat} : ∀ {ps : List Pt}, (∀ p ∈ ps, p.deep ≤ b) → Pt.deeps ps ≤ b
  | [], _ => by simp [Pt.deeps_nil]
  | p :: ps, h => by
    have h1 := h p (List.mem_cons_self ..)
    have h2 := deeps_le fun q hq => h q (List.mem_cons_of_mem _ hq)
    rw [Pt.deeps_cons]
    omega
theorem deeps_mem : ∀ {ps : List Pt} {p : Pt}, p ∈ ps → p.deep ≤ Pt.deeps ps
  | q :: ps, p, h => by
    rw [Pt.deeps_cons]
    rcases List.mem_cons.mp h with rfl | h
    · omega
    · have := deeps_mem h
      omega
theorem list_pt {es : List D} {P : Pt → Prop} (h : ∀ e ∈ es, ∃ p, e = ptD p ∧ P p) : ∃ ps : List Pt, es = ptDs ps ∧ ps.length = es.length ∧ ∀ p ∈ ps, P p := by
  induction es with
  | nil => exact ⟨[], rfl, rfl, fun _ z => nomatch z⟩
  | cons e es ih =>
    obtain ⟨ps, rfl, h2, h3⟩ := ih fun x hx => h x (List.mem_cons_of_mem _ hx)
    obtain ⟨p, rfl, hp⟩ := h e (List.mem_cons_self ..)
    refine ⟨p :: ps, rfl, by simp [h2], fun q hq => ?_⟩
    rcases List.mem_cons.mp hq with rfl | hq
    · exact hp
    · exact h3 q hq
theorem pat_pt {ws ms : List Str} (nm : Nms ws ms) : ∀ (k : Nat) {d : D}, IsPat ws ms k d → ∃ p : Pt, d = ptD p ∧ p.okP Nm ∧ p.deep ≤ k + 1 ∧ p.all.length ≤ szP k := by
  have leaf : ∀ (k : Nat) {d : D}, IsLf ws ms d → ∃ p : Pt, d = ptD p ∧ p.okP Nm ∧ p.deep ≤ k + 1 ∧ p.all.length ≤ szP k := fun k d h => by
    obtain ⟨p, h1, h2, h3, h4⟩ := lf_pt nm h
    exact ⟨p, h1, h2, by omega, by rw [h4]; exact szP_pos k⟩
  intro k
  induction k with
  | zero => exact fun h => leaf 0 h
  | succ k ih =>
    intro d h
    rcases h with h | ⟨e, rfl, h⟩ | ⟨a, es, rfl, ha, hl, h⟩
    · exact leaf _ h
    · obtain ⟨p, rfl, h2, h3, h4⟩ := ih h
      refine ⟨.many p, rfl, okP_many h2, by rw [Pt.deep_many]; omega, ?_⟩
      rw [Pt.all_many, List.length_cons]
      show _ ≤ 1 + 3 * szP k
      omega
    · obtain ⟨ps, rfl, h2, h3⟩ := list_pt (P := fun p => p.okP Nm ∧ p.deep ≤ k + 1 ∧ p.all.length ≤ szP k) fun e he => ih (h e he)
      refine ⟨.seq (decide (a = "then")) ps, ?_, okP_seq fun p hp => (h3 p hp).1, ?_, ?_⟩
      · rcases ha with rfl | rfl <;> rfl
      · have := deeps_le fun p hp => (h3 p hp).2.1
        rw [Pt.deep_seq]
        omega
      · have := alls_le fun p hp => (h3 p hp).2.2
        have := Nat.mul_le_mul_right (szP k) (show ps.length ≤ 3 by omega)
        rw [Pt.all_seq, List.length_cons]
        show _ ≤ 1 + 3 * szP k
        omega
theorem pt_dep {p : Pt} (h : p.okP Nm) : dep (ptD p) ≤ 2 * p.deep := by
  have := pt_sm p h
  exact this.2
theorem pt_Rp {p : Pt} (h : p.okP Nm) (h1 : p.deep ≤ 40) (h2 : p.all.length ≤ 30000) : Rp (ptD p) := by
  obtain ⟨a, b⟩ := pt_rp p h
  exact ⟨a, by omega, by have := pt_dep h; omega⟩
end Sh
set_option maxRecDepth 100000
set_option maxHeartbeats 4000000
namespace Sh
open PySem PySem.Spec L2 Dt Sh
end Sh
namespace Dt
open PySem PySem.Spec L2
/-- a number as a text -/
def numS (n : Nat) : Str := toString (n : Int)
mutual
/-- a pattern's words -/
def Pt.wds : Pt → List Str
  | .stay => ["stay"]
  | .step b w => [if b then "on" else "back", w]
  | .mark b m => [if b then "at" else "off", m]
  | .seq b ps => (if b then "then" else "either") :: numS ps.length :: Pt.wdss ps
  | .many p => "many" :: Pt.wds p
def Pt.wdss : List Pt → List Str
  | [] => []
  | p :: ps => Pt.wds p ++ Pt.wdss ps
end
namespace Pt
theorem wdss_nil : wdss [] = [] := rfl
theorem wdss_cons (p : Pt) (ps : List Pt) : wdss (p :: ps) = wds p ++ wdss ps := rfl
theorem wdss_app (ps qs : List Pt) : wdss (ps ++ qs) = wdss ps ++ wdss qs := by
  induction ps with
  | nil => rfl
  | cons p ps ih => rw [List.cons_append, wdss_cons, wdss_cons, ih, List.append_assoc]
theorem wdss_succ {ps : List Pt} {i : Nat} (h : i < ps.length) : wdss (ps.take (i + 1)) = wdss (ps.take i) ++ (ps[i]).wds := by
  rw [List.take_succ, List.getElem?_eq_getElem h, wdss_app]
  simp [wdss]
theorem wdss_drop {ps : List Pt} {i : Nat} (h : i < ps.length) : wdss (ps.drop i) = (ps[i]).wds ++ wdss (ps.drop (i + 1)) := by
  rw [List.drop_eq_getElem_cons h, wdss_cons]
mutual
theorem wds_len : ∀ p : Pt, 1 ≤ (wds p).length ∧ (wds p).length ≤ 2 * (all p).length
  | .stay => by simp [wds, all]
  | .step b w => by simp [wds, all]
  | .mark b m => by simp [wds, all]
  | .seq b ps => by
    have := wdss_len ps
    simp [wds, all]
    omega
  | .many p => by
    have := wds_len p
    simp [wds, all]
    omega
theorem wdss_len : ∀ ps : List Pt, (wdss ps).length ≤ 2 * (alls ps).length
  | [] => by simp [wdss, alls]
  | p :: ps => by
    have := wds_len p
    have := wdss_len ps
    simp [wdss, alls]
    omega
end
theorem seq_len {b : Bool} {ps : List Pt} : ps.length + 1 ≤ (Pt.seq b ps).all.length := by
  have := flat_all_len ps
  rw [all_seq, List.length_cons, alls_flat]
  omega
end Pt
/-- a word of a text: short, no blank in it -/
def Wo (x : Str) : Prop := x.length ≤ 8 ∧ ∀ c ∈ x.cps.toList, c ≠ 32
theorem Nm.wo {x : Str} (h : Nm x) : Wo x := ⟨h.2.1, fun c hc => by have := h.2.2 c hc; omega⟩
theorem num_facts : ∀ n : Nat, n < 41 → (numS n).length ≤ 2 ∧ 1 ≤ (numS n).length ∧ (∀ c ∈ (numS n).cps.toList, 48 ≤ c ∧ c ≤ 57) ∧ PySem.intText? (numS n) = some (n : Int) ∧ ((numS n).cps.toList.head? = some 48 → numS n = "0") ∧ (n : Int).natAbs.log2 < 1920 := by decide +kernel
theorem num_wo {n : Nat} (h : n < 41) : Wo (numS n) := by
  obtain ⟨h1, h2, h3, -⟩ := num_facts n h
  exact ⟨by omega, fun c hc => by have := h3 c hc; omega⟩
theorem wds_wo (p : Pt) : p.okP Nm → p.all.length ≤ 40 → ∀ x ∈ p.wds, Wo x := fun h1 h2 => go p h1 h2
where
  go : ∀ p : Pt, p.okP Nm → p.all.length ≤ 40 → ∀ x ∈ p.wds, Wo x
  | .stay, h1, h2 => by
    intro x hx
    simp [Pt.wds] at hx
    subst hx
    exact ⟨by decide, by decide +kernel⟩
  | .step b w, h1, h2 => by
    intro x hx
    have hw := h1 _ (Pt.self_all _)
    simp [Pt.wds] at hx
    rcases hx with rfl | rfl
    · cases b <;> exact ⟨by decide, by decide +kernel⟩
    · rcases hw with rfl | hw
      · exact ⟨by decide, by decide +kernel⟩
      · exact hw.wo
  | .mark b m, h1, h2 => by
    intro x hx
    have hw : Nm m := h1 _ (Pt.self_all _)
    simp [Pt.wds] at hx
    rcases hx with rfl | rfl
    · cases b <;> exact ⟨by decide, by decide +kernel⟩
    · exact hw.wo
  | .seq b ps, h1, h2 => by
    intro x hx
    have hl := Pt.seq_len (b := b) (ps := ps)
    simp [Pt.wds] at hx
    rcases hx with rfl | rfl | hx
    · cases b <;> exact ⟨by decide, by decide +kernel⟩
    · exact num_wo (by omega)
    · exact gos ps (fun p hp => okP_kids h1 hp) (by rw [Pt.all_seq, List.length_cons] at h2; omega) x hx
  | .many p, h1, h2 => by
    intro x hx
    simp [Pt.wds] at hx
    rcases hx with rfl | hx
    · exact ⟨by decide, by decide +kernel⟩
    · exact go p (okP_kids h1 (by simp [Pt.kids])) (by rw [Pt.all_many, List.length_cons] at h2; omega) x hx
  gos : ∀ ps : List Pt, (∀ p ∈ ps, p.okP Nm) → (Pt.alls ps).length ≤ 40 → ∀ x ∈ Pt.wdss ps, Wo x
  | [], _, _ => fun x hx => by cases hx
  | p :: ps, h1, h2 => fun x hx => by
    rw [Pt.alls_cons, List.length_append] at h2
    rw [Pt.wdss_cons] at hx
    rcases List.mem_append.mp hx with z | z
    · exact go p (h1 p (List.mem_cons_self ..)) (by omega) x z
    · exact gos ps (fun q hq => h1 q (List.mem_cons_of_mem _ hq)) (by omega) x z
/-! a text taken apart at blanks -/
def SP : Str := ⟨#[32]⟩
theorem sp_eq : (Str.ofString " ") = SP := by decide +kernel
theorem join_cons2 (s x y : Str) (r : List Str) : (Str.join s (x :: y :: r)).cps.toList = x.cps.toList ++ (s.cps.toList ++ (Str.join s (y :: r)).cps.toList) := by
  show (x.cps ++ s.cps ++ (Str.join s (y :: r)).cps).toList = _
  simp
theorem cut_uniq {c : Nat} : ∀ {a b x y : List Nat}, c ∉ a → c ∉ b → a ++ c :: x = b ++ c :: y → a = b ∧ x = y
  | [], [], x, y, _, _, e => by simpa using e
  | [], d :: b, x, y, _, hb, e => by
    simp at e
    exact absurd (by rw [e.1]; exact List.mem_cons_self ..) hb
  | d :: a, [], x, y, ha, _, e => by
    simp at e
    exact absurd (by rw [← e.1]; exact List.mem_cons_self ..) ha
  | d :: a, f :: b, x, y, ha, hb, e => by
    simp at e
    obtain ⟨h1, h2⟩ := cut_uniq (fun z => ha (List.mem_cons_of_mem _ z)) (fun z => hb (List.mem_cons_of_mem _ z)) e.2
    exact ⟨by rw [e.1, h1], h2⟩
theorem str_ext {x y : Str} (h : x.cps.toList = y.cps.toList) : x = y := PySem.Str.ext' (by rw [← Array.toArray_toList (xs := x.cps), h, Array.toArray_toList])
theorem join_uniq : ∀ {as bs : List Str}, as ≠ [] → bs ≠ [] → (∀ x ∈ as, 32 ∉ x.cps.toList) → (∀ x ∈ bs, 32 ∉ x.cps.toList) → Str.join SP as = Str.join SP bs → as = bs
  | [], _, h, _, _, _, _ => absurd rfl h
  | _ :: _, [], _, h, _, _, _ => absurd rfl h
  | [a], [b], _, _, ha, hb, e => by
    have e' : a = b := e
    rw [e']
  | [a], b :: b2 :: bs, _, _, ha, hb, e => by
    have e2 : a.cps.toList = _ := (congrArg (fun s : Str => s.cps.toList) (show a = Str.join SP (b :: b2 :: bs) from e)).trans (join_cons2 ..)
    have : 32 ∈ a.cps.toList := by rw [e2]; simp [SP]
    exact absurd this (ha a (List.mem_cons_self ..))
  | a :: a2 :: as, [b], _, _, ha, hb, e => by
    have e2 : b.cps.toList = _ := (congrArg (fun s : Str => s.cps.toList) (show b = Str.join SP (a :: a2 :: as) from e.symm)).trans (join_cons2 ..)
    have : 32 ∈ b.cps.toList := by rw [e2]; simp [SP]
    exact absurd this (hb b (List.mem_cons_self ..))
  | a :: a2 :: as, b :: b2 :: bs, _, _, ha, hb, e => by
    have e2 := congrArg (fun s : Str => s.cps.toList) e
    replace e2 : (Str.join SP (a :: a2 :: as)).cps.toList = (Str.join SP (b :: b2 :: bs)).cps.toList := e2
    rw [join_cons2, join_cons2] at e2
    obtain ⟨h1, h2⟩ := cut_uniq (c := 32) (ha a (List.mem_cons_self ..)) (hb b (List.mem_cons_self ..)) e2
    have := join_uniq (as := a2 :: as) (bs := b2 :: bs) (by simp) (by simp) (fun x hx => ha x (List.mem_cons_of_mem _ hx)) (fun x hx => hb x (List.mem_cons_of_mem _ hx)) (str_ext h2)
    rw [str_ext h1, this]
theorem split_ne (x y : Str) : Txt.split x y ≠ [] := by
  unfold Txt.split
  split
  · simp
  · split
    · simp
    · rw [PySem.StrLaws.partsBetween_eq]
      obtain ⟨p, r, e⟩ := PySem.StrLaws.partsFrom_ne x y.length 0 (Builtin.Str.occurrences x y 0 x.length (x.length + 1))
      rw [e]
      simp
theorem split_join {ws : List Str} (h : ws ≠ []) (hw : ∀ w ∈ ws, Wo w) : Txt.split (Txt.join (Str.ofString " ") ws) (Str.ofString " ") = ws := by
  rw [sp_eq, show Txt.join SP ws = Str.join SP ws from PySem.StrLaws.glued_eq_join ..]
  refine join_uniq (split_ne _ _) h (fun x hx => PySem.StrLaws.split_free _ 32 x hx) (fun x hx hc => (hw x hx).2 32 hc rfl) (PySem.StrLaws.join_split _ _)
theorem wo_sum {ws : List Str} (hw : ∀ w ∈ ws, Wo w) : (ws.map (·.length)).sum ≤ 8 * ws.length := by
  have := PySem.StrLaws.sumLen_le ws (B := 8) fun y hy => (hw y hy).1
  omega
theorem wo_join {ws : List Str} (hw : ∀ w ∈ ws, Wo w) : (Txt.join (Str.ofString " ") ws).length ≤ 9 * ws.length := by
  have e : (Txt.join (Str.ofString " ") ws).length = (ws.map (·.length)).sum + (ws.length - 1) * (Str.ofString " ").length := PySem.size_glued _ _
  have := wo_sum hw
  have e1 : (Str.ofString " ").length = 1 := by decide +kernel
  rw [e, e1]
  omega
end Dt
namespace Sh
open PySem PySem.Spec L2 Dt
end Sh
set_option maxRecDepth 100000
set_option maxHeartbeats 4000000
namespace Sh
open PySem PySem.Spec L2 Dt Sh
/-! what the defs promise -/
def sp_is_name : DSp := fun ds S Q _ => ∃ w : Str, ds = [.str w] ∧ (w = "*" ∨ Nm w) ∧ Q (.bl (!decide (w = "*"))) S
theorem sp_is_name_mono : SpMono sp_is_name := fun ds S Q Q' E E' k _ ⟨d, h1, h2, h⟩ => ⟨d, h1, h2, k _ _ h⟩
def sp_is_word : DSp := fun ds S Q _ => ∃ w : Str, ds = [.str w] ∧ (w = "*" ∨ Nm w) ∧ Q (.bl true) S
theorem sp_is_word_mono : SpMono sp_is_word := fun ds S Q Q' E E' k _ ⟨d, h1, h2, h⟩ => ⟨d, h1, h2, k _ _ h⟩
def sp_number_of : DSp := fun ds S Q _ => ∃ n : Nat, ds = [.str (numS n)] ∧ n < 41 ∧ Q (.int (n : Nat)) S
theorem sp_number_of_mono : SpMono sp_number_of := fun ds S Q Q' E E' k _ ⟨d, h1, h2, h⟩ => ⟨d, h1, h2, k _ _ h⟩
abbrev wdsD (p : Pt) : List D := p.wds.map D.str
def sp_words_of (n : Nat) : DSp := fun ds S Q _ => ∃ p : Pt, ds = [ptD p] ∧ p.deep ≤ n ∧ p.all.length ≤ 40 ∧ Q (.rol (wdsD p)) S
theorem sp_words_of_mono (n : Nat) : SpMono (sp_words_of n) := fun ds S Q Q' E E' k _ ⟨d, h1, h2, h3, h⟩ => ⟨d, h1, h2, h3, k _ _ h⟩
def sp_l_words : DSp := fun ds S Q _ => ∃ p : Pt, ds = [ptD p] ∧ p.okP Nm ∧ p.deep ≤ 10 ∧ p.all.length ≤ 40 ∧ Q (.rol (wdsD p)) S
theorem sp_l_words_mono : SpMono sp_l_words := fun ds S Q Q' E E' k _ ⟨d, h1, h2, h3, h4, h⟩ => ⟨d, h1, h2, h3, h4, k _ _ h⟩
def shownS (p : Pt) : Str := Txt.join (Str.ofString " ") p.wds
def sp_shown : DSp := fun ds S Q _ => ∃ p : Pt, ds = [ptD p] ∧ p.okP Nm ∧ p.deep ≤ 10 ∧ p.all.length ≤ 40 ∧ Q (.str (shownS p)) S
theorem sp_shown_mono : SpMono sp_shown := fun ds S Q Q' E E' k _ ⟨d, h1, h2, h3, h4, h⟩ => ⟨d, h1, h2, h3, h4, k _ _ h⟩
def t_is_name : DTS := (dSeq (dIf (dOr (dNot (dTest (dIsi "str" (dVar 0)))) (dOr (dTest (dOp rLt (dCB cLen (dCons (dVar 0) dNil)) (dC (.int 1)))) (dTest (dOp rGt (dCB cLen (dCons (dVar 0) dNil)) (dC (.int 8))))))
      (dRet (dC (.bl false)))
      dNx)
    (dRet (dCB cAll (dCons (dFz (dLc (dSeqI (dVar 0)) (dGN 1) dYes (dOp (dInS false) (dVar 1) (dC (.str "abcdefghijklmnopqrstuvwxyz"))) [1])) dNil))))
abbrev N_is_name : List Str := ["thing", "sign"]
def t_number_of : DTS := (dSeq (dIf (dOr (dTest (dOp rLt (dCB cLen (dCons (dVar 0) dNil)) (dC (.int 1)))) (dOr (dTest (dOp rGt (dCB cLen (dCons (dVar 0) dNil)) (dC (.int 2)))) (dNot (dTest (dCB cAll (dCons (dFz (dLc (dSeqI (dVar 0)) (dGN 1) dYes (dOp (dInS false) (dVar 1) (dC (.str "0123456789"))) [1])) dNil))))))
      (dRet (dC .non))
      dNx)
    (dSeq (dIf (dAnd (dTest (dOp (dEq false) (dOp dIxS (dVar 0) (dC (.int 0))) (dC (.str "0")))) (dTest (dOp (dEq true) (dVar 0) (dC (.str "0")))))
      (dRet (dC .non))
      dNx)
    (dRet (dCB cIntS (dCons (dVar 0) dNil)))))
abbrev N_number_of : List Str := ["word", "sign"]
def t_l_words : DTS := (dSeq (dAsg (dLst dNil) (dGN 1))
    (dSeq (dAsg (dLst (dCons (dVar 0) dNil)) (dGN 2))
    (dSeq (dWhile (dTest (dOp (dEq true) (dVar 2) (dLstF dNil)))
      (dSeq (dAsg (dBM "list" mPop (dVar 2) dNil) (dGN 3))
    (dIf (dTest (dOp (dEq false) (dOp dIxS (dVar 3) (dC (.int 0))) (dC (.str "step"))))
      (dDrop (dBM "list" mExtend (dVar 1) (dCons (dLstF (dCons (dOp dIxS (dVar 3) (dC (.int 1))) (dCons (dOp dIxS (dVar 3) (dC (.int 2))) dNil))) dNil)))
      (dIf (dTest (dOp (dEq false) (dOp dIxS (dVar 3) (dC (.int 0))) (dC (.str "many"))))
      (dSeq (dDrop (dBM "list" mAppend (dVar 1) (dCons (dC (.str "many")) dNil)))
    (dDrop (dBM "list" mAppend (dVar 2) (dCons (dOp dIxS (dVar 3) (dC (.int 1))) dNil))))
      (dIf (dTest (dOp (dIn false) (dOp dIxS (dVar 3) (dC (.int 0))) (dTup (dCons (dC (.str "then")) (dCons (dC (.str "either")) dNil)))))
      (dSeq (dDrop (dBM "list" mExtend (dVar 1) (dCons (dLstF (dCons (dOp dIxS (dVar 3) (dC (.int 0))) (dCons (dCB cStr (dCons (dCB cLen (dCons (dOp dIxS (dVar 3) (dC (.int 1))) dNil)) dNil)) dNil))) dNil)))
    (dDrop (dBM "list" mExtend (dVar 2) (dCons (dLstRevTF (dOp dIxS (dVar 3) (dC (.int 1)))) dNil))))
      (dDrop (dBM "list" mExtend (dVar 1) (dCons (dCB cListAF (dCons (dVar 3) dNil)) dNil))))))))
    (dRet (dVar 1)))))
abbrev N_l_words : List Str := ["_law_pattern_here", "_law_words_here", "_law_left", "_law_part"]
def t_is_word : DTS := (dRet (dOrV (dCall sp_is_name (dCons (dVar 0) dNil)) (dAndV (dIsi "str" (dVar 0)) (dOp (dEq false) (dVar 0) (dC (.str "*"))))))
abbrev N_is_word : List Str := ["thing"]
def t_words_of (spR : DSp) : DTS := (dSeq (dIf (dTest (dOp (dEq false) (dOp dIxS (dVar 0) (dC (.int 0))) (dC (.str "step"))))
      (dRet (dLstF (dCons (dOp dIxS (dVar 0) (dC (.int 1))) (dCons (dOp dIxS (dVar 0) (dC (.int 2))) dNil))))
      dNx)
    (dSeq (dAsg (dLst (dCons (dOp dIxS (dVar 0) (dC (.int 0))) dNil)) (dGN 1))
    (dSeq (dIf (dTest (dOp (dIn false) (dOp dIxS (dVar 0) (dC (.int 0))) (dTup (dCons (dC (.str "at")) (dCons (dC (.str "off")) dNil)))))
      (dDrop (dBM "list" mAppend (dVar 1) (dCons (dOp dIxS (dVar 0) (dC (.int 1))) dNil)))
      dNx)
    (dSeq (dIf (dTest (dOp (dIn false) (dOp dIxS (dVar 0) (dC (.int 0))) (dTup (dCons (dC (.str "then")) (dCons (dC (.str "either")) dNil)))))
      (dDrop (dBM "list" mAppend (dVar 1) (dCons (dCB cStr (dCons (dCB cLen (dCons (dOp dIxS (dVar 0) (dC (.int 1))) dNil)) dNil)) dNil)))
      dNx)
    (dSeq (dFor (dSeqI (dCall sp_parts_of (dCons (dVar 0) dNil))) (dGN 2)
      (dDrop (dBM "list" mExtend (dVar 1) (dCons (dCall spR (dCons (dVar 2) dNil)) dNil))))
    (dRet (dVar 1)))))))
abbrev N_words_of : List Str := ["pattern", "words", "part"]
def t_shown : DTS := (dRet (dBM "str" mJoin (dC (.str " ")) (dCons (dCall (sp_words_of 20) (dCons (dVar 0) dNil)) dNil)))
abbrev N_shown : List Str := ["pattern"]
theorem seq_hd (b : Bool) (ps : List Pt) : ptD (.seq b ps) = .tup [.str (if b then "then" else "either"), .tup (ptDs ps)] := rfl
theorem alls_take_le' : ∀ (ps : List Pt) (i : Nat), (h : i < ps.length) → (Pt.alls (ps.take i)).length + (ps[i]).all.length ≤ (Pt.alls ps).length
  | p :: ps, 0, _ => by rw [Pt.alls_cons, List.length_append]; simp [Pt.alls_nil]
  | p :: ps, i + 1, h => by
    have := alls_take_le' ps i (by simpa using h)
    rw [List.take_succ_cons, Pt.alls_cons, Pt.alls_cons, List.length_append, List.length_append]
    simp
    omega
theorem all_in {al x : Str} {E : DW} {a b : Option D} {S : DH} {Q : DK} {G : DH → Prop} (hG : ∀ S, G S) (hx : x.length ≤ 100) (h : Q (.bl (x.cps.toList.all fun c => decide (c ∈ al.cps.toList))) S) :
    newO S (.lst []) fun p S1 => dLcL (dGN 1) dYes (dOp (dInS false) (dVar 1) (dC (.str al))) E [a, b] G p (fzK (fun d S1 => cAll [d] S1 Q) (.ref p)) (x.cps.toList.map signD) S1 := by
  have hs : x.cps.toList.length = x.length := by simp [Str.length]
  refine lcF_map (fun d => match d with | .str s => .bl (!(Builtin.Str.occurrences al s 0 al.length 1).isEmpty) | _ => .non) (fun _ _ _ => hG _) (fun d hd acc p N hp hl hN => ?_) (by rw [List.length_map, hs]; exact Nat.lt_of_le_of_lt hx (by decide)) ?_
  · obtain ⟨c, hc, rfl⟩ := List.mem_map.mp hd
    simp [signD]
    exact ⟨hl, hN⟩
  · refine ⟨_, x.cps.toList.map fun c => decide (c ∈ al.cps.toList), rfl, ?_, ?_⟩
    · simp only [seqD_rol, List.map_map]
      refine congrArg some (List.map_congr_left fun c _ => ?_)
      simp only [Function.comp, signD]
      rw [PySem.StrLaws.found_one]
    · rw [List.all_map]
      exact h
theorem r_is_name (ds S Q E) (h : sp_is_name ds S Q E) : t_is_name (dEnd Q E) (dstart N_is_name ds) S := by
  obtain ⟨x, rfl, hw, h⟩ := h
  have hx : 1 ≤ x.length ∧ x.length ≤ 8 := by
    rcases hw with rfl | hw
    · decide +kernel
    · exact ⟨hw.1, hw.2.1⟩
  simp [t_is_name, dstart]
  refine ⟨by omega, ?_⟩
  rw [if_neg (by omega)]
  refine ⟨by omega, ?_⟩
  rw [if_neg (by omega)]
  refine all_in (fun _ => trivial) (by omega) (.same ?_)
  have e : (x.cps.toList.all fun c => decide (c ∈ (Str.ofString "abcdefghijklmnopqrstuvwxyz").cps.toList)) = !decide (x = "*") := by
    rcases hw with rfl | hw
    · decide +kernel
    · have ne : x ≠ "*" := fun e => by
        have := hw.2.2 42 (by rw [e]; decide +kernel)
        omega
      simp only [ne, decide_false, Bool.not_false, List.all_eq_true, decide_eq_true_eq]
      intro c hc
      obtain ⟨h1, h2⟩ := hw.2.2 c hc
      have : ∀ c : Nat, c < 123 → 97 ≤ c → c ∈ (Str.ofString "abcdefghijklmnopqrstuvwxyz").cps.toList := by decide +kernel
      exact this c (by omega) h1
  rw [e]
  exact h
theorem r_is_word (ds S Q E) (h : sp_is_word ds S Q E) : t_is_word (dEnd Q E) (dstart N_is_word ds) S := by
  obtain ⟨x, rfl, hw, h⟩ := h
  simp [t_is_word, dstart]
  refine ⟨x, rfl, hw, ?_⟩
  by_cases e : x = "*"
  · subst e
    simp
    exact .same h
  · simp [e]
    exact .same h
theorem r_number_of (ds S Q E) (h : sp_number_of ds S Q E) : t_number_of (dEnd Q E) (dstart N_number_of ds) S := by
  obtain ⟨n, rfl, hn, h⟩ := h
  obtain ⟨f1, f2, f3, f4, f5, f6⟩ := num_facts n hn
  generalize hx : numS n = x at f1 f2 f3 f4 f5
  simp [t_number_of, dstart]
  refine ⟨by omega, ?_⟩
  rw [if_neg (by omega)]
  refine ⟨by omega, ?_⟩
  rw [if_neg (by omega)]
  refine all_in (fun _ => trivial) (by omega) ?_
  have e : (x.cps.toList.all fun c => decide (c ∈ (Str.ofString "0123456789").cps.toList)) = true := by
    simp only [List.all_eq_true, decide_eq_true_eq]
    intro c hc
    obtain ⟨h1, h2⟩ := f3 c hc
    have : ∀ c : Nat, c < 58 → 48 ≤ c → c ∈ (Str.ofString "0123456789").cps.toList := by decide +kernel
    exact this c (by omega) h1
  rw [e]
  simp
  refine ⟨by omega, ?_⟩
  have hs : x.cps.toList.length = x.length := by simp [Str.length]
  cases hc : x.cps.toList with
  | nil => rw [hc] at hs; simp at hs; omega
  | cons c cs =>
    have fin : x.length ≤ 640 ∧ opt (PySem.intText? x) fun n => Rt Q (D.int n) S := ⟨by omega, by rw [f4]; exact .same h⟩
    rw [atI_0, opt_some]
    split
    · rename_i h0
      have ec : c = 48 := by
        have := congrArg (fun s : Str => s.cps.toList) h0
        have z : (Str.ofString "0").cps.toList = [48] := by decide +kernel
        rw [z] at this
        simpa using this
      rw [if_pos (f5 (by rw [hc, ec]; rfl))]
      exact fin
    · exact fin
theorem r_parts_kids {p : Pt} {S : DH} {Q : DK} {E : DXK} (h : Q (.rol (ptDs p.kids)) S) : sp_parts_of [ptD p] S Q E := ⟨p, rfl, h⟩
theorem words_tail {n : Nat} {p : Pt} {l : Addr} {S : DH} {pre : List Str} {Q : DK} {E : DXK} (hl : S l = none) (hp : p.wds = pre ++ Pt.wdss p.kids) (hk : ∀ q ∈ p.kids, q.deep + 1 ≤ n) (ha : p.all.length ≤ 40) (h : Q (.rol (wdsD p)) S) :
    dSeq (dFor (dSeqI (dCall sp_parts_of (dCons (dVar 0) dNil))) (dGN 2) (dDrop (dBM "list" mExtend (dVar 1) (dCons (dCall (prevSp sp_words_of n) (dCons (dVar 2) dNil)) dNil)))) (dRet (dVar 1)) (dEnd Q E)
      [some (ptD p), some (.ref l), none] (upo S l (.lst (pre.map D.str))) := by
  have hlen := (Pt.wds_len p).2
  rw [hp, List.length_append] at hlen
  refine dSeqFor_gen fun B R hB hR => ?_
  simp
  refine r_parts_kids ?_
  simp
  refine loop_inv (fun i τ S' => ∃ c, τ = [some (ptD p), some (.ref l), c] ∧ S' = upo S l (.lst ((pre ++ Pt.wdss (p.kids.take i)).map D.str))) ⟨none, rfl, by simp [Pt.wdss]⟩ (fun _ _ _ _ _ => trivial) ?_ ?_
  · rintro i d τ S1 N hd' ⟨c, rfl, rfl⟩ hN
    have hi : i < p.kids.length := by
      have := (List.getElem?_eq_some_iff.mp hd').1
      rwa [ptDs_len] at this
    rw [ptDs_at hi] at hd'
    cases hd'
    have hk1 := hk _ (List.getElem_mem hi)
    obtain ⟨n, rfl⟩ : ∃ m, n = m + 1 := ⟨n - 1, by omega⟩
    have hall : (p.kids[i]).all.length ≤ 40 := by
      have : (p.kids[i]).all.length ≤ p.all.length := by
        rw [Pt.all_kids p, List.length_cons, ← Pt.alls_flat]
        have := alls_take_le' p.kids i hi
        omega
      omega
    have hw : Pt.wdss (p.kids.take (i + 1)) = Pt.wdss (p.kids.take i) ++ (p.kids[i]).wds := Pt.wdss_succ hi
    have hl2 : (Pt.wdss (p.kids.take (i + 1))).length ≤ (Pt.wdss p.kids).length := by
      have := congrArg List.length (Pt.wdss_app (p.kids.take (i + 1)) (p.kids.drop (i + 1)))
      rw [List.take_append_drop, List.length_append] at this
      omega
    rw [hw, List.length_append] at hl2
    subst hB
    simp
    refine ⟨p.kids[i], rfl, by omega, hall, ?_⟩
    simp
    have := line63
    refine ⟨by omega, ?_⟩
    exact hN _ _ ⟨_, rfl, by rw [hw]; simp⟩
  · rintro τ S1 ⟨c, rfl, rfl⟩
    subst hR
    rw [ptDs_len, List.take_length, ← hp]
    simp
    exact .rol (by simp) hl (Sub.new hl) h
theorem r_words_of (n : Nat) (ds S Q E) (h : sp_words_of n ds S Q E) : t_words_of (prevSp sp_words_of n) (dEnd Q E) (dstart N_words_of ds) S := by
  obtain ⟨p, rfl, hd, ha, h⟩ := h
  unfold t_words_of
  have hz := line63
  cases p with
  | step b w =>
    refine dSeq_gen fun R hR => ?_
    simp [dstart, ptD, inF]
    have e : [D.str (if b = true then Str.ofString "on" else Str.ofString "back"), D.str w] = wdsD (.step b w) := rfl
    rw [e]
    exact .same h
  | stay =>
    have T := fun l hl => words_tail (n := n) (p := .stay) (l := l) (S := S) (pre := ["stay"]) (Q := Q) (E := E) hl rfl (fun q hq => by cases hq) ha h
    refine dSeq_gen fun R hR => ?_
    simp [dstart, ptD, inF]
    subst hR
    refine dSeq_gen fun R hR => ?_
    simp
    intro l hl
    subst hR
    refine dSeq_gen fun R hR => ?_
    simp [inF]
    subst hR
    refine dSeq_gen fun R hR => ?_
    simp [inF]
    subst hR
    exact T l hl
  | mark b m =>
    have T := fun l hl => words_tail (n := n) (p := .mark b m) (l := l) (S := S) (pre := [if b then "at" else "off", m]) (Q := Q) (E := E) hl rfl (fun q hq => by cases hq) ha h
    have e0 : ptD (.mark b m) = .tup [.str (if b then "at" else "off"), .str m] := rfl
    have e1 : ((if b then "at" else "off" : Str) == "step") = false := by cases b <;> decide +kernel
    have e2 : inF (.str (if b then "at" else "off" : Str)) [.str "then", .str "either"] = false := by cases b <;> decide +kernel
    have e3 : inF (.str (if b then "at" else "off" : Str)) [.str "at", .str "off"] = true := by cases b <;> decide +kernel
    rw [e0] at T ⊢
    generalize hq : (if b then "at" else "off" : Str) = hd0 at e1 e2 e3 T
    refine dSeq_gen fun R hR => ?_
    simp [dstart, e1]
    subst hR
    refine dSeq_gen fun R hR => ?_
    simp
    intro l hl
    subst hR
    refine dSeq_gen fun R hR => ?_
    simp [e3]
    subst hR
    refine dSeq_gen fun R hR => ?_
    simp [e2]
    subst hR
    exact T l hl
  | many q =>
    have T := fun l hl => words_tail (n := n) (p := .many q) (l := l) (S := S) (pre := ["many"]) (Q := Q) (E := E) hl (by simp [Pt.wds, Pt.kids, Pt.wdss]) (fun r hr => by simp [Pt.kids] at hr; subst hr; exact hd) ha h
    refine dSeq_gen fun R hR => ?_
    simp [dstart, ptD, inF]
    subst hR
    refine dSeq_gen fun R hR => ?_
    simp
    intro l hl
    subst hR
    refine dSeq_gen fun R hR => ?_
    simp [inF]
    subst hR
    refine dSeq_gen fun R hR => ?_
    simp [inF]
    subst hR
    exact T l hl
  | seq b ps =>
    have hln := Pt.seq_len (b := b) (ps := ps)
    have T := fun l hl => words_tail (n := n) (p := .seq b ps) (l := l) (S := S) (pre := [if b then "then" else "either", numS ps.length]) (Q := Q) (E := E) hl rfl (fun r hr => by have := deeps_mem (ps := ps) (p := r) hr; rw [Pt.deep_seq] at hd; omega) ha h
    rw [seq_hd] at T ⊢
    have e1 : ((if b then "then" else "either" : Str) == "step") = false := by cases b <;> decide +kernel
    have e2 : inF (.str (if b then "then" else "either" : Str)) [.str "then", .str "either"] = true := by cases b <;> decide +kernel
    have e3 : inF (.str (if b then "then" else "either" : Str)) [.str "at", .str "off"] = false := by cases b <;> decide +kernel
    generalize hq : (if b then "then" else "either" : Str) = hd0 at e1 e2 e3 T
    have hx := (num_facts ps.length (by omega)).2.2.2.2.2
    refine dSeq_gen fun R hR => ?_
    simp [dstart, e1]
    subst hR
    refine dSeq_gen fun R hR => ?_
    simp
    intro l hl
    subst hR
    refine dSeq_gen fun R hR => ?_
    simp [e3]
    subst hR
    refine dSeq_gen fun R hR => ?_
    simp [e2, ptDs_len]
    refine ⟨hx, ?_⟩
    subst hR
    exact T l hl
theorem r_shown (ds S Q E) (h : sp_shown ds S Q E) : t_shown (dEnd Q E) (dstart N_shown ds) S := by
  obtain ⟨p, rfl, ok, hd, ha, h⟩ := h
  have hw := wds_wo p ok ha
  have h1 := wo_sum hw
  have h2 := p.wds_len
  simp [t_shown, dstart]
  refine ⟨p, rfl, by omega, ha, ?_⟩
  refine ⟨_, _, p.wds, rfl, rfl, .inl rfl, ?_, .same h⟩
  have e : (Str.ofString " ").length = 1 := by decide +kernel
  rw [e]
  omega
theorem dSeqWhile_g {c : DTT} {tb r : DTS} {A : DEnds} {τ : DSt} {S : DH} (h : ∀ B R, B = tb → R = r → dSeq (dWhile c B) R A τ S) : dSeq (dWhile c tb) r A τ S := h tb r rfl rfl
theorem r_l_words (ds S Q E) (h : sp_l_words ds S Q E) : t_l_words (dEnd Q E) (dstart N_l_words ds) S := by
  obtain ⟨p, rfl, ok, hd, ha, h⟩ := h
  have hz := line63
  unfold t_l_words
  refine dSeq_gen fun R hR => ?_
  simp [dstart]
  intro a ha0
  subst hR
  refine dSeq_gen fun R hR => ?_
  simp
  intro b hb
  obtain ⟨nab, hb⟩ := upo_none hb
  subst hR
  refine dSeqWhile_g fun B R hB hR => ?_
  refine while_inv (fun τ S' => ∃ (acc : List Str) (st : List Pt) (c : Option D), τ = [some (ptD p), some (.ref a), some (.ref b), c] ∧ S' = upo (upo S a (.lst (acc.map D.str))) b (.lst (ptDs st)) ∧
      acc ++ Pt.wdss st.reverse = p.wds ∧ (∀ q ∈ st, q.okP Nm ∧ q.deep ≤ 10) ∧ acc.length + (Pt.wdss st).length ≤ 80 ∧ (Pt.alls st).length ≤ 40)
    (fun _ S' => match S' a with | some (.lst ds) => 81 - ds.length | _ => 0) ⟨[], [p], none, rfl, rfl, by simp [Pt.wdss], by simpa using ⟨ok, hd⟩, ?_, ?_⟩ ?_
  · have := p.wds_len
    simp [Pt.wdss]
    omega
  · simpa [Pt.alls] using ha
  rintro τ S1 N ⟨acc, st, c, rfl, rfl, h1, h2, h3, h4⟩ hN
  simp
  refine dEq_seq (xs := ptDs st) (ys := []) (by simp) (by simp) (fun x hx => ?_) (fun x hx => by cases hx) ?_
  · obtain ⟨q, hq, rfl⟩ := mem_ptDs hx
    exact (pt_sm q (h2 q hq).1).mono (by have := (h2 q hq).2; omega)
  simp
  rcases List.eq_nil_or_concat st with rfl | ⟨st', q, rfl⟩
  · subst hR
    simp [ptDs]
    simp [Pt.wdss] at h1
    refine .rol (ds := p.wds.map D.str) ?_ ha0 ?_ h
    · rw [upo_ne nab.symm, upo_same, h1]
    · intro x o e
      rw [upo_ne (fun z => by rw [z, hb] at e; cases e), upo_ne (fun z => by rw [z, ha0] at e; cases e)]
      exact e
  have e0 : ptDs (st' ++ [q]) = ptDs st' ++ [ptD q] := by rw [ptDs_app]; rfl
  rw [List.concat_eq_append] at *
  rw [e0]
  simp only [List.append_eq_nil_iff, List.cons_ne_self, and_false, if_false, reduceCtorEq]
  have g2 := h2 q (by simp)
  rw [Pt.wdss_app, List.length_append, show Pt.wdss [q] = q.wds from by simp [Pt.wdss]] at h3
  rw [show Pt.alls (st' ++ [q]) = Pt.alls st' ++ q.all from by simp [Pt.alls_flat], List.length_append] at h4
  rw [List.reverse_append, Pt.wdss_app, show Pt.wdss [q].reverse = q.wds from by simp [Pt.wdss]] at h1
  have fin : ∀ (ws : List Str) (ks : List Pt), q.wds = ws ++ Pt.wdss ks.reverse → ws ≠ [] → (∀ r ∈ ks, r ∈ q.kids) → (Pt.alls ks).length ≤ q.all.length → (Pt.wdss ks).length = (Pt.wdss ks.reverse).length → ∀ c S2, S2 = upo (upo S a (.lst ((acc ++ ws).map D.str))) b (.lst (ptDs (st' ++ ks))) →
      N [some (ptD p), some (.ref a), some (.ref b), c] S2 := by
    intro ws ks g1 g3 g4 g5 g6 c S2 e
    have l1 := congrArg List.length g1
    rw [List.length_append] at l1
    have l2 : 1 ≤ ws.length := List.length_pos_iff.mpr g3
    refine hN _ _ ⟨acc ++ ws, st' ++ ks, c, rfl, e, ?_, ?_, ?_, ?_⟩ ?_
    · rw [List.reverse_append, Pt.wdss_app, List.append_assoc, ← List.append_assoc ws, ← g1, h1]
    · intro r hr
      rcases List.mem_append.mp hr with z | z
      · exact h2 r (by simp [z])
      · have hk := g4 r z
        refine ⟨okP_kids g2.1 hk, ?_⟩
        have : r.deep ≤ q.deep := by
          cases q with
          | many x => simp [Pt.kids] at hk; subst hk; rw [Pt.deep_many]; omega
          | seq bb ps => have := deeps_mem (ps := ps) (p := r) hk; rw [Pt.deep_seq]; omega
          | _ => cases hk
        omega
    · rw [Pt.wdss_app, List.length_append, List.length_append]; omega
    · rw [show Pt.alls (st' ++ ks) = Pt.alls st' ++ Pt.alls ks from by simp [Pt.alls_flat], List.length_append]; omega
    · rw [e, upo_ne nab.symm, upo_same, upo_ne nab.symm, upo_same]
      simp
      omega
  clear hN
  subst hB
  refine dSeq_gen fun R2 hR2 => ?_
  simp
  subst hR2
  have ea : ∀ oa ob, upo (upo S a oa) b ob a = some oa := fun oa ob => by rw [upo_ne nab.symm, upo_same]
  have en : ∀ oa ob oc, upo (upo (upo S a oa) b ob) a oc = upo (upo S a oc) b ob := fun oa ob oc => by rw [upo_comm nab, upo_upo]
  have l0 : acc.length ≤ 80 := by omega
  have l1 : (ptDs st').length ≤ 40 := by
    rw [ptDs_len]
    have := Pt.flat_all_len st'
    rw [← Pt.alls_flat] at this
    omega
  cases q with
  | step bb w =>
    simp [ptD, inF, ea, en]
    refine ⟨by omega, fin [_, _] [] rfl (by simp) (by simp) (by simp [Pt.alls]) rfl _ _ ?_⟩
    simp
  | many x =>
    simp [ptD, inF, ea, en]
    refine ⟨by omega, by omega, fin ["many"] [x] (by simp [Pt.wds, Pt.wdss]) (by simp) (by simp [Pt.kids]) (by simp [Pt.alls, Pt.all]) rfl _ _ ?_⟩
    simp [ptDs_app]
    rfl
  | stay =>
    simp [ptD, inF, ea, en]
    refine ⟨by omega, fin [_] [] rfl (by simp) (by simp) (by simp [Pt.alls]) rfl _ _ ?_⟩
    simp
  | mark bb m =>
    cases bb <;>
    · simp [ptD, inF, ea, en]
      refine ⟨by omega, fin [_, _] [] rfl (by simp) (by simp) (by simp [Pt.alls]) rfl _ _ ?_⟩
      simp
  | seq bb ps =>
    rw [seq_hd]
    have hln := Pt.seq_len (b := bb) (ps := ps)
    have hx := (num_facts ps.length (by omega)).2.2.2.2.2
    have e1 : ((if bb then "then" else "either" : Str) == "step") = false := by cases bb <;> decide +kernel
    have e2 : inF (.str (if bb then "then" else "either" : Str)) [.str "then", .str "either"] = true := by cases bb <;> decide +kernel
    have e3 : ((if bb then "then" else "either" : Str) == "many") = false := by cases bb <;> decide +kernel
    have fin' := fin [if bb then "then" else "either", numS ps.length] ps.reverse (by rw [List.reverse_reverse]; rfl) (by simp) (by simp [Pt.kids]) (by
        rw [Pt.all_seq, List.length_cons, Pt.alls_flat, Pt.alls_flat, ((List.reverse_perm ps).flatMap_right _).length_eq]
        omega) (by
        have w1 : ∀ L : List Pt, Pt.wdss L = L.flatMap Pt.wds := fun L => by
          induction L with
          | nil => rfl
          | cons x L ih => rw [Pt.wdss_cons, ih]; rfl
        rw [w1, w1, ((List.reverse_perm ps.reverse).flatMap_right _).length_eq])
    have e5 : Str.ofString ((ps.length : Int)).repr = numS ps.length := rfl
    generalize hq : (if bb then "then" else "either" : Str) = hd0 at e1 e2 e3 fin'
    have e6 : ptDs (st' ++ ps.reverse) = ptDs st' ++ (ptDs ps).reverse := by rw [ptDs_app, ptDs_map ps.reverse, ptDs_map ps, List.map_reverse]
    have l2 : ps.length ≤ 40 := by omega
    have hx2 : ps.length.log2 < 1920 := by simpa using hx
    simp [e1, e2, e3, ea, en, ptDs_len, e5]
    rw [ptDs_len] at l1
    refine ⟨hx2, by omega, by omega, fin' _ _ ?_⟩
    rw [e6]
    simp
end Sh
set_option maxRecDepth 100000
set_option maxHeartbeats 4000000
namespace Sh
open PySem PySem.Spec L2 Dt Sh
/-! what the defs of a Reader promise -/
section
variable (C : Addr)
/-- a Reader that is at word i, having read n parts -/
abbrev rdO (l : Addr) (i n : Nat) : Ob := .ins C [("words_read", .ref l), ("at_word", .int (i : Nat)), ("parts_read", .int (n : Nat))]
def Rd (S : DH) (r l : Addr) (ws : List Str) (i n : Nat) : Prop := S r = some (rdO C l i n) ∧ S l = some (.lst (ws.map D.str)) ∧ ws.length ≤ 80
variable {C : Addr}
theorem Rd.ne {S r l ws i n} (h : Rd C S r l ws i n) : l ≠ r := fun e => by have h1 := h.1; have h2 := h.2.1; rw [e, h1] at h2; cases h2
theorem Rd.go {S r l ws i n j m} (h : Rd C S r l ws i n) : Rd C (upo S r (rdO C l j m)) r l ws j m := ⟨upo_same, (upo_ne h.ne).trans h.2.1, h.2.2⟩
variable (C : Addr)
def sp_Reader_init : DSp := fun ds S Q _ => ∃ (r l : Addr) (ws : List Str), ds = [.ref r, .ref l, .int 0] ∧ S r = some (.ins C []) ∧ Q .non (upo S r (rdO C l 0 0))
theorem sp_Reader_init_mono : SpMono (sp_Reader_init C) := fun ds S Q Q' E E' k _ ⟨r, l, ws, h1, h2, h⟩ => ⟨r, l, ws, h1, h2, k _ _ h⟩
def sp_Reader_next_word : DSp := fun ds S Q _ => ∃ (r l : Addr) (ws : List Str) (i n : Nat) (w : Str), ds = [.ref r] ∧ Rd C S r l ws i n ∧ ws[i]? = some w ∧ Q (.str w) (upo S r (rdO C l (i + 1) n))
theorem sp_Reader_next_word_mono : SpMono (sp_Reader_next_word C) := fun ds S Q Q' E E' k _ ⟨r, l, ws, i, n, w, h1, h2, h3, h⟩ => ⟨r, l, ws, i, n, w, h1, h2, h3, k _ _ h⟩
def sp_Reader_ask_last : DSp := fun ds S Q _ => ∃ d : D, ds = [d, .bl true] ∧ Q .non S
theorem sp_Reader_ask_last_mono : SpMono sp_Reader_ask_last := fun ds S Q Q' E E' k _ ⟨r, h1, h⟩ => ⟨r, h1, k _ _ h⟩
def sp_Reader_name_next : DSp := fun ds S Q _ => ∃ (r l : Addr) (ws : List Str) (i n : Nat) (w : Str), ds = [.ref r] ∧ Rd C S r l ws i n ∧ ws[i]? = some w ∧ Nm w ∧ Q (.str w) (upo S r (rdO C l (i + 1) n))
theorem sp_Reader_name_next_mono : SpMono (sp_Reader_name_next C) := fun ds S Q Q' E E' k _ ⟨r, l, ws, i, n, w, h1, h2, h3, h4, h⟩ => ⟨r, l, ws, i, n, w, h1, h2, h3, h4, k _ _ h⟩
def sp_Reader_pattern (k : Nat) : DSp := fun ds S Q _ => ∃ (r l : Addr) (ws : List Str) (i n j : Nat) (p : Pt) (rest : List Str), ds = [.ref r, .int (j : Nat)] ∧ Rd C S r l ws i n ∧ ws.drop i = p.wds ++ rest ∧ p.okP Nm ∧ j + p.deep ≤ 11 ∧ p.deep ≤ k ∧ n + p.all.length ≤ 40 ∧
  Q (ptD p) (upo S r (rdO C l (i + p.wds.length) (n + p.all.length)))
theorem sp_Reader_pattern_mono (k : Nat) : SpMono (sp_Reader_pattern C k) := fun ds S Q Q' E E' kk _ ⟨r, l, ws, i, n, j, p, rest, h1, h2, h3, h4, h5, h6, h7, h⟩ => ⟨r, l, ws, i, n, j, p, rest, h1, h2, h3, h4, h5, h6, h7, kk _ _ h⟩
def sp_Reader_ask_end : DSp := fun ds S Q _ => ∃ (r l : Addr) (ws : List Str) (n : Nat), ds = [.ref r] ∧ Rd C S r l ws ws.length n ∧ Q .non S
theorem sp_Reader_ask_end_mono : SpMono (sp_Reader_ask_end C) := fun ds S Q Q' E E' k _ ⟨r, l, ws, n, h1, h2, h⟩ => ⟨r, l, ws, n, h1, h2, k _ _ h⟩
end
def sp_read_pattern (_ : Addr) : DSp := fun ds S Q _ => ∃ p : Pt, ds = [.str (shownS p)] ∧ p.okP Nm ∧ p.deep ≤ 10 ∧ p.all.length ≤ 40 ∧ ∀ S', Q (ptD p) S'
theorem sp_read_pattern_mono (C : Addr) : SpMono (sp_read_pattern C) := fun ds S Q Q' E E' k _ ⟨d, h1, h2, h3, h4, h⟩ => ⟨d, h1, h2, h3, h4, fun S' => k _ _ (h S')⟩
def t_Reader_init (C_Reader : Addr) : DTS := (dSeq (dPutF C_Reader "words_read" (dVar 0) (dVar 1))
    (dSeq (dPutF C_Reader "at_word" (dVar 0) (dVar 2))
    (dPutF C_Reader "parts_read" (dVar 0) (dC (.int 0)))))
abbrev N_Reader_init : List Str := ["self", "words", "at"]
def t_Reader_next_word (C_Reader : Addr) : DTS := (dSeq (dIf (dTest (dOp (dEq false) (dFld C_Reader "at_word" (dVar 0)) (dCB cLen (dCons (dFld C_Reader "words_read" (dVar 0)) dNil))))
      dNever
      dNx)
    (dSeq (dPutF C_Reader "at_word" (dVar 0) (dOp dAddF (dFld C_Reader "at_word" (dVar 0)) (dC (.int 1))))
    (dRet (dOp dIxS (dFld C_Reader "words_read" (dVar 0)) (dOp rSub (dFld C_Reader "at_word" (dVar 0)) (dC (.int 1)))))))
abbrev N_Reader_next_word : List Str := ["self"]
def t_Reader_ask_last : DTS := (dIf (dNot (dTest (dVar 1)))
      dNever
      dNx)
abbrev N_Reader_ask_last : List Str := ["self", "good"]
def t_Reader_ask_end (C_Reader : Addr) : DTS := (dIf (dTest (dOp rLt (dFld C_Reader "at_word" (dVar 0)) (dCB cLen (dCons (dFld C_Reader "words_read" (dVar 0)) dNil))))
      dNever
      dNx)
abbrev N_Reader_ask_end : List Str := ["self"]
def t_Reader_name_next (C_Reader : Addr) : DTS := (dSeq (dAsg (dMeth C_Reader "next_word" (sp_Reader_next_word C_Reader) (dVar 0) dNil) (dGN 1))
    (dSeq (dDrop (dMeth C_Reader "ask_last" sp_Reader_ask_last (dVar 0) (dCons (dCall sp_is_name (dCons (dVar 1) dNil)) dNil)))
    (dRet (dVar 1))))
abbrev N_Reader_name_next : List Str := ["self", "word"]
def t_Reader_pattern (C_Reader : Addr) (spR : DSp) : DTS := (dSeq (dAsg (dMeth C_Reader "next_word" (sp_Reader_next_word C_Reader) (dVar 0) dNil) (dGN 2))
    (dSeq (dPutF C_Reader "parts_read" (dVar 0) (dOp dAddF (dFld C_Reader "parts_read" (dVar 0)) (dC (.int 1))))
    (dSeq (dDrop (dMeth C_Reader "ask_last" sp_Reader_ask_last (dVar 0) (dCons (dAndV (dOp (dIn false) (dVar 2) (dC (.tup [.str "stay", .str "on", .str "back", .str "at", .str "off", .str "then", .str "either", .str "many"]))) (dAndV (dOp rLe (dVar 1) (dC (.int 10))) (dOp rLe (dFld C_Reader "parts_read" (dVar 0)) (dC (.int 40))))) dNil)))
    (dSeq (dIf (dTest (dOp (dIn false) (dVar 2) (dC (.tup [.str "on", .str "back"]))))
      (dSeq (dAsg (dMeth C_Reader "next_word" (sp_Reader_next_word C_Reader) (dVar 0) dNil) (dGN 3))
    (dSeq (dDrop (dMeth C_Reader "ask_last" sp_Reader_ask_last (dVar 0) (dCons (dCall sp_is_word (dCons (dVar 3) dNil)) dNil)))
    (dRet (dTup (dCons (dC (.str "step")) (dCons (dVar 2) (dCons (dVar 3) dNil)))))))
      dNx)
    (dSeq (dIf (dTest (dOp (dIn false) (dVar 2) (dTup (dCons (dC (.str "at")) (dCons (dC (.str "off")) dNil)))))
      (dRet (dTup (dCons (dVar 2) (dCons (dMeth C_Reader "name_next" (sp_Reader_name_next C_Reader) (dVar 0) dNil) dNil))))
      dNx)
    (dSeq (dIf (dTest (dOp (dEq false) (dVar 2) (dC (.str "many"))))
      (dRet (dTup (dCons (dVar 2) (dCons (dMeth C_Reader "pattern" spR (dVar 0) (dCons (dOp dAddF (dVar 1) (dC (.int 1))) dNil)) dNil))))
      dNx)
    (dSeq (dIf (dTest (dOp (dEq false) (dVar 2) (dC (.str "stay"))))
      (dRet (dTup (dCons (dVar 2) dNil)))
      dNx)
    (dSeq (dAsg (dCall sp_number_of (dCons (dMeth C_Reader "next_word" (sp_Reader_next_word C_Reader) (dVar 0) dNil) dNil)) (dGN 4))
    (dSeq (dDrop (dMeth C_Reader "ask_last" sp_Reader_ask_last (dVar 0) (dCons (dAndV (dOp (dIsN true) (dVar 4) (dC .non)) (dOp rLe (dVar 4) (dC (.int 39)))) dNil)))
    (dRet (dTup (dCons (dVar 2) (dCons (dCB cTuple (dCons (dFz (dLc (dRng1 (dCons (dVar 4) dNil)) (dGN 5) dYes (dMeth C_Reader "pattern" spR (dVar 0) (dCons (dOp dAddF (dVar 1) (dC (.int 1))) dNil)) [5])) dNil)) dNil)))))))))))))
abbrev N_Reader_pattern : List Str := ["self", "deep", "head", "word", "many", "k"]
def t_read_pattern (C_Reader : Addr) : DTS := (dSeq (dAsg (dMake C_Reader (sp_Reader_init C_Reader) (dCons (dBM "str" mSplit (dVar 0) (dCons (dC (.str " ")) dNil)) (dCons (dC (.int 0)) dNil))) (dGN 1))
    (dSeq (dAsg (dMeth C_Reader "pattern" (sp_Reader_pattern C_Reader 20) (dVar 1) (dCons (dC (.int 1)) dNil)) (dGN 2))
    (dSeq (dDrop (dMeth C_Reader "ask_end" (sp_Reader_ask_end C_Reader) (dVar 1) dNil))
    (dRet (dVar 2)))))
abbrev N_read_pattern : List Str := ["text", "reader", "pattern"]
section
variable {C : Addr}
@[simp] theorem fr1 (a b c : D) : List.lookup (Str.ofString "words_read") [(Str.ofString "words_read", a), (Str.ofString "at_word", b), (Str.ofString "parts_read", c)] = some a := by simp [List.lookup]
@[simp] theorem fr2 (a b c : D) : List.lookup (Str.ofString "at_word") [(Str.ofString "words_read", a), (Str.ofString "at_word", b), (Str.ofString "parts_read", c)] = some b := by
  rw [List.lookup, show (Str.ofString "at_word" == Str.ofString "words_read") = false from by decide +kernel]; simp [List.lookup]
@[simp] theorem fr3 (a b c : D) : List.lookup (Str.ofString "parts_read") [(Str.ofString "words_read", a), (Str.ofString "at_word", b), (Str.ofString "parts_read", c)] = some c := by
  rw [List.lookup, show (Str.ofString "parts_read" == Str.ofString "words_read") = false from by decide +kernel]
  simp only
  rw [List.lookup, show (Str.ofString "parts_read" == Str.ofString "at_word") = false from by decide +kernel]; simp [List.lookup]
theorem frn {m : Str} {x y z : D} (h1 : m ≠ Str.ofString "words_read") (h2 : m ≠ Str.ofString "at_word") (h3 : m ≠ Str.ofString "parts_read") : ∀ (a : Str) (b : D), (a = Str.ofString "words_read" ∧ b = x) ∨ (a = Str.ofString "at_word" ∧ b = y) ∨ (a = Str.ofString "parts_read" ∧ b = z) → ¬ m = a := by
  rintro a b (⟨rfl, _⟩ | ⟨rfl, _⟩ | ⟨rfl, _⟩)
  · exact h1
  · exact h2
  · exact h3
theorem r_Reader_init (ds S Q E) (h : sp_Reader_init C ds S Q E) : t_Reader_init C (dEnd Q E) (dstart N_Reader_init ds) S := by
  obtain ⟨r, l, ws, rfl, hr, h⟩ := h
  simp [t_Reader_init, dstart, hr, putFD]
  exact .same h
theorem put_at (a b c d : D) : putFD (Str.ofString "at_word") d [(Str.ofString "words_read", a), (Str.ofString "at_word", b), (Str.ofString "parts_read", c)] = [(Str.ofString "words_read", a), (Str.ofString "at_word", d), (Str.ofString "parts_read", c)] := by
  simp [putFD]
theorem r_Reader_next_word (ds S Q E) (h : sp_Reader_next_word C ds S Q E) : t_Reader_next_word C (dEnd Q E) (dstart N_Reader_next_word ds) S := by
  obtain ⟨r, l, ws, i, n, w, rfl, hr, hw, h⟩ := h
  obtain ⟨h1, h2, h3⟩ := id hr
  have hi := (List.getElem?_eq_some_iff.mp hw).1
  have ne := hr.ne
  have e2 : ((i : Int) == (ws.length : Int)) = false := by simp; omega
  have hl : ∀ o, upo S r o l = some (.lst (ws.map D.str)) := fun o => (upo_ne ne).trans h2
  unfold t_Reader_next_word
  refine dSeq_gen fun R hR => ?_
  simp [dstart, h1, h2]
  rw [if_neg (by omega)]
  subst hR
  simp [h1, put_at, hl]
  rw [atI_nat (xs := ws.map D.str) (j := i) (v := .str w) (by rw [List.getElem?_map, hw]; rfl), opt_some]
  exact .same h
theorem r_Reader_ask_last (ds S Q E) (h : sp_Reader_ask_last ds S Q E) : t_Reader_ask_last (dEnd Q E) (dstart N_Reader_ask_last ds) S := by
  obtain ⟨d, rfl, h⟩ := h
  simp [t_Reader_ask_last, dstart]
  exact .same h
theorem r_Reader_name_next (ds S Q E) (h : sp_Reader_name_next C ds S Q E) : t_Reader_name_next C (dEnd Q E) (dstart N_Reader_name_next ds) S := by
  obtain ⟨r, l, ws, i, n, w, rfl, hr, hw, nm, h⟩ := h
  obtain ⟨h1, h2, h3⟩ := id hr
  simp [t_Reader_name_next, dstart, h1]
  refine ⟨r, l, ws, i, n, w, rfl, hr, hw, ?_⟩
  simp
  refine ⟨frn (by decide +kernel) (by decide +kernel) (by decide +kernel), w, rfl, .inr nm, ?_⟩
  have ne : w ≠ "*" := fun e => by
    have := nm.2.2 42 (by rw [e]; decide +kernel)
    omega
  simp only [ne, decide_false, Bool.not_false]
  exact ⟨_, rfl, .same h⟩
theorem r_Reader_ask_end (ds S Q E) (h : sp_Reader_ask_end C ds S Q E) : t_Reader_ask_end C (dEnd Q E) (dstart N_Reader_ask_end ds) S := by
  obtain ⟨r, l, ws, n, rfl, hr, h⟩ := h
  obtain ⟨h1, h2, h3⟩ := id hr
  simp [t_Reader_ask_end, dstart, h1, h2]
  exact .same h
theorem r_read_pattern (ds S Q E) (h : sp_read_pattern C ds S Q E) : t_read_pattern C (dEnd Q E) (dstart N_read_pattern ds) S := by
  obtain ⟨p, rfl, ok, hd, ha, h⟩ := h
  have hw := wds_wo p ok ha
  have h1 := wo_join hw
  have h2 := p.wds_len
  unfold t_read_pattern
  refine dSeq_gen fun R hR => ?_
  simp [dstart]
  refine ⟨by decide +kernel, ?_, ?_⟩
  · show (Txt.join (Str.ofString " ") p.wds).length ≤ _
    omega
  have es : Txt.split (shownS p) (Str.ofString " ") = p.wds := split_join (fun e => by rw [e] at h2; simp at h2) hw
  rw [es]
  intro l hl r hr
  obtain ⟨nrl, hr⟩ := upo_none hr
  refine ⟨r, l, p.wds, rfl, upo_same, rfl, ?_⟩
  simp only [upo_upo]
  have rd : Rd C (upo (upo S l (.lst (p.wds.map D.str))) r (rdO C l 0 0)) r l p.wds 0 0 := ⟨upo_same, by rw [upo_ne nrl.symm, upo_same], by omega⟩
  subst hR
  refine dSeq_gen fun R hR => ?_
  simp
  refine ⟨r, l, p.wds, 0, 0, 1, p, [], rfl, rd, by simp, ok, by omega, by omega, by omega, ?_⟩
  subst hR
  simp
  refine ⟨r, l, p.wds, p.all.length, rfl, ?_, ?_⟩
  · have := rd.go (j := p.wds.length) (m := p.all.length)
    simpa using this
  · simp
    exact .same (h _)
end
end Sh
set_option maxRecDepth 100000
set_option maxHeartbeats 4000000
namespace Sh
open PySem PySem.Spec L2 Dt Sh

theorem rgK_get {n i : Nat} {d : D} (h : (rngD 0 n)[i]? = some d) : i < n ∧ d = .int (i : Nat) := by
  obtain ⟨h1, h2⟩ := List.getElem?_eq_some_iff.mp h
  have h3 : i < n := by simpa [rngD] using h1
  refine ⟨h3, ?_⟩
  simp [rngD] at h2
  exact h2.symm
theorem rgK_len (lo : Int) (n : Nat) : (rngD lo n).length = n := by simp [rngD]
theorem drop_get {ws as rest : List Str} {i j : Nat} (h : ws.drop i = as ++ rest) (hj : j < as.length) : ws[i + j]? = as[j]? := by
  rw [← List.getElem?_drop, h, List.getElem?_append_left hj]
theorem drop_more {ws as bs rest : List Str} {i : Nat} (h : ws.drop i = as ++ bs ++ rest) : ws.drop (i + as.length) = bs ++ rest := by
  rw [← List.drop_drop, h, List.append_assoc, List.drop_left]
section
variable {C : Addr}
theorem put_pr (a b c d : D) : putFD (Str.ofString "parts_read") d [(Str.ofString "words_read", a), (Str.ofString "at_word", b), (Str.ofString "parts_read", c)] = [(Str.ofString "words_read", a), (Str.ofString "at_word", b), (Str.ofString "parts_read", d)] := by
  simp [putFD]
def hdsD : List D := [.str "stay", .str "on", .str "back", .str "at", .str "off", .str "then", .str "either", .str "many"]
theorem wds_hd (p : Pt) : ∃ hd tl, p.wds = hd :: tl ∧ inF (.str hd) [.str "stay", .str "on", .str "back", .str "at", .str "off", .str "then", .str "either", .str "many"] = true := by
  cases p with
  | stay => exact ⟨_, _, rfl, by decide +kernel⟩
  | step b w => cases b <;> exact ⟨_, _, rfl, by decide +kernel⟩
  | mark b w => cases b <;> exact ⟨_, _, rfl, by decide +kernel⟩
  | seq b w => cases b <;> exact ⟨_, _, rfl, by decide +kernel⟩
  | many q => exact ⟨_, _, rfl, by decide +kernel⟩
theorem deep_pos (p : Pt) : 1 ≤ p.deep := by cases p <;> simp [Pt.deep]
theorem r_Reader_pattern (k : Nat) (ds S Q E) (h : sp_Reader_pattern C k ds S Q E) : t_Reader_pattern C (prevSp (sp_Reader_pattern C) k) (dEnd Q E) (dstart N_Reader_pattern ds) S := by
  obtain ⟨r, l, ws, i, n, j, p, rest, rfl, rd, hw, ok, hj, hk, hn, h⟩ := h
  obtain ⟨hd, tl, ep, hin⟩ := wds_hd p
  have dp := deep_pos p
  have ap := p.all_pos
  have w0 : ws[i]? = some hd := by
    have := drop_get (j := 0) hw (by rw [ep]; simp)
    rw [Nat.add_zero, ep] at this
    exact this
  obtain ⟨h1, h2, h3⟩ := id rd
  unfold t_Reader_pattern
  refine dSeq_gen fun R hR => ?_
  simp [dstart, h1]
  refine ⟨r, l, ws, i, n, hd, rfl, rd, w0, ?_⟩
  subst hR
  refine dSeq_gen fun R hR => ?_
  simp [put_pr]
  have er : Ob.ins C [(Str.ofString "words_read", .ref l), (Str.ofString "at_word", .int ((i : Int) + 1)), (Str.ofString "parts_read", .int ((n : Int) + 1))] = rdO C l (i + 1) (n + 1) := rfl
  rw [er]
  subst hR
  refine dSeq_gen fun R hR => ?_
  simp [hin]
  rw [if_pos (by omega), show decide ((n : Int) + 1 ≤ 40) = true from by simp; omega]
  refine ⟨_, rfl, ?_⟩
  have rd1 : Rd C (upo S r (rdO C l (i + 1) (n + 1))) r l ws (i + 1) (n + 1) := rd.go
  subst hR
  cases p with
  | step b w =>
    have w1 : ws[i + 1]? = some w := drop_get (j := 1) hw (by simp [Pt.wds])
    have ow : w = "*" ∨ Nm w := ok _ (Pt.self_all _)
    refine dSeq_gen fun R hR => ?_
    have e : hd = (if b then "on" else "back" : Str) := by simp [Pt.wds] at ep; exact ep.1.symm
    have e2 : inF (.str hd) [.str "on", .str "back"] = true := by rw [e]; cases b <;> decide +kernel
    simp [e2]
    refine ⟨r, l, ws, i + 1, n + 1, w, rfl, rd1, w1, ?_⟩
    simp
    refine ⟨frn (by decide +kernel) (by decide +kernel) (by decide +kernel), w, rfl, ow, _, rfl, ?_⟩
    subst e
    exact .same h
  | mark b w =>
    have w1 : ws[i + 1]? = some w := drop_get (j := 1) hw (by simp [Pt.wds])
    have ow : Nm w := ok _ (Pt.self_all _)
    have e : hd = (if b then "at" else "off" : Str) := by simp [Pt.wds] at ep; exact ep.1.symm
    have e2 : inF (.str hd) [.str "on", .str "back"] = false := by rw [e]; cases b <;> decide +kernel
    have e3 : inF (.str hd) [.str "at", .str "off"] = true := by rw [e]; cases b <;> decide +kernel
    refine dSeq_gen fun R hR => ?_
    simp [e2]
    subst hR
    refine dSeq_gen fun R hR => ?_
    simp [e3]
    refine ⟨r, l, ws, i + 1, n + 1, w, rfl, rd1, w1, ow, ?_⟩
    subst e
    rw [upo_upo]
    exact .same h
  | stay =>
    have e : hd = "stay" := by simp [Pt.wds] at ep; exact ep.1.symm
    subst e
    simp [inF]
    exact .same h
  | many q =>
    have e : hd = "many" := by simp [Pt.wds] at ep; exact ep.1.symm
    subst e
    refine dSeq_gen fun R hR => ?_
    simp [inF]
    subst hR
    refine dSeq_gen fun R hR => ?_
    simp [inF]
    subst hR
    refine dSeq_gen fun R hR => ?_
    simp [inF]
    obtain ⟨k, rfl⟩ : ∃ m, k = m + 1 := ⟨k - 1, by omega⟩
    rw [Pt.deep_many] at hj hk
    have ha : (Pt.many q).all.length = q.all.length + 1 := rfl
    have hl : (Pt.many q).wds.length = q.wds.length + 1 := rfl
    simp
    refine ⟨frn (by decide +kernel) (by decide +kernel) (by decide +kernel), r, l, ws, i + 1, n + 1, j + 1, q, rest, rfl, rd1, ?_, okP_kids ok (by simp [Pt.kids]), by omega, by omega, by omega, ?_⟩
    · exact drop_more (as := ["many"]) hw
    · rw [ha, hl] at h
      simp only [upo_upo]
      rw [show i + 1 + q.wds.length = i + (q.wds.length + 1) by omega, show n + 1 + q.all.length = n + (q.all.length + 1) by omega]
      exact .same h
  | seq b ps =>
    have e : hd = (if b then "then" else "either" : Str) := by simp [Pt.wds] at ep; exact ep.1.symm
    have e2 : inF (.str hd) [.str "on", .str "back"] = false := by rw [e]; cases b <;> decide +kernel
    have e3 : inF (.str hd) [.str "at", .str "off"] = false := by rw [e]; cases b <;> decide +kernel
    have e4 : (hd == "many") = false := by rw [e]; cases b <;> decide +kernel
    have e5 : (hd == "stay") = false := by rw [e]; cases b <;> decide +kernel
    refine dSeq_gen fun R hR => ?_
    simp [e2]
    subst hR
    refine dSeq_gen fun R hR => ?_
    simp [e3]
    subst hR
    refine dSeq_gen fun R hR => ?_
    simp [e4]
    subst hR
    refine dSeq_gen fun R hR => ?_
    simp [e5]
    subst hR
    refine dSeq_gen fun R hR => ?_
    simp
    obtain ⟨k, rfl⟩ : ∃ m, k = m + 1 := ⟨k - 1, by omega⟩
    have w1 : ws[i + 1]? = some (numS ps.length) := drop_get (j := 1) hw (by simp [Pt.wds])
    have hln := Pt.seq_len (b := b) (ps := ps)
    refine ⟨r, l, ws, i + 1, n + 1, _, rfl, rd1, w1, ?_⟩
    refine ⟨ps.length, rfl, by omega, ?_⟩
    simp
    subst hR
    refine dSeq_gen fun R hR => ?_
    simp
    refine ⟨_, by rw [show decide ((ps.length : Int) ≤ 39) = true from by simp; omega], ?_⟩
    subst hR
    simp
    refine ⟨by omega, ?_⟩
    rw [Pt.deep_seq] at hj hk
    rw [Pt.all_seq, List.length_cons] at hn
    have hwl : (Pt.seq b ps).wds.length = (Pt.wdss ps).length + 2 := rfl
    have hal : (Pt.seq b ps).all.length = (Pt.alls ps).length + 1 := rfl
    rw [hwl, hal, seq_hd, ← e] at h
    refine lcF_inv (fun m acc S1 => acc = ptDs (ps.take m) ∧ S1 = upo S r (rdO C l (i + 2 + (Pt.wdss (ps.take m)).length) (n + 1 + (Pt.alls (ps.take m)).length))) ⟨rfl, rfl⟩ (fun _ _ _ _ _ _ _ => trivial) ?_ (by simp [rngD]; omega) ?_
    · rintro m d acc S1 q N hd' ⟨rfl, rfl⟩ hq hacc hN
      obtain ⟨hm, rfl⟩ := rgK_get hd'
      clear hd'
      have nqr : r ≠ q := fun z => by subst z; simp at hq
      have nql : l ≠ q := fun z => by subst z; rw [upo_ne rd.ne, h2] at hq; cases hq
      have al := alls_take_le' ps m hm
      have hmem := List.getElem_mem hm
      have dm := deeps_mem hmem
      have hwd : (ps.take (m + 1)) = ps.take m ++ [ps[m]] := by rw [List.take_succ, List.getElem?_eq_getElem hm]; rfl
      have ew : Pt.wdss (ps.take (m + 1)) = Pt.wdss (ps.take m) ++ (ps[m]).wds := Pt.wdss_succ hm
      have ea : Pt.alls (ps.take (m + 1)) = Pt.alls (ps.take m) ++ (ps[m]).all := by rw [hwd, Pt.alls_flat, Pt.alls_flat, List.flatMap_append, List.flatMap_singleton]
      have hws : ws.drop (i + 2 + (Pt.wdss (ps.take m)).length) = (ps[m]).wds ++ (Pt.wdss (ps.drop (m + 1)) ++ rest) := by
        have e6 : ws.drop i = ([hd, numS ps.length] ++ Pt.wdss (ps.take m)) ++ (ps[m]).wds ++ (Pt.wdss (ps.drop (m + 1)) ++ rest) := by
          rw [hw, e]
          have : Pt.wdss ps = Pt.wdss (ps.take m) ++ ((ps[m]).wds ++ Pt.wdss (ps.drop (m + 1))) := by
            rw [← Pt.wdss_drop hm, ← Pt.wdss_app, List.take_append_drop]
          show _ :: _ :: Pt.wdss ps ++ rest = _
          rw [this]
          simp
        have := drop_more e6
        rw [List.length_append] at this
        rw [← this]
        congr 1
        simp
        omega
      have rd2 : Rd C (upo (upo S r (rdO C l (i + 2 + (Pt.wdss (ps.take m)).length) (n + 1 + (Pt.alls (ps.take m)).length))) q (.lst (ptDs (ps.take m)))) r l ws (i + 2 + (Pt.wdss (ps.take m)).length) (n + 1 + (Pt.alls (ps.take m)).length) :=
        ⟨by rw [upo_ne nqr, upo_same], by rw [upo_ne nql, upo_ne rd.ne, h2], h3⟩
      simp [upo_ne nqr]
      refine ⟨r, l, ws, _, _, j + 1, ps[m], _, rfl, rd2, hws, okP_kids ok hmem, by omega, by omega, by omega, ?_⟩
      rw [upo_comm nqr.symm, upo_upo]
      simp
      refine ⟨hacc, hN _ _ ?_ ⟨?_, ?_⟩ (by simp)⟩
      · rw [upo_ne nqr.symm] at hq ⊢
        exact hq
      · rw [hwd, ptDs_app]; rfl
      · rw [ew, ea, List.length_append, List.length_append, Nat.add_assoc (i + 2), Nat.add_assoc (n + 1)]
    · rintro acc S1 ⟨rfl, rfl⟩
      rw [rgK_len, List.take_length]
      simp
      rw [show i + 2 + (Pt.wdss ps).length = i + ((Pt.wdss ps).length + 2) by omega, show n + 1 + (Pt.alls ps).length = n + ((Pt.alls ps).length + 1) by omega]
      exact .same h
end
end Sh
set_option maxRecDepth 100000
set_option maxHeartbeats 4000000
namespace Sh
open PySem PySem.Spec L2 Dt Sh
def sp_l_great : DSp := fun ds S Q _ => ∃ (p : Addr) (e0 : D) (ws ms : List Str) (n : Nat) (o : Ob), ds = [.ref p, nmsD e0 ws ms] ∧ Nms ws ms ∧ S p = some o ∧ FeedOb n o ∧ n < 2 ^ 80 ∧
  ∀ (q : Pt) (o' : Ob), q.okP Nm → q.deep ≤ 10 → q.all.length ≤ 40 → FeedOb (n + 30) o' → Q (ptD q) (upo S p o')
theorem sp_l_great_mono : SpMono sp_l_great := fun ds S Q Q' E E' k _ ⟨p, e0, ws, ms, n, o, h1, h2, h3, h4, h5, h⟩ => ⟨p, e0, ws, ms, n, o, h1, h2, h3, h4, h5, fun q o' a b c d => k _ _ (h q o' a b c d)⟩
def t_l_great : DTS := (dSeq (dAsg (dCall sp_l_leaf (dCons (dVar 0) (dCons (dVar 1) dNil))) (dGN 2))
    (dSeq (dAsg (dVar 2) (dGN 3))
    (dSeq (dFor (dRng1 (dCons (dC (.int 9)) dNil)) (dGN 4)
      (dSeq (dAsg (dLstF (dCons (dTup (dCons (dC (.str "many")) (dCons (dVar 3) dNil))) (dCons (dTup (dCons (dC (.str "then")) (dCons (dTup (dCons (dVar 3) dNil)) dNil))) (dCons (dTup (dCons (dC (.str "either")) (dCons (dTup (dCons (dVar 2) (dCons (dVar 3) dNil))) dNil))) dNil)))) (dGN 5))
    (dAsg (dOp dIxS (dVar 5) (dCall sp_l_next (dCons (dVar 0) (dCons (dC (.int 3)) dNil)))) (dGN 3))))
    (dSeq (dAsg (dOp dAddF (dC (.int 9)) (dCall sp_l_next (dCons (dVar 0) (dCons (dC (.int 31)) dNil)))) (dGN 6))
    (dSeq (dAsg (dTup (dCons (dOp dIxS (dLstF (dCons (dC (.str "then")) (dCons (dC (.str "either")) dNil))) (dCall sp_l_next (dCons (dVar 0) (dCons (dC (.int 2)) dNil)))) (dCons (dOp dMulT (dTup (dCons (dVar 2) dNil)) (dVar 6)) dNil))) (dGN 7))
    (dRet (dOp dIxS (dLstF (dCons (dVar 3) (dCons (dVar 7) dNil))) (dCall sp_l_next (dCons (dVar 0) (dCons (dC (.int 2)) dNil))))))))))
abbrev N_l_great : List Str := ["_law_feed_here", "_law_names_here", "_law_leaf_here", "_law_pattern_here", "_law_k", "_law_some", "_law_many", "_law_other"]
theorem alls_rep (n : Nat) (q : Pt) (h : q.all.length = 1) : (Pt.alls (List.replicate n q)).length = n := by
  induction n with
  | zero => rfl
  | succ n ih => rw [List.replicate_succ, Pt.alls_cons, List.length_append, ih, h]; omega
theorem deeps_rep (n : Nat) (q : Pt) (h : q.deep = 1) : Pt.deeps (List.replicate n q) ≤ 1 := deeps_le fun p hp => by rw [List.eq_of_mem_replicate hp]; omega
theorem r_l_great (ds S Q E) (h : sp_l_great ds S Q E) : t_l_great (dEnd Q E) (dstart N_l_great ds) S := by
  obtain ⟨p, e0, ws, ms, n, o, rfl, nm, hp, fo, hn, h⟩ := h
  unfold t_l_great
  refine dSeq_gen fun R hR => ?_
  simp [dstart]
  refine ⟨p, e0, ws, ms, n, o, rfl, nm, hp, fo, by omega, fun d o1 hd1 fo1 => ?_⟩
  obtain ⟨q0, rfl, ok0, dp0, al0⟩ := lf_pt nm hd1
  subst hR
  refine dSeq_gen fun R hR => ?_
  simp
  subst hR
  refine dSeqFor_gen fun B R hB hR => ?_
  simp
  refine loop_inv (fun i τ S' => ∃ (q : Pt) (x4 x5 : Option D) (o' : Ob), τ = [some (.ref p), some (nmsD e0 ws ms), some (ptD q0), some (ptD q), x4, x5, none, none] ∧ S' = upo S p o' ∧ FeedOb (n + 3 + i) o' ∧ q.okP Nm ∧ q.deep ≤ 1 + i ∧ q.all.length ≤ 1 + 2 * i)
    ⟨q0, _, _, o1, rfl, rfl, fo1.more (by omega), ok0, by omega, by omega⟩ (fun _ _ _ _ _ => trivial) ?_ ?_
  · rintro i d τ S1 N hd ⟨q, x4, x5, o', rfl, rfl, fo', ok, dp, al⟩ hN
    subst hB
    refine dSeq_gen fun R hR => ?_
    simp
    subst hR
    simp
    refine ⟨p, 3, n + 3 + i, o', rfl, by decide, by decide, upo_same, fo', by have := (List.getElem?_eq_some_iff.mp hd).1; simp [rngD] at this; omega, fun v o2 v0 v1 fo2 => ?_⟩
    simp
    have nx : ∀ (y : D) (q' : Pt) x5, y = ptD q' → q'.okP Nm → q'.deep ≤ 1 + (i + 1) → q'.all.length ≤ 1 + 2 * (i + 1) → N [some (.ref p), some (nmsD e0 ws ms), some (ptD q0), some y, some d, x5, none, none] (upo S p o2) := fun y q' x5 e a b c => by
      subst e
      exact hN _ _ ⟨q', _, _, o2, rfl, rfl, by simpa [Nat.add_assoc] using fo2, a, b, c⟩
    have v3 : v = 0 ∨ v = 1 ∨ v = 2 := by omega
    rcases v3 with rfl | rfl | rfl
    · rw [atI_0, opt_some]
      exact nx _ (.many q) _ rfl (okP_many ok) (by rw [Pt.deep_many]; omega) (by rw [Pt.all_many, List.length_cons]; omega)
    · rw [atI_1, opt_some]
      exact nx _ (.seq true [q]) _ rfl (okP_seq fun p hp => by simp at hp; exact hp ▸ ok) (by simp only [Pt.deep_seq, Pt.deeps_cons, Pt.deeps_nil]; omega) (by simp only [Pt.all_seq, Pt.alls_cons, Pt.alls_nil, List.length_cons, List.length_append, List.length_nil]; omega)
    · rw [atI_2, opt_some]
      exact nx _ (.seq false [q0, q]) _ rfl (okP_seq fun p hp => by simp at hp; rcases hp with rfl | rfl <;> assumption) (by simp only [Pt.deep_seq, Pt.deeps_cons, Pt.deeps_nil]; omega) (by simp only [Pt.all_seq, Pt.alls_cons, Pt.alls_nil, List.length_cons, List.length_append, List.length_nil]; omega)
  · rintro τ S1 ⟨q, x4, x5, o', rfl, rfl, fo', ok, dp, al⟩
    have e9 : (rngD 0 9).length = 9 := rfl
    rw [e9] at fo' dp al
    subst hR
    dsimp only
    refine dSeq_gen fun R hR => ?_
    simp
    refine ⟨p, 31, n + 3 + 9, o', rfl, by decide, by decide, upo_same, fo', by omega, fun v o2 v0 v1 fo2 => ?_⟩
    obtain ⟨m, rfl⟩ := Int.eq_ofNat_of_zero_le v0
    have em : (9 : Int) + (m : Int) = ((9 + m : Nat) : Int) := by omega
    simp
    subst hR
    refine dSeq_gen fun R hR => ?_
    simp
    refine ⟨p, 2, n + 3 + 9 + 1, o2, rfl, by decide, by decide, upo_same, fo2, by omega, fun u o3 u0 u1 fo3 => ?_⟩
    simp only [upo_upo]
    have et : (9 + (m : Int)).toNat = 9 + m := by omega
    have u2 : u = 0 ∨ u = 1 := by omega
    have all : ∀ b : Bool, R (dEnd Q E) [some (D.ref p), some (nmsD e0 ws ms), some (ptD q0), some (ptD q), x4, x5, some (D.int (9 + (m : Int))), some (D.tup [.str (if b then "then" else "either"), D.tup (List.replicate (9 + (m : Int)).toNat (ptD q0))])] (upo S p o3) := fun b => by
      have eq2 : D.tup [.str (if b then "then" else "either"), D.tup (List.replicate (9 + (m : Int)).toNat (ptD q0))] = ptD (.seq b (List.replicate (9 + m) q0)) := by
        rw [et, seq_hd, ptDs_map, List.map_replicate]
      rw [eq2]
      have ok2 : (Pt.seq b (List.replicate (9 + m) q0)).okP Nm := okP_seq fun p hp => by rw [List.eq_of_mem_replicate hp]; exact ok0
      have dp2 : (Pt.seq b (List.replicate (9 + m) q0)).deep ≤ 10 := by have := deeps_rep (9 + m) q0 dp0; rw [Pt.deep_seq]; omega
      have al2 : (Pt.seq b (List.replicate (9 + m) q0)).all.length ≤ 40 := by have := alls_rep (9 + m) q0 al0; rw [Pt.all_seq, List.length_cons]; omega
      subst hR
      simp
      refine ⟨p, 2, n + 3 + 9 + 1 + 1, o3, rfl, by decide, by decide, upo_same, fo3, by omega, fun y o4 y0 y1 fo4 => ?_⟩
      have y2 : y = 0 ∨ y = 1 := by omega
      simp only [upo_upo]
      rcases y2 with rfl | rfl
      · rw [atI_0, opt_some]
        exact .same (h q o4 ok (by omega) (by omega) (fo4.more (by omega)))
      · rw [atI_1, opt_some]
        exact .same (h _ o4 ok2 dp2 al2 (fo4.more (by omega)))
    rcases u2 with rfl | rfl
    · simp only [atI_0, opt_some]
      exact ⟨by omega, by omega, all true⟩
    · simp only [atI_1, opt_some]
      exact ⟨by omega, by omega, all false⟩
end Sh
set_option maxRecDepth 100000
set_option maxHeartbeats 4000000
namespace K10
open PySem PySem.Spec L2 Dt Sh
/-! the text by places -/
def topS (i : Nat) : Stmt := PySem.Challenge.pw_pathask_k10_patterns_written_and_read.main.body.getD i (.Pass ⟨0, 0, 0, 0⟩)
abbrev s_is_name : Stmt := topS 7
theorem sc_is_name : FnScope ["thing", "sign"] ["thing"] (defScope s_is_name) := ⟨rfl, rfl, rfl, by decide +kernel, rfl, by decide +kernel, by decide +kernel⟩
abbrev s_parts_of : Stmt := topS 15
theorem sc_parts_of : FnScope ["pattern"] ["pattern"] (defScope s_parts_of) := ⟨rfl, rfl, rfl, by decide +kernel, rfl, by decide +kernel, by decide +kernel⟩
abbrev s_number_of : Stmt := topS 19
theorem sc_number_of : FnScope ["word", "sign"] ["word"] (defScope s_number_of) := ⟨rfl, rfl, rfl, by decide +kernel, rfl, by decide +kernel, by decide +kernel⟩
abbrev s_Reader_init : Stmt := inClass (topS 22) 0
theorem sc_Reader_init : FnScope ["self", "words", "at"] ["self", "words", "at"] (defScope s_Reader_init) := ⟨rfl, rfl, rfl, by decide +kernel, rfl, by decide +kernel, by decide +kernel⟩
abbrev s_Reader_next_word : Stmt := inClass (topS 22) 1
theorem sc_Reader_next_word : FnScope ["self"] ["self"] (defScope s_Reader_next_word) := ⟨rfl, rfl, rfl, by decide +kernel, rfl, by decide +kernel, by decide +kernel⟩
abbrev s_Reader_ask_last : Stmt := inClass (topS 22) 2
theorem sc_Reader_ask_last : FnScope ["self", "good"] ["self", "good"] (defScope s_Reader_ask_last) := ⟨rfl, rfl, rfl, by decide +kernel, rfl, by decide +kernel, by decide +kernel⟩
abbrev s_Reader_ask_end : Stmt := inClass (topS 22) 6
theorem sc_Reader_ask_end : FnScope ["self"] ["self"] (defScope s_Reader_ask_end) := ⟨rfl, rfl, rfl, by decide +kernel, rfl, by decide +kernel, by decide +kernel⟩
abbrev s_l_cell_at : Stmt := topS 25
theorem sc_l_cell_at : FnScope ["_law_script", "_law_k", "_law_seed"] ["_law_script", "_law_k"] (defScope s_l_cell_at) := ⟨rfl, rfl, rfl, by decide +kernel, rfl, by decide +kernel, by decide +kernel⟩
abbrev s_l_feed : Stmt := topS 26
theorem sc_l_feed : FnScope ["_law_cell"] ["_law_cell"] (defScope s_l_feed) := ⟨rfl, rfl, rfl, by decide +kernel, rfl, by decide +kernel, by decide +kernel⟩
abbrev s_l_next : Stmt := topS 27
theorem sc_l_next : FnScope ["_law_feed_here", "_law_many", "_law_found", "_law_one", "_law_two"] ["_law_feed_here", "_law_many"] (defScope s_l_next) := ⟨rfl, rfl, rfl, by decide +kernel, rfl, by decide +kernel, by decide +kernel⟩
abbrev s_l_words : Stmt := topS 31
theorem sc_l_words : FnScope ["_law_pattern_here", "_law_words_here", "_law_left", "_law_part"] ["_law_pattern_here"] (defScope s_l_words) := ⟨rfl, rfl, rfl, by decide +kernel, rfl, by decide +kernel, by decide +kernel⟩
abbrev s_is_word : Stmt := topS 14
theorem sc_is_word : FnScope ["thing"] ["thing"] (defScope s_is_word) := ⟨rfl, rfl, rfl, by decide +kernel, rfl, by decide +kernel, by decide +kernel⟩
abbrev s_Reader_name_next : Stmt := inClass (topS 22) 3
theorem sc_Reader_name_next : FnScope ["self", "word"] ["self"] (defScope s_Reader_name_next) := ⟨rfl, rfl, rfl, by decide +kernel, rfl, by decide +kernel, by decide +kernel⟩
abbrev s_l_names : Stmt := topS 28
theorem sc_l_names : FnScope ["_law_feed_here", "_law_many", "_law_letters", "_law_word", "_law_way", "_law_turn", "_law_names_here", "_law_place", "_law_start", "_law_k", "_law_sign"] ["_law_feed_here", "_law_many"] (defScope s_l_names) := ⟨rfl, rfl, rfl, by decide +kernel, rfl, by decide +kernel, by decide +kernel⟩
abbrev s_l_leaf : Stmt := topS 29
theorem sc_l_leaf : FnScope ["_law_feed_here", "_law_names_here", "_law_way", "_law_word"] ["_law_feed_here", "_law_names_here"] (defScope s_l_leaf) := ⟨rfl, rfl, rfl, by decide +kernel, rfl, by decide +kernel, by decide +kernel⟩
abbrev s_l_great : Stmt := topS 32
theorem sc_l_great : FnScope ["_law_feed_here", "_law_names_here", "_law_leaf_here", "_law_pattern_here", "_law_k", "_law_some", "_law_many", "_law_other"] ["_law_feed_here", "_law_names_here"] (defScope s_l_great) := ⟨rfl, rfl, rfl, by decide +kernel, rfl, by decide +kernel, by decide +kernel⟩
abbrev s_l_pattern : Stmt := topS 30
theorem sc_l_pattern : FnScope ["_law_feed_here", "_law_names_here", "_law_deep", "_law_way", "_law_many", "_law_parts", "_law_k"] ["_law_feed_here", "_law_names_here", "_law_deep"] (defScope s_l_pattern) := ⟨rfl, rfl, rfl, by decide +kernel, rfl, by decide +kernel, by decide +kernel⟩
abbrev s_words_of : Stmt := topS 20
theorem sc_words_of : FnScope ["pattern", "words", "part"] ["pattern"] (defScope s_words_of) := ⟨rfl, rfl, rfl, by decide +kernel, rfl, by decide +kernel, by decide +kernel⟩
abbrev s_shown : Stmt := topS 21
theorem sc_shown : FnScope ["pattern"] ["pattern"] (defScope s_shown) := ⟨rfl, rfl, rfl, by decide +kernel, rfl, by decide +kernel, by decide +kernel⟩
abbrev s_Reader_pattern : Stmt := inClass (topS 22) 4
theorem sc_Reader_pattern : FnScope ["self", "deep", "head", "word", "many", "k"] ["self", "deep"] (defScope s_Reader_pattern) := ⟨rfl, rfl, rfl, by decide +kernel, rfl, by decide +kernel, by decide +kernel⟩
abbrev s_read_pattern : Stmt := topS 23
theorem sc_read_pattern : FnScope ["text", "reader", "pattern"] ["text"] (defScope s_read_pattern) := ⟨rfl, rfl, rfl, by decide +kernel, rfl, by decide +kernel, by decide +kernel⟩
abbrev s_law : Stmt := topS 33
theorem sc_law : FnScope ["_law_script", "_law_feed_here", "_law_names_here", "_law_k", "_law_pattern_here", "_law_text", "_law_found"] ["_law_script"] (defScope s_law) := ⟨rfl, rfl, rfl, by decide +kernel, rfl, by decide +kernel, by decide +kernel⟩
structure Txt (K : PySem.W.Frag) (mg : Str → Option Value) where
  C_Reader : Addr
  c_Reader : Cls K C_Reader
  g_Reader : mg "Reader" = some (.ref C_Reader)
  n_Reader_at_word : NoAttr K C_Reader "at_word"
  n_Reader_parts_read : NoAttr K C_Reader "parts_read"
  n_Reader_words_read : NoAttr K C_Reader "words_read"
  a_is_name : Addr
  f_is_name : FuncData
  F_is_name : Fun K "is_name" "is_name" s_is_name a_is_name f_is_name
  m_is_name : mg "is_name" = some (.ref a_is_name)
  d_is_name : Binds K f_is_name ["thing"] []
  a_parts_of : Addr
  f_parts_of : FuncData
  F_parts_of : Fun K "parts_of" "parts_of" s_parts_of a_parts_of f_parts_of
  m_parts_of : mg "parts_of" = some (.ref a_parts_of)
  d_parts_of : Binds K f_parts_of ["pattern"] []
  a_number_of : Addr
  f_number_of : FuncData
  F_number_of : Fun K "number_of" "number_of" s_number_of a_number_of f_number_of
  m_number_of : mg "number_of" = some (.ref a_number_of)
  d_number_of : Binds K f_number_of ["word"] []
  a_Reader_init : Addr
  f_Reader_init : FuncData
  F_Reader_init : Fun K "__init__" "Reader.__init__" s_Reader_init a_Reader_init f_Reader_init
  k_Reader : Mk K C_Reader a_Reader_init
  d_Reader_init : Binds K f_Reader_init ["self", "words", "at"] []
  a_Reader_next_word : Addr
  f_Reader_next_word : FuncData
  F_Reader_next_word : Fun K "next_word" "Reader.next_word" s_Reader_next_word a_Reader_next_word f_Reader_next_word
  M_Reader_next_word : Meth K C_Reader "next_word" a_Reader_next_word
  d_Reader_next_word : Binds K f_Reader_next_word ["self"] []
  a_Reader_ask_last : Addr
  f_Reader_ask_last : FuncData
  F_Reader_ask_last : Fun K "ask_last" "Reader.ask_last" s_Reader_ask_last a_Reader_ask_last f_Reader_ask_last
  M_Reader_ask_last : Meth K C_Reader "ask_last" a_Reader_ask_last
  d_Reader_ask_last : Binds K f_Reader_ask_last ["self", "good"] []
  a_Reader_ask_end : Addr
  f_Reader_ask_end : FuncData
  F_Reader_ask_end : Fun K "ask_end" "Reader.ask_end" s_Reader_ask_end a_Reader_ask_end f_Reader_ask_end
  M_Reader_ask_end : Meth K C_Reader "ask_end" a_Reader_ask_end
  d_Reader_ask_end : Binds K f_Reader_ask_end ["self"] []
  a_l_cell_at : Addr
  f_l_cell_at : FuncData
  F_l_cell_at : Fun K "_law_cell_at" "_law_cell_at" s_l_cell_at a_l_cell_at f_l_cell_at
  m_l_cell_at : mg "_law_cell_at" = some (.ref a_l_cell_at)
  d_l_cell_at : Binds K f_l_cell_at ["_law_script", "_law_k"] []
  a_l_feed : Addr
  f_l_feed : FuncData
  F_l_feed : Fun K "_law_feed" "_law_feed" s_l_feed a_l_feed f_l_feed
  m_l_feed : mg "_law_feed" = some (.ref a_l_feed)
  d_l_feed : Binds K f_l_feed ["_law_cell"] []
  a_l_next : Addr
  f_l_next : FuncData
  F_l_next : Fun K "_law_next" "_law_next" s_l_next a_l_next f_l_next
  m_l_next : mg "_law_next" = some (.ref a_l_next)
  d_l_next : Binds K f_l_next ["_law_feed_here", "_law_many"] []
  a_l_words : Addr
  f_l_words : FuncData
  F_l_words : Fun K "_law_words" "_law_words" s_l_words a_l_words f_l_words
  m_l_words : mg "_law_words" = some (.ref a_l_words)
  d_l_words : Binds K f_l_words ["_law_pattern_here"] []
  a_is_word : Addr
  f_is_word : FuncData
  F_is_word : Fun K "is_word" "is_word" s_is_word a_is_word f_is_word
  m_is_word : mg "is_word" = some (.ref a_is_word)
  d_is_word : Binds K f_is_word ["thing"] []
  a_Reader_name_next : Addr
  f_Reader_name_next : FuncData
  F_Reader_name_next : Fun K "name_next" "Reader.name_next" s_Reader_name_next a_Reader_name_next f_Reader_name_next
  M_Reader_name_next : Meth K C_Reader "name_next" a_Reader_name_next
  d_Reader_name_next : Binds K f_Reader_name_next ["self"] []
  a_l_names : Addr
  f_l_names : FuncData
  F_l_names : Fun K "_law_names" "_law_names" s_l_names a_l_names f_l_names
  m_l_names : mg "_law_names" = some (.ref a_l_names)
  d_l_names : Binds K f_l_names ["_law_feed_here", "_law_many"] []
  a_l_leaf : Addr
  f_l_leaf : FuncData
  F_l_leaf : Fun K "_law_leaf" "_law_leaf" s_l_leaf a_l_leaf f_l_leaf
  m_l_leaf : mg "_law_leaf" = some (.ref a_l_leaf)
  d_l_leaf : Binds K f_l_leaf ["_law_feed_here", "_law_names_here"] []
  a_l_great : Addr
  f_l_great : FuncData
  F_l_great : Fun K "_law_great" "_law_great" s_l_great a_l_great f_l_great
  m_l_great : mg "_law_great" = some (.ref a_l_great)
  d_l_great : Binds K f_l_great ["_law_feed_here", "_law_names_here"] []
  a_l_pattern : Addr
  f_l_pattern : FuncData
  F_l_pattern : Fun K "_law_pattern" "_law_pattern" s_l_pattern a_l_pattern f_l_pattern
  m_l_pattern : mg "_law_pattern" = some (.ref a_l_pattern)
  d_l_pattern : Binds K f_l_pattern ["_law_feed_here", "_law_names_here", "_law_deep"] []
  a_words_of : Addr
  f_words_of : FuncData
  F_words_of : Fun K "words_of" "words_of" s_words_of a_words_of f_words_of
  m_words_of : mg "words_of" = some (.ref a_words_of)
  d_words_of : Binds K f_words_of ["pattern"] []
  a_shown : Addr
  f_shown : FuncData
  F_shown : Fun K "shown" "shown" s_shown a_shown f_shown
  m_shown : mg "shown" = some (.ref a_shown)
  d_shown : Binds K f_shown ["pattern"] []
  a_Reader_pattern : Addr
  f_Reader_pattern : FuncData
  F_Reader_pattern : Fun K "pattern" "Reader.pattern" s_Reader_pattern a_Reader_pattern f_Reader_pattern
  M_Reader_pattern : Meth K C_Reader "pattern" a_Reader_pattern
  d_Reader_pattern : Binds K f_Reader_pattern ["self", "deep"] []
  a_read_pattern : Addr
  f_read_pattern : FuncData
  F_read_pattern : Fun K "read_pattern" "read_pattern" s_read_pattern a_read_pattern f_read_pattern
  m_read_pattern : mg "read_pattern" = some (.ref a_read_pattern)
  d_read_pattern : Binds K f_read_pattern ["text"] []
  a_law : Addr
  f_law : FuncData
  F_law : Fun K "law" "law" s_law a_law f_law
  m_law : mg "law" = some (.ref a_law)
  d_law : Binds K f_law ["_law_script"] []
  t_ANY_WORD : Tok
  g_ANY_WORD : mg "ANY_WORD" = some (.str "*" t_ANY_WORD)
  t_FIGURES : Tok
  g_FIGURES : mg "FIGURES" = some (.str "0123456789" t_FIGURES)
  a_HEADS : Addr
  i_HEADS : Array Value
  n_HEADS : Nat
  o_HEADS : Option Addr
  s_HEADS : Array (Option Value)
  g_HEADS : mg "HEADS" = some (.ref a_HEADS)
  l_HEADS : K.lookup a_HEADS = some ⟨.type "tuple", o_HEADS, .seq i_HEADS n_HEADS, s_HEADS⟩
  z_HEADS : i_HEADS.size ≤ sizeLine
  v_HEADS : ∃ vs : List V, Vals vs i_HEADS.toList ∧ ∀ H, RDs K H [.str "stay", .str "on", .str "back", .str "at", .str "off", .str "then", .str "either", .str "many"] vs
  t_LETTERS : Tok
  g_LETTERS : mg "LETTERS" = some (.str "abcdefghijklmnopqrstuvwxyz" t_LETTERS)
  t_MOST_DEEP : Tok
  g_MOST_DEEP : mg "MOST_DEEP" = some (.int 10 t_MOST_DEEP)
  t_MOST_PARTS : Tok
  g_MOST_PARTS : mg "MOST_PARTS" = some (.int 40 t_MOST_PARTS)
  t_MOST_SIGNS : Tok
  g_MOST_SIGNS : mg "MOST_SIGNS" = some (.int 8 t_MOST_SIGNS)
  t_MOST_WITHIN : Tok
  g_MOST_WITHIN : mg "MOST_WITHIN" = some (.int 39 t_MOST_WITHIN)
  a_SIDES : Addr
  i_SIDES : Array Value
  n_SIDES : Nat
  o_SIDES : Option Addr
  s_SIDES : Array (Option Value)
  g_SIDES : mg "SIDES" = some (.ref a_SIDES)
  l_SIDES : K.lookup a_SIDES = some ⟨.type "tuple", o_SIDES, .seq i_SIDES n_SIDES, s_SIDES⟩
  z_SIDES : i_SIDES.size ≤ sizeLine
  v_SIDES : ∃ vs : List V, Vals vs i_SIDES.toList ∧ ∀ H, RDs K H [.str "on", .str "back"] vs
  b_all : mg "all" = none
  b_int : mg "int" = none
  b_isinstance : mg "isinstance" = none
  b_len : mg "len" = none
  b_list : mg "list" = none
  b_max : mg "max" = none
  b_min : mg "min" = none
  b_range : mg "range" = none
  b_repr : mg "repr" = none
  b_reversed : mg "reversed" = none
  b_str : mg "str" = none
  b_tuple : mg "tuple" = none
end K10
set_option maxRecDepth 100000
set_option maxHeartbeats 4000000
namespace K10
open PySem PySem.Spec L2 Dt Sh

/-! is_name -/
def t_is_name : DTS := (dSeq (dIf (dOr (dNot (dTest (dIsi "str" (dVar 0)))) (dOr (dTest (dOp rLt (dCB cLen (dCons (dVar 0) dNil)) (dC (.int 1)))) (dTest (dOp rGt (dCB cLen (dCons (dVar 0) dNil)) (dC (.int 8))))))
      (dRet (dC (.bl false)))
      dNx)
    (dRet (dCB cAll (dCons (dFz (dLc (dSeqI (dVar 0)) (dGN 1) dYes (dOp (dInS false) (dVar 1) (dC (.str "abcdefghijklmnopqrstuvwxyz"))) [1])) dNil))))
abbrev N_is_name : List Str := ["thing", "sign"]
theorem ok_is_name {P : Program} {w : World} {K : PySem.W.Frag} {mg : Str → Option Value} {base : Heap} (T : Txt K mg) {sp : DSp}
    (mono : SpMono sp) (len : ∀ ds S Q E, sp ds S Q E → ds.length = 1)
    (h : ∀ ds S Q E, sp ds S Q E → t_is_name (dEnd Q E) (dstart ["thing", "sign"] ds) S) : DFn P w K mg base 1 T.a_is_name T.f_is_name ["thing"] sp := by
  refine dfn_of2 (t := t_is_name) T.F_is_name sc_is_name mono len (fun cdv A outer s H E hr gu => ?_) h
  have hu1 := hu_of hr
  have hu2 := hu_big hr
  exact (dss_cons (ds_if (DWt.pt (dw_or (dt_not (dt_val (de_isi (T := "str") (by decide) (dv 0) (by rfl) T.b_isinstance (by rfl) T.b_str (by decide +kernel)))) (dw_or (dt_cmp od_lt (de_callB cd_len (by rfl) T.b_len (by decide +kernel) (da_cons (dv 0) da_nil)) de_int (nomark _)) (dw_or1 (dt_cmp od_gt (de_callB cd_len (by rfl) T.b_len (by decide +kernel) (da_cons (dv 0) da_nil)) (de_gint (by rfl) T.g_MOST_SIGNS) (nomark _))))))
      (dss_one (ds_ret de_bl))
      dss_nil)
    (dss_one (ds_ret (de_callB (cd_all rfl) (by rfl) T.b_all (by decide +kernel) (da_cons (de_fz (de_lc (own := [("sign", 1)]) rfl sc_is_name.nd (di_seq (dv 0)) (blkOk_by (own := [("sign", 1)]) (N := ["thing", "sign"]) (sc := defScope s_is_name) (by decide +kernel)) ⟨fun _ _ _ _ _ => (dw_name (i := 1) sc_is_name.nd rfl (by first | exact Or.inl rfl | exact Or.inr rfl) (by decide)), fun _ _ _ _ _ => dts_nil, fun _ _ _ _ _ => (de_cmp od_inS (dv 1) (de_gstr (by rfl) T.g_LETTERS) (by rfl))⟩)) da_nil)))))

/-! parts_of -/
def t_parts_of : DTS := (dSeq (dIf (dTest (dOp (dEq false) (dOp dIxS (dVar 0) (dC (.int 0))) (dC (.str "many"))))
      (dRet (dLstF (dCons (dOp dIxS (dVar 0) (dC (.int 1))) dNil)))
      dNx)
    (dSeq (dIf (dTest (dOp (dIn false) (dOp dIxS (dVar 0) (dC (.int 0))) (dTup (dCons (dC (.str "then")) (dCons (dC (.str "either")) dNil)))))
      (dRet (dCB cListAF (dCons (dOp dIxS (dVar 0) (dC (.int 1))) dNil)))
      dNx)
    (dRet (dLstF dNil))))
abbrev N_parts_of : List Str := ["pattern"]
theorem ok_parts_of {P : Program} {w : World} {K : PySem.W.Frag} {mg : Str → Option Value} {base : Heap} (T : Txt K mg) {sp : DSp}
    (mono : SpMono sp) (len : ∀ ds S Q E, sp ds S Q E → ds.length = 1)
    (h : ∀ ds S Q E, sp ds S Q E → t_parts_of (dEnd Q E) (dstart ["pattern"] ds) S) : DFn P w K mg base 1 T.a_parts_of T.f_parts_of ["pattern"] sp := by
  refine dfn_of2 (t := t_parts_of) T.F_parts_of sc_parts_of mono len (fun cdv A outer s H E hr gu => ?_) h
  have hu1 := hu_of hr
  have hu2 := hu_big hr
  exact (dss_cons (ds_if (dt_cmp (od_eq hr.units) (de_ix (ixD_any hu2) (dv 0) de_int) de_str (nomark _))
      (dss_one (ds_ret (de_lstF (da_cons (de_ix (ixD_any hu2) (dv 0) de_int) da_nil))))
      dss_nil)
    (dss_cons (ds_if (dt_cmp (od_in hu2) (de_ix (ixD_any hu2) (dv 0) de_int) (de_tup (da_cons de_str (da_cons de_str da_nil))) (by rfl))
      (dss_one (ds_ret (de_callTy (cd_listAF rfl) (by rfl) T.b_list (by decide +kernel) (da_cons (de_ix (ixD_any hu2) (dv 0) de_int) da_nil))))
      dss_nil)
    (dss_one (ds_ret (de_lstF da_nil)))))

/-! number_of -/
def t_number_of : DTS := (dSeq (dIf (dOr (dTest (dOp rLt (dCB cLen (dCons (dVar 0) dNil)) (dC (.int 1)))) (dOr (dTest (dOp rGt (dCB cLen (dCons (dVar 0) dNil)) (dC (.int 2)))) (dNot (dTest (dCB cAll (dCons (dFz (dLc (dSeqI (dVar 0)) (dGN 1) dYes (dOp (dInS false) (dVar 1) (dC (.str "0123456789"))) [1])) dNil))))))
      (dRet (dC .non))
      dNx)
    (dSeq (dIf (dAnd (dTest (dOp (dEq false) (dOp dIxS (dVar 0) (dC (.int 0))) (dC (.str "0")))) (dTest (dOp (dEq true) (dVar 0) (dC (.str "0")))))
      (dRet (dC .non))
      dNx)
    (dRet (dCB cIntS (dCons (dVar 0) dNil)))))
abbrev N_number_of : List Str := ["word", "sign"]
theorem ok_number_of {P : Program} {w : World} {K : PySem.W.Frag} {mg : Str → Option Value} {base : Heap} (T : Txt K mg) {sp : DSp}
    (mono : SpMono sp) (len : ∀ ds S Q E, sp ds S Q E → ds.length = 1)
    (h : ∀ ds S Q E, sp ds S Q E → t_number_of (dEnd Q E) (dstart ["word", "sign"] ds) S) : DFn P w K mg base 1 T.a_number_of T.f_number_of ["word"] sp := by
  refine dfn_of2 (t := t_number_of) T.F_number_of sc_number_of mono len (fun cdv A outer s H E hr gu => ?_) h
  have hu1 := hu_of hr
  have hu2 := hu_big hr
  exact (dss_cons (ds_if (DWt.pt (dw_or (dt_cmp od_lt (de_callB cd_len (by rfl) T.b_len (by decide +kernel) (da_cons (dv 0) da_nil)) de_int (nomark _)) (dw_or (dt_cmp od_gt (de_callB cd_len (by rfl) T.b_len (by decide +kernel) (da_cons (dv 0) da_nil)) de_int (nomark _)) (dw_or1 (dt_not (dt_val (de_callB (cd_all rfl) (by rfl) T.b_all (by decide +kernel) (da_cons (de_fz (de_lc (own := [("sign", 1)]) rfl sc_number_of.nd (di_seq (dv 0)) (blkOk_by (own := [("sign", 1)]) (N := ["word", "sign"]) (sc := defScope s_number_of) (by decide +kernel)) ⟨fun _ _ _ _ _ => (dw_name (i := 1) sc_number_of.nd rfl (by first | exact Or.inl rfl | exact Or.inr rfl) (by decide)), fun _ _ _ _ _ => dts_nil, fun _ _ _ _ _ => (de_cmp od_inS (dv 1) (de_gstr (by rfl) T.g_FIGURES) (by rfl))⟩)) da_nil))))))))
      (dss_one (ds_ret de_non))
      dss_nil)
    (dss_cons (ds_if (DWt.pt (dw_and (dt_cmp (od_eq hr.units) (de_ix (ixD_any hu2) (dv 0) de_int) de_str (nomark _)) (dw_and1 (dt_cmp (od_ne hr.units) (dv 0) de_str (nomark _)))))
      (dss_one (ds_ret de_non))
      dss_nil)
    (dss_one (ds_ret (de_callTy cd_intS (by rfl) T.b_int (by decide +kernel) (da_cons (dv 0) da_nil))))))

/-! Reader_init -/
def t_Reader_init (C_Reader : Addr) : DTS := (dSeq (dPutF C_Reader "words_read" (dVar 0) (dVar 1))
    (dSeq (dPutF C_Reader "at_word" (dVar 0) (dVar 2))
    (dPutF C_Reader "parts_read" (dVar 0) (dC (.int 0)))))
abbrev N_Reader_init : List Str := ["self", "words", "at"]
theorem ok_Reader_init {P : Program} {w : World} {K : PySem.W.Frag} {mg : Str → Option Value} {base : Heap} (T : Txt K mg) {sp : DSp}
    (mono : SpMono sp) (len : ∀ ds S Q E, sp ds S Q E → ds.length = 3)
    (h : ∀ ds S Q E, sp ds S Q E → (t_Reader_init T.C_Reader) (dEnd Q E) (dstart ["self", "words", "at"] ds) S) : DFn P w K mg base 1 T.a_Reader_init T.f_Reader_init ["self", "words", "at"] sp := by
  refine dfn_of2 (t := (t_Reader_init T.C_Reader)) T.F_Reader_init sc_Reader_init mono len (fun cdv A outer s H E hr gu => ?_) h
  have hu1 := hu_of hr
  have hu2 := hu_big hr
  exact (dss_cons (ds_fput (dv 0) (dv 1) T.c_Reader T.n_Reader_words_read)
    (dss_cons (ds_fput (dv 0) (dv 2) T.c_Reader T.n_Reader_at_word)
    (dss_one (ds_fput (dv 0) de_int T.c_Reader T.n_Reader_parts_read))))

/-! Reader_next_word -/
def t_Reader_next_word (C_Reader : Addr) : DTS := (dSeq (dIf (dTest (dOp (dEq false) (dFld C_Reader "at_word" (dVar 0)) (dCB cLen (dCons (dFld C_Reader "words_read" (dVar 0)) dNil))))
      dNever
      dNx)
    (dSeq (dPutF C_Reader "at_word" (dVar 0) (dOp dAddF (dFld C_Reader "at_word" (dVar 0)) (dC (.int 1))))
    (dRet (dOp dIxS (dFld C_Reader "words_read" (dVar 0)) (dOp rSub (dFld C_Reader "at_word" (dVar 0)) (dC (.int 1)))))))
abbrev N_Reader_next_word : List Str := ["self"]
theorem ok_Reader_next_word {P : Program} {w : World} {K : PySem.W.Frag} {mg : Str → Option Value} {base : Heap} (T : Txt K mg) {sp : DSp}
    (mono : SpMono sp) (len : ∀ ds S Q E, sp ds S Q E → ds.length = 1)
    (h : ∀ ds S Q E, sp ds S Q E → (t_Reader_next_word T.C_Reader) (dEnd Q E) (dstart ["self"] ds) S) : DFn P w K mg base 1 T.a_Reader_next_word T.f_Reader_next_word ["self"] sp := by
  refine dfn_of2 (t := (t_Reader_next_word T.C_Reader)) T.F_Reader_next_word sc_Reader_next_word mono len (fun cdv A outer s H E hr gu => ?_) h
  have hu1 := hu_of hr
  have hu2 := hu_big hr
  exact (dss_cons (ds_if (dt_cmp (od_eq hr.units) (de_fld (dv 0) T.c_Reader T.n_Reader_at_word) (de_callB cd_len (by rfl) T.b_len (by decide +kernel) (da_cons (de_fld (dv 0) T.c_Reader T.n_Reader_words_read) da_nil)) (nomark _))
      (dss_one ds_never)
      dss_nil)
    (dss_cons (ds_fput (dv 0) (de_op od_addF (de_fld (dv 0) T.c_Reader T.n_Reader_at_word) de_int) T.c_Reader T.n_Reader_at_word)
    (dss_one (ds_ret (de_ix (ixD_any hu2) (de_fld (dv 0) T.c_Reader T.n_Reader_words_read) (de_op od_sub (de_fld (dv 0) T.c_Reader T.n_Reader_at_word) de_int))))))

/-! Reader_ask_last -/
def t_Reader_ask_last : DTS := (dIf (dNot (dTest (dVar 1)))
      dNever
      dNx)
abbrev N_Reader_ask_last : List Str := ["self", "good"]
theorem ok_Reader_ask_last {P : Program} {w : World} {K : PySem.W.Frag} {mg : Str → Option Value} {base : Heap} (T : Txt K mg) {sp : DSp}
    (mono : SpMono sp) (len : ∀ ds S Q E, sp ds S Q E → ds.length = 2)
    (h : ∀ ds S Q E, sp ds S Q E → t_Reader_ask_last (dEnd Q E) (dstart ["self", "good"] ds) S) : DFn P w K mg base 1 T.a_Reader_ask_last T.f_Reader_ask_last ["self", "good"] sp := by
  refine dfn_of2 (t := t_Reader_ask_last) T.F_Reader_ask_last sc_Reader_ask_last mono len (fun cdv A outer s H E hr gu => ?_) h
  have hu1 := hu_of hr
  have hu2 := hu_big hr
  exact (dss_one (ds_if (dt_not (dt_val (dv 1)))
      (dss_one ds_never)
      dss_nil))

/-! Reader_ask_end -/
def t_Reader_ask_end (C_Reader : Addr) : DTS := (dIf (dTest (dOp rLt (dFld C_Reader "at_word" (dVar 0)) (dCB cLen (dCons (dFld C_Reader "words_read" (dVar 0)) dNil))))
      dNever
      dNx)
abbrev N_Reader_ask_end : List Str := ["self"]
theorem ok_Reader_ask_end {P : Program} {w : World} {K : PySem.W.Frag} {mg : Str → Option Value} {base : Heap} (T : Txt K mg) {sp : DSp}
    (mono : SpMono sp) (len : ∀ ds S Q E, sp ds S Q E → ds.length = 1)
    (h : ∀ ds S Q E, sp ds S Q E → (t_Reader_ask_end T.C_Reader) (dEnd Q E) (dstart ["self"] ds) S) : DFn P w K mg base 1 T.a_Reader_ask_end T.f_Reader_ask_end ["self"] sp := by
  refine dfn_of2 (t := (t_Reader_ask_end T.C_Reader)) T.F_Reader_ask_end sc_Reader_ask_end mono len (fun cdv A outer s H E hr gu => ?_) h
  have hu1 := hu_of hr
  have hu2 := hu_big hr
  exact (dss_one (ds_if (dt_cmp od_lt (de_fld (dv 0) T.c_Reader T.n_Reader_at_word) (de_callB cd_len (by rfl) T.b_len (by decide +kernel) (da_cons (de_fld (dv 0) T.c_Reader T.n_Reader_words_read) da_nil)) (nomark _))
      (dss_one ds_never)
      dss_nil))

/-! l_cell_at -/
def t_l_cell_at : DTS := (dSeq (dIf (dTest (dOp rLt (dVar 1) (dCB cLen (dCons (dVar 0) dNil))))
      (dRet (dOp dIxS (dVar 0) (dVar 1)))
      dNx)
    (dSeq (dAsg (dC (.int 0)) (dGN 2))
    (dSeq (dIf (dTest (dOp rGt (dCB cLen (dCons (dVar 0) dNil)) (dC (.int 0))))
      (dAsg (dOp dIxS (dVar 0) (dOp rMod (dVar 1) (dCB cLen (dCons (dVar 0) dNil)))) (dGN 2))
      dNx)
    (dRet (dOp dAddF (dOp dAddF (dOp dMul (dOp rMod (dVar 2) (dC (.int 1000003))) (dC (.int 48271))) (dOp dMul (dC (.int 7919)) (dVar 1))) (dC (.int 1)))))))
abbrev N_l_cell_at : List Str := ["_law_script", "_law_k", "_law_seed"]
theorem ok_l_cell_at {P : Program} {w : World} {K : PySem.W.Frag} {mg : Str → Option Value} {base : Heap} (T : Txt K mg) {sp : DSp}
    (mono : SpMono sp) (len : ∀ ds S Q E, sp ds S Q E → ds.length = 2)
    (h : ∀ ds S Q E, sp ds S Q E → t_l_cell_at (dEnd Q E) (dstart ["_law_script", "_law_k", "_law_seed"] ds) S) : DFn P w K mg base 1 T.a_l_cell_at T.f_l_cell_at ["_law_script", "_law_k"] sp := by
  refine dfn_of2 (t := t_l_cell_at) T.F_l_cell_at sc_l_cell_at mono len (fun cdv A outer s H E hr gu => ?_) h
  have hu1 := hu_of hr
  have hu2 := hu_big hr
  exact (dss_cons (ds_if (dt_cmp od_lt (dv 1) (de_callB cd_len (by rfl) T.b_len (by decide +kernel) (da_cons (dv 0) da_nil)) (nomark _))
      (dss_one (ds_ret (de_ix (ixD_any hu2) (dv 0) (dv 1))))
      dss_nil)
    (dss_cons (ds_set (i := 2) sc_l_cell_at.nd rfl (by first | exact Or.inl rfl | exact Or.inr rfl) de_int)
    (dss_cons (ds_if (dt_cmp od_gt (de_callB cd_len (by rfl) T.b_len (by decide +kernel) (da_cons (dv 0) da_nil)) de_int (nomark _))
      (dss_one (ds_set (i := 2) sc_l_cell_at.nd rfl (by first | exact Or.inl rfl | exact Or.inr rfl) (de_ix (ixD_any hu2) (dv 0) (de_op od_mod (dv 1) (de_callB cd_len (by rfl) T.b_len (by decide +kernel) (da_cons (dv 0) da_nil))))))
      dss_nil)
    (dss_one (ds_ret (de_op od_addF (de_op od_addF (de_op od_mul (de_op od_mod (dv 2) de_int) de_int) (de_op od_mul de_int (dv 1))) de_int))))))

/-! l_feed -/
def t_l_feed : DTS := (dRet (dDisp [("left", (dCB cMax2 (dCons (dC (.int 0)) (dCons (dOp rSub (dVar 0) (dOp rPow (dC (.int 10)) (dC (.int 18)))) dNil)))), ("seed", (dOp rMod (dVar 0) (dC (.int 1000003)))), ("drawn", (dC (.int 0)))]))
abbrev N_l_feed : List Str := ["_law_cell"]
theorem ok_l_feed {P : Program} {w : World} {K : PySem.W.Frag} {mg : Str → Option Value} {base : Heap} (T : Txt K mg) {sp : DSp}
    (mono : SpMono sp) (len : ∀ ds S Q E, sp ds S Q E → ds.length = 1)
    (h : ∀ ds S Q E, sp ds S Q E → t_l_feed (dEnd Q E) (dstart ["_law_cell"] ds) S) : DFn P w K mg base 1 T.a_l_feed T.f_l_feed ["_law_cell"] sp := by
  refine dfn_of2 (t := t_l_feed) T.F_l_feed sc_l_feed mono len (fun cdv A outer s H E hr gu => ?_) h
  have hu1 := hu_of hr
  have hu2 := hu_big hr
  exact (dss_one (ds_ret (de_disp (DPs.cons (de_callB (cd_max2 rfl) (by rfl) T.b_max (by decide +kernel) (da_cons de_int (da_cons (de_op od_sub (dv 0) (de_op od_pow de_int de_int)) da_nil))) (DPs.cons (de_op od_mod (dv 0) de_int) (DPs.cons de_int DPs.nil))))))

/-! l_next -/
def t_l_next : DTS := (dSeq (dPut (dVar 0) (dC (.str "drawn")) (dOp dAddF (dOp dIxS (dVar 0) (dC (.str "drawn"))) (dC (.int 1))))
    (dSeq (dIf (dTest (dOp rGt (dOp dIxS (dVar 0) (dC (.str "left"))) (dC (.int 0))))
      (dSeq (dAsg (dOp rMod (dOp dIxS (dVar 0) (dC (.str "left"))) (dVar 1)) (dGN 2))
    (dSeq (dPut (dVar 0) (dC (.str "left")) (dOp rFdiv (dOp dIxS (dVar 0) (dC (.str "left"))) (dVar 1)))
    (dRet (dVar 2))))
      dNx)
    (dSeq (dAsg (dOp rMod (dOp dMul (dOp dAddF (dOp dIxS (dVar 0) (dC (.str "seed"))) (dC (.int 1))) (dOp dAddF (dOp dMul (dOp dIxS (dVar 0) (dC (.str "drawn"))) (dOp dIxS (dVar 0) (dC (.str "drawn")))) (dC (.int 48271)))) (dC (.int 65537))) (dGN 3))
    (dSeq (dAsg (dOp rMod (dOp dAddF (dOp dMul (dVar 3) (dVar 3)) (dOp dMul (dC (.int 30269)) (dOp dIxS (dVar 0) (dC (.str "drawn"))))) (dC (.int 65521))) (dGN 4))
    (dRet (dOp rMod (dOp rMod (dOp dAddF (dOp dMul (dVar 4) (dVar 4)) (dOp dMul (dC (.int 40503)) (dVar 3))) (dC (.int 65519))) (dVar 1)))))))
abbrev N_l_next : List Str := ["_law_feed_here", "_law_many", "_law_found", "_law_one", "_law_two"]
theorem ok_l_next {P : Program} {w : World} {K : PySem.W.Frag} {mg : Str → Option Value} {base : Heap} (T : Txt K mg) {sp : DSp}
    (mono : SpMono sp) (len : ∀ ds S Q E, sp ds S Q E → ds.length = 2)
    (h : ∀ ds S Q E, sp ds S Q E → t_l_next (dEnd Q E) (dstart ["_law_feed_here", "_law_many", "_law_found", "_law_one", "_law_two"] ds) S) : DFn P w K mg base 1 T.a_l_next T.f_l_next ["_law_feed_here", "_law_many"] sp := by
  refine dfn_of2 (t := t_l_next) T.F_l_next sc_l_next mono len (fun cdv A outer s H E hr gu => ?_) h
  have hu1 := hu_of hr
  have hu2 := hu_big hr
  exact (dss_cons (ds_put hu2 (dv 0) de_str (de_op od_addF (de_ix (ixD_any hu2) (dv 0) de_str) de_int))
    (dss_cons (ds_if (dt_cmp od_gt (de_ix (ixD_any hu2) (dv 0) de_str) de_int (nomark _))
      (dss_cons (ds_set (i := 2) sc_l_next.nd rfl (by first | exact Or.inl rfl | exact Or.inr rfl) (de_op od_mod (de_ix (ixD_any hu2) (dv 0) de_str) (dv 1)))
    (dss_cons (ds_put hu2 (dv 0) de_str (de_op od_fdiv (de_ix (ixD_any hu2) (dv 0) de_str) (dv 1)))
    (dss_one (ds_ret (dv 2)))))
      dss_nil)
    (dss_cons (ds_set (i := 3) sc_l_next.nd rfl (by first | exact Or.inl rfl | exact Or.inr rfl) (de_op od_mod (de_op od_mul (de_op od_addF (de_ix (ixD_any hu2) (dv 0) de_str) de_int) (de_op od_addF (de_op od_mul (de_ix (ixD_any hu2) (dv 0) de_str) (de_ix (ixD_any hu2) (dv 0) de_str)) de_int)) de_int))
    (dss_cons (ds_set (i := 4) sc_l_next.nd rfl (by first | exact Or.inl rfl | exact Or.inr rfl) (de_op od_mod (de_op od_addF (de_op od_mul (dv 3) (dv 3)) (de_op od_mul de_int (de_ix (ixD_any hu2) (dv 0) de_str))) de_int))
    (dss_one (ds_ret (de_op od_mod (de_op od_mod (de_op od_addF (de_op od_mul (dv 4) (dv 4)) (de_op od_mul de_int (dv 3))) de_int) (dv 1))))))))

/-! l_words -/
def t_l_words : DTS := (dSeq (dAsg (dLst dNil) (dGN 1))
    (dSeq (dAsg (dLst (dCons (dVar 0) dNil)) (dGN 2))
    (dSeq (dWhile (dTest (dOp (dEq true) (dVar 2) (dLstF dNil)))
      (dSeq (dAsg (dBM "list" mPop (dVar 2) dNil) (dGN 3))
    (dIf (dTest (dOp (dEq false) (dOp dIxS (dVar 3) (dC (.int 0))) (dC (.str "step"))))
      (dDrop (dBM "list" mExtend (dVar 1) (dCons (dLstF (dCons (dOp dIxS (dVar 3) (dC (.int 1))) (dCons (dOp dIxS (dVar 3) (dC (.int 2))) dNil))) dNil)))
      (dIf (dTest (dOp (dEq false) (dOp dIxS (dVar 3) (dC (.int 0))) (dC (.str "many"))))
      (dSeq (dDrop (dBM "list" mAppend (dVar 1) (dCons (dC (.str "many")) dNil)))
    (dDrop (dBM "list" mAppend (dVar 2) (dCons (dOp dIxS (dVar 3) (dC (.int 1))) dNil))))
      (dIf (dTest (dOp (dIn false) (dOp dIxS (dVar 3) (dC (.int 0))) (dTup (dCons (dC (.str "then")) (dCons (dC (.str "either")) dNil)))))
      (dSeq (dDrop (dBM "list" mExtend (dVar 1) (dCons (dLstF (dCons (dOp dIxS (dVar 3) (dC (.int 0))) (dCons (dCB cStr (dCons (dCB cLen (dCons (dOp dIxS (dVar 3) (dC (.int 1))) dNil)) dNil)) dNil))) dNil)))
    (dDrop (dBM "list" mExtend (dVar 2) (dCons (dLstRevTF (dOp dIxS (dVar 3) (dC (.int 1)))) dNil))))
      (dDrop (dBM "list" mExtend (dVar 1) (dCons (dCB cListAF (dCons (dVar 3) dNil)) dNil))))))))
    (dRet (dVar 1)))))
abbrev N_l_words : List Str := ["_law_pattern_here", "_law_words_here", "_law_left", "_law_part"]
theorem ok_l_words {P : Program} {w : World} {K : PySem.W.Frag} {mg : Str → Option Value} {base : Heap} (T : Txt K mg) {sp : DSp}
    (mono : SpMono sp) (len : ∀ ds S Q E, sp ds S Q E → ds.length = 1)
    (h : ∀ ds S Q E, sp ds S Q E → t_l_words (dEnd Q E) (dstart ["_law_pattern_here", "_law_words_here", "_law_left", "_law_part"] ds) S) : DFn P w K mg base 1 T.a_l_words T.f_l_words ["_law_pattern_here"] sp := by
  refine dfn_of2 (t := t_l_words) T.F_l_words sc_l_words mono len (fun cdv A outer s H E hr gu => ?_) h
  have hu1 := hu_of hr
  have hu2 := hu_big hr
  exact (dss_cons (ds_set (i := 1) sc_l_words.nd rfl (by first | exact Or.inl rfl | exact Or.inr rfl) (de_lst da_nil))
    (dss_cons (ds_set (i := 2) sc_l_words.nd rfl (by first | exact Or.inl rfl | exact Or.inr rfl) (de_lst (da_cons (dv 0) da_nil)))
    (dss_cons (ds_while (passes_of rfl) (dt_cmp (od_ne hr.units) (dv 2) (de_lstF da_nil) (nomark _))
      (dss_cons (ds_set (i := 3) sc_l_words.nd rfl (by first | exact Or.inl rfl | exact Or.inr rfl) (de_bm0 PySem.F.plainAttrs_list PySem.F.slot_list_pop PySem.F.type_list_pop md_pop (dv 2)))
    (dss_one (ds_if (dt_cmp (od_eq hr.units) (de_ix (ixD_any hu2) (dv 3) de_int) de_str (nomark _))
      (dss_one (ds_expr (de_bm PySem.F.plainAttrs_list PySem.F.slot_list_extend PySem.F.type_list_extend md_extend (dv 1) (da_cons (de_lstF (da_cons (de_ix (ixD_any hu2) (dv 3) de_int) (da_cons (de_ix (ixD_any hu2) (dv 3) de_int) da_nil))) da_nil))))
      (dss_one (ds_if (dt_cmp (od_eq hr.units) (de_ix (ixD_any hu2) (dv 3) de_int) de_str (nomark _))
      (dss_cons (ds_expr (de_bm PySem.F.plainAttrs_list PySem.F.slot_list_append PySem.F.type_list_append md_append (dv 1) (da_cons de_str da_nil)))
    (dss_one (ds_expr (de_bm PySem.F.plainAttrs_list PySem.F.slot_list_append PySem.F.type_list_append md_append (dv 2) (da_cons (de_ix (ixD_any hu2) (dv 3) de_int) da_nil)))))
      (dss_one (ds_if (dt_cmp (od_in hu2) (de_ix (ixD_any hu2) (dv 3) de_int) (de_tup (da_cons de_str (da_cons de_str da_nil))) (by rfl))
      (dss_cons (ds_expr (de_bm PySem.F.plainAttrs_list PySem.F.slot_list_extend PySem.F.type_list_extend md_extend (dv 1) (da_cons (de_lstF (da_cons (de_ix (ixD_any hu2) (dv 3) de_int) (da_cons (de_callTy cd_str (by rfl) T.b_str (by decide +kernel) (da_cons (de_callB cd_len (by rfl) T.b_len (by decide +kernel) (da_cons (de_ix (ixD_any hu2) (dv 3) de_int) da_nil)) da_nil)) da_nil))) da_nil)))
    (dss_one (ds_expr (de_bm PySem.F.plainAttrs_list PySem.F.slot_list_extend PySem.F.type_list_extend md_extend (dv 2) (da_cons (de_lstRevTF rfl (by rfl) T.b_list (by rfl) T.b_reversed (de_ix (ixD_any hu2) (dv 3) de_int)) da_nil)))))
      (dss_one (ds_expr (de_bm PySem.F.plainAttrs_list PySem.F.slot_list_extend PySem.F.type_list_extend md_extend (dv 1) (da_cons (de_callTy (cd_listAF rfl) (by rfl) T.b_list (by decide +kernel) (da_cons (dv 3) da_nil)) da_nil))))))))))))
    (dss_one (ds_ret (dv 1))))))

/-! is_word -/
def t_is_word : DTS := (dRet (dOrV (dCall sp_is_name (dCons (dVar 0) dNil)) (dAndV (dIsi "str" (dVar 0)) (dOp (dEq false) (dVar 0) (dC (.str "*"))))))
abbrev N_is_word : List Str := ["thing"]
theorem ok_is_word {P : Program} {w : World} {K : PySem.W.Frag} {mg : Str → Option Value} {base : Heap} (T : Txt K mg) (G_is_name : DFn P w K mg base 1 T.a_is_name T.f_is_name ["thing"] sp_is_name) {sp : DSp}
    (mono : SpMono sp) (len : ∀ ds S Q E, sp ds S Q E → ds.length = 1)
    (h : ∀ ds S Q E, sp ds S Q E → t_is_word (dEnd Q E) (dstart ["thing"] ds) S) : DFn P w K mg base 2 T.a_is_word T.f_is_word ["thing"] sp := by
  refine dfn_of2 (t := t_is_word) T.F_is_word sc_is_word mono len (fun cdv A outer s H E hr gu => ?_) h
  have hu1 := hu_of hr
  have hu2 := hu_big hr
  exact (dss_one (ds_ret (de_or (de_call G_is_name (hr.mono (by decide)) gu (by rfl) T.m_is_name T.F_is_name.kp T.d_is_name (da_cons (dv 0) da_nil)) (de_one (de_and (de_isi (T := "str") (by decide) (dv 0) (by rfl) T.b_isinstance (by rfl) T.b_str (by decide +kernel)) (de_one (de_cmp (od_eq hr.units) (dv 0) (de_gstr (by rfl) T.g_ANY_WORD) (nomark _))))))))

/-! Reader_name_next -/
def t_Reader_name_next (C_Reader : Addr) : DTS := (dSeq (dAsg (dMeth C_Reader "next_word" (sp_Reader_next_word C_Reader) (dVar 0) dNil) (dGN 1))
    (dSeq (dDrop (dMeth C_Reader "ask_last" sp_Reader_ask_last (dVar 0) (dCons (dCall sp_is_name (dCons (dVar 1) dNil)) dNil)))
    (dRet (dVar 1))))
abbrev N_Reader_name_next : List Str := ["self", "word"]
theorem ok_Reader_name_next {P : Program} {w : World} {K : PySem.W.Frag} {mg : Str → Option Value} {base : Heap} (T : Txt K mg) (G_is_name : DFn P w K mg base 1 T.a_is_name T.f_is_name ["thing"] sp_is_name) (G_Reader_next_word : DFn P w K mg base 1 T.a_Reader_next_word T.f_Reader_next_word ["self"] (sp_Reader_next_word T.C_Reader)) (G_Reader_ask_last : DFn P w K mg base 1 T.a_Reader_ask_last T.f_Reader_ask_last ["self", "good"] sp_Reader_ask_last) {sp : DSp}
    (mono : SpMono sp) (len : ∀ ds S Q E, sp ds S Q E → ds.length = 1)
    (h : ∀ ds S Q E, sp ds S Q E → (t_Reader_name_next T.C_Reader) (dEnd Q E) (dstart ["self", "word"] ds) S) : DFn P w K mg base 2 T.a_Reader_name_next T.f_Reader_name_next ["self"] sp := by
  refine dfn_of2 (t := (t_Reader_name_next T.C_Reader)) T.F_Reader_name_next sc_Reader_name_next mono len (fun cdv A outer s H E hr gu => ?_) h
  have hu1 := hu_of hr
  have hu2 := hu_big hr
  exact (dss_cons (ds_set (i := 1) sc_Reader_name_next.nd rfl (by first | exact Or.inl rfl | exact Or.inr rfl) (de_meth0 (dv 0) T.c_Reader T.M_Reader_next_word G_Reader_next_word (hr.mono (by decide)) gu T.d_Reader_next_word))
    (dss_cons (ds_expr (de_meth (dv 0) T.c_Reader T.M_Reader_ask_last G_Reader_ask_last (hr.mono (by decide)) gu T.d_Reader_ask_last (da_cons (de_call G_is_name (hr.mono (by decide)) gu (by rfl) T.m_is_name T.F_is_name.kp T.d_is_name (da_cons (dv 1) da_nil)) da_nil)))
    (dss_one (ds_ret (dv 1)))))

/-! l_names -/
def t_l_names : DTS := (dSeq (dAsg (dC (.str "abcdefghijklmnopqrstuvwxyz")) (dGN 2))
    (dSeq (dAsg (dBM "str" mJoin (dC (.str "")) (dCons (dFz (dLc (dRng1 (dCons (dC (.int 8)) dNil)) (dGN 9) dYes (dOp dIxS (dVar 2) (dCall sp_l_next (dCons (dVar 0) (dCons (dC (.int 26)) dNil)))) [9])) dNil)) (dGN 3))
    (dSeq (dAsg (dCall sp_l_next (dCons (dVar 0) (dCons (dC (.int 3)) dNil))) (dGN 4))
    (dSeq (dAsg (dCall sp_l_next (dCons (dVar 0) (dCons (dC (.int 8)) dNil))) (dGN 5))
    (dSeq (dIf (dTest (dOp (dEq false) (dVar 4) (dC (.int 0))))
      (dAsg (dLc (dRng1 (dCons (dC (.int 8)) dNil)) (dGN 9) dYes (dSlF (dVar 3) dNoP (dSoP (dOp dAddF (dVar 9) (dC (.int 1))))) [9]) (dGN 6))
      (dIf (dTest (dOp (dEq false) (dVar 4) (dC (.int 1))))
      (dAsg (dLst (dCons (dC (.str "on")) (dCons (dC (.str "back")) (dCons (dC (.str "at")) (dCons (dC (.str "off")) (dCons (dC (.str "stay")) (dCons (dC (.str "many")) (dCons (dC (.str "then")) (dCons (dC (.str "either")) dNil))))))))) (dGN 6))
      (dSeq (dAsg (dCall sp_l_next (dCons (dVar 0) (dCons (dOp dAddF (dVar 5) (dC (.int 1))) dNil))) (dGN 7))
    (dSeq (dAsg (dCall sp_l_next (dCons (dVar 0) (dCons (dC (.int 26)) dNil))) (dGN 8))
    (dSeq (dAsg (dLst dNil) (dGN 6))
    (dFor (dRng1 (dCons (dC (.int 8)) dNil)) (dGN 9)
      (dSeq (dAsg (dOp dIxS (dVar 2) (dOp rMod (dOp dAddF (dVar 8) (dOp dMul (dC (.int 5)) (dVar 9))) (dC (.int 26)))) (dGN 10))
    (dDrop (dBM "list" mAppend (dVar 6) (dCons (dOp dAddF (dOp dAddF (dSlF (dVar 3) dNoP (dSoP (dVar 7))) (dVar 10)) (dSlF (dVar 3) (dSoP (dOp dAddF (dVar 7) (dC (.int 1)))) (dSoP (dOp dAddF (dVar 5) (dC (.int 1)))))) dNil))))))))))
    (dRet (dSlF (dOp dAddF (dSlF (dVar 6) (dSoP (dVar 5)) dNoP) (dSlF (dVar 6) dNoP (dSoP (dVar 5)))) dNoP (dSoP (dVar 1)))))))))
abbrev N_l_names : List Str := ["_law_feed_here", "_law_many", "_law_letters", "_law_word", "_law_way", "_law_turn", "_law_names_here", "_law_place", "_law_start", "_law_k", "_law_sign"]
theorem ok_l_names {P : Program} {w : World} {K : PySem.W.Frag} {mg : Str → Option Value} {base : Heap} (T : Txt K mg) (G_l_next : DFn P w K mg base 1 T.a_l_next T.f_l_next ["_law_feed_here", "_law_many"] sp_l_next) {sp : DSp}
    (mono : SpMono sp) (len : ∀ ds S Q E, sp ds S Q E → ds.length = 2)
    (h : ∀ ds S Q E, sp ds S Q E → t_l_names (dEnd Q E) (dstart ["_law_feed_here", "_law_many", "_law_letters", "_law_word", "_law_way", "_law_turn", "_law_names_here", "_law_place", "_law_start", "_law_k", "_law_sign"] ds) S) : DFn P w K mg base 2 T.a_l_names T.f_l_names ["_law_feed_here", "_law_many"] sp := by
  refine dfn_of2 (t := t_l_names) T.F_l_names sc_l_names mono len (fun cdv A outer s H E hr gu => ?_) h
  have hu1 := hu_of hr
  have hu2 := hu_big hr
  exact (dss_cons (ds_set (i := 2) sc_l_names.nd rfl (by first | exact Or.inl rfl | exact Or.inr rfl) de_str)
    (dss_cons (ds_set (i := 3) sc_l_names.nd rfl (by first | exact Or.inl rfl | exact Or.inr rfl) (de_bm PySem.F.plainAttrs_str PySem.F.slot_str_join PySem.F.type_str_join md_join de_str (da_cons (de_fz (de_lc (own := [("_law_k", 9)]) rfl sc_l_names.nd (di_rng1 (by rfl) T.b_range (da_cons de_int da_nil)) (blkOk_by (own := [("_law_k", 9)]) (N := ["_law_feed_here", "_law_many", "_law_letters", "_law_word", "_law_way", "_law_turn", "_law_names_here", "_law_place", "_law_start", "_law_k", "_law_sign"]) (sc := defScope s_l_names) (by decide +kernel)) ⟨fun _ _ _ _ _ => (dw_name (i := 9) sc_l_names.nd rfl (by first | exact Or.inl rfl | exact Or.inr rfl) (by decide)), fun _ _ _ _ _ => dts_nil, fun _ _ _ _ _ => (de_ix (ixD_any hu2) (dv 2) (de_call G_l_next (hr.mono (by decide)) gu (by rfl) T.m_l_next T.F_l_next.kp T.d_l_next (da_cons (dv 0) (da_cons de_int da_nil))))⟩)) da_nil)))
    (dss_cons (ds_set (i := 4) sc_l_names.nd rfl (by first | exact Or.inl rfl | exact Or.inr rfl) (de_call G_l_next (hr.mono (by decide)) gu (by rfl) T.m_l_next T.F_l_next.kp T.d_l_next (da_cons (dv 0) (da_cons de_int da_nil))))
    (dss_cons (ds_set (i := 5) sc_l_names.nd rfl (by first | exact Or.inl rfl | exact Or.inr rfl) (de_call G_l_next (hr.mono (by decide)) gu (by rfl) T.m_l_next T.F_l_next.kp T.d_l_next (da_cons (dv 0) (da_cons de_int da_nil))))
    (dss_cons (ds_if (dt_cmp (od_eq hr.units) (dv 4) de_int (nomark _))
      (dss_one (ds_setLc (i := 6) (own := [("_law_k", 9)]) rfl sc_l_names.nd rfl rfl (sw_true rfl rfl rfl (by decide +kernel)) (di_rng1 (by rfl) T.b_range (da_cons de_int da_nil)) (blkOk_by (own := [("_law_k", 9)]) (N := ["_law_feed_here", "_law_many", "_law_letters", "_law_word", "_law_way", "_law_turn", "_law_names_here", "_law_place", "_law_start", "_law_k", "_law_sign"]) (sc := defScope s_l_names) (by decide +kernel)) ⟨fun _ _ _ _ _ => (dw_name (i := 9) sc_l_names.nd rfl (by first | exact Or.inl rfl | exact Or.inr rfl) (by decide)), fun _ _ _ _ _ => dts_nil, fun _ _ _ _ _ => (de_slF (dv 3) do_none (do_some (de_op od_addF (dv 9) de_int)))⟩))
      (dss_one (ds_if (dt_cmp (od_eq hr.units) (dv 4) de_int (nomark _))
      (dss_one (ds_set (i := 6) sc_l_names.nd rfl (by first | exact Or.inl rfl | exact Or.inr rfl) (de_lst (da_cons de_str (da_cons de_str (da_cons de_str (da_cons de_str (da_cons de_str (da_cons de_str (da_cons de_str (da_cons de_str da_nil)))))))))))
      (dss_cons (ds_set (i := 7) sc_l_names.nd rfl (by first | exact Or.inl rfl | exact Or.inr rfl) (de_call G_l_next (hr.mono (by decide)) gu (by rfl) T.m_l_next T.F_l_next.kp T.d_l_next (da_cons (dv 0) (da_cons (de_op od_addF (dv 5) de_int) da_nil))))
    (dss_cons (ds_set (i := 8) sc_l_names.nd rfl (by first | exact Or.inl rfl | exact Or.inr rfl) (de_call G_l_next (hr.mono (by decide)) gu (by rfl) T.m_l_next T.F_l_next.kp T.d_l_next (da_cons (dv 0) (da_cons de_int da_nil))))
    (dss_cons (ds_set (i := 6) sc_l_names.nd rfl (by first | exact Or.inl rfl | exact Or.inr rfl) (de_lst da_nil))
    (dss_one (ds_for (passes_of rfl) rfl (di_rng1 (by rfl) T.b_range (da_cons de_int da_nil)) (dg_name (i := 9) sc_l_names.nd rfl (by first | exact Or.inl rfl | exact Or.inr rfl))
      (dss_cons (ds_set (i := 10) sc_l_names.nd rfl (by first | exact Or.inl rfl | exact Or.inr rfl) (de_ix (ixD_any hu2) (dv 2) (de_op od_mod (de_op od_addF (dv 8) (de_op od_mul de_int (dv 9))) de_int)))
    (dss_one (ds_expr (de_bm PySem.F.plainAttrs_list PySem.F.slot_list_append PySem.F.type_list_append md_append (dv 6) (da_cons (de_op od_addF (de_op od_addF (de_slF (dv 3) do_none (do_some (dv 7))) (dv 10)) (de_slF (dv 3) (do_some (de_op od_addF (dv 7) de_int)) (do_some (de_op od_addF (dv 5) de_int)))) da_nil)))))))))))))
    (dss_one (ds_ret (de_slF (de_op od_addF (de_slF (dv 6) (do_some (dv 5)) do_none) (de_slF (dv 6) do_none (do_some (dv 5)))) do_none (do_some (dv 1))))))))))

/-! l_leaf -/
def t_l_leaf : DTS := (dSeq (dAsg (dCall sp_l_next (dCons (dVar 0) (dCons (dC (.int 8)) dNil))) (dGN 2))
    (dSeq (dIf (dTest (dOp (dEq false) (dVar 2) (dC (.int 0))))
      (dRet (dTup (dCons (dC (.str "stay")) dNil)))
      dNx)
    (dSeq (dIf (dTest (dOp rLt (dVar 2) (dC (.int 3))))
      (dRet (dTup (dCons (dOp dIxS (dLstF (dCons (dC (.str "at")) (dCons (dC (.str "off")) dNil))) (dOp rSub (dVar 2) (dC (.int 1)))) (dCons (dOp dIxS (dOp dIxS (dVar 1) (dC (.int 2))) (dCall sp_l_next (dCons (dVar 0) (dCons (dCB cLen (dCons (dOp dIxS (dVar 1) (dC (.int 2))) dNil)) dNil)))) dNil))))
      dNx)
    (dSeq (dAsg (dOp dIxS (dOp dAddF (dLstF (dCons (dC (.str "*")) dNil)) (dOp dIxS (dVar 1) (dC (.int 1)))) (dCall sp_l_next (dCons (dVar 0) (dCons (dOp dAddF (dC (.int 1)) (dCB cLen (dCons (dOp dIxS (dVar 1) (dC (.int 1))) dNil))) dNil)))) (dGN 3))
    (dRet (dTup (dCons (dC (.str "step")) (dCons (dOp dIxS (dLstF (dCons (dC (.str "on")) (dCons (dC (.str "on")) (dCons (dC (.str "back")) dNil)))) (dCall sp_l_next (dCons (dVar 0) (dCons (dC (.int 3)) dNil)))) (dCons (dVar 3) dNil)))))))))
abbrev N_l_leaf : List Str := ["_law_feed_here", "_law_names_here", "_law_way", "_law_word"]
theorem ok_l_leaf {P : Program} {w : World} {K : PySem.W.Frag} {mg : Str → Option Value} {base : Heap} (T : Txt K mg) (G_l_next : DFn P w K mg base 1 T.a_l_next T.f_l_next ["_law_feed_here", "_law_many"] sp_l_next) {sp : DSp}
    (mono : SpMono sp) (len : ∀ ds S Q E, sp ds S Q E → ds.length = 2)
    (h : ∀ ds S Q E, sp ds S Q E → t_l_leaf (dEnd Q E) (dstart ["_law_feed_here", "_law_names_here", "_law_way", "_law_word"] ds) S) : DFn P w K mg base 2 T.a_l_leaf T.f_l_leaf ["_law_feed_here", "_law_names_here"] sp := by
  refine dfn_of2 (t := t_l_leaf) T.F_l_leaf sc_l_leaf mono len (fun cdv A outer s H E hr gu => ?_) h
  have hu1 := hu_of hr
  have hu2 := hu_big hr
  exact (dss_cons (ds_set (i := 2) sc_l_leaf.nd rfl (by first | exact Or.inl rfl | exact Or.inr rfl) (de_call G_l_next (hr.mono (by decide)) gu (by rfl) T.m_l_next T.F_l_next.kp T.d_l_next (da_cons (dv 0) (da_cons de_int da_nil))))
    (dss_cons (ds_if (dt_cmp (od_eq hr.units) (dv 2) de_int (nomark _))
      (dss_one (ds_ret (de_tup (da_cons de_str da_nil))))
      dss_nil)
    (dss_cons (ds_if (dt_cmp od_lt (dv 2) de_int (nomark _))
      (dss_one (ds_ret (de_tup (da_cons (de_ix (ixD_any hu2) (de_lstF (da_cons de_str (da_cons de_str da_nil))) (de_op od_sub (dv 2) de_int)) (da_cons (de_ix (ixD_any hu2) (de_ix (ixD_any hu2) (dv 1) de_int) (de_call G_l_next (hr.mono (by decide)) gu (by rfl) T.m_l_next T.F_l_next.kp T.d_l_next (da_cons (dv 0) (da_cons (de_callB cd_len (by rfl) T.b_len (by decide +kernel) (da_cons (de_ix (ixD_any hu2) (dv 1) de_int) da_nil)) da_nil)))) da_nil)))))
      dss_nil)
    (dss_cons (ds_set (i := 3) sc_l_leaf.nd rfl (by first | exact Or.inl rfl | exact Or.inr rfl) (de_ix (ixD_any hu2) (de_op od_addF (de_lstF (da_cons de_str da_nil)) (de_ix (ixD_any hu2) (dv 1) de_int)) (de_call G_l_next (hr.mono (by decide)) gu (by rfl) T.m_l_next T.F_l_next.kp T.d_l_next (da_cons (dv 0) (da_cons (de_op od_addF de_int (de_callB cd_len (by rfl) T.b_len (by decide +kernel) (da_cons (de_ix (ixD_any hu2) (dv 1) de_int) da_nil))) da_nil)))))
    (dss_one (ds_ret (de_tup (da_cons de_str (da_cons (de_ix (ixD_any hu2) (de_lstF (da_cons de_str (da_cons de_str (da_cons de_str da_nil)))) (de_call G_l_next (hr.mono (by decide)) gu (by rfl) T.m_l_next T.F_l_next.kp T.d_l_next (da_cons (dv 0) (da_cons de_int da_nil)))) (da_cons (dv 3) da_nil))))))))))

/-! l_great -/
def t_l_great : DTS := (dSeq (dAsg (dCall sp_l_leaf (dCons (dVar 0) (dCons (dVar 1) dNil))) (dGN 2))
    (dSeq (dAsg (dVar 2) (dGN 3))
    (dSeq (dFor (dRng1 (dCons (dC (.int 9)) dNil)) (dGN 4)
      (dSeq (dAsg (dLstF (dCons (dTup (dCons (dC (.str "many")) (dCons (dVar 3) dNil))) (dCons (dTup (dCons (dC (.str "then")) (dCons (dTup (dCons (dVar 3) dNil)) dNil))) (dCons (dTup (dCons (dC (.str "either")) (dCons (dTup (dCons (dVar 2) (dCons (dVar 3) dNil))) dNil))) dNil)))) (dGN 5))
    (dAsg (dOp dIxS (dVar 5) (dCall sp_l_next (dCons (dVar 0) (dCons (dC (.int 3)) dNil)))) (dGN 3))))
    (dSeq (dAsg (dOp dAddF (dC (.int 9)) (dCall sp_l_next (dCons (dVar 0) (dCons (dC (.int 31)) dNil)))) (dGN 6))
    (dSeq (dAsg (dTup (dCons (dOp dIxS (dLstF (dCons (dC (.str "then")) (dCons (dC (.str "either")) dNil))) (dCall sp_l_next (dCons (dVar 0) (dCons (dC (.int 2)) dNil)))) (dCons (dOp dMulT (dTup (dCons (dVar 2) dNil)) (dVar 6)) dNil))) (dGN 7))
    (dRet (dOp dIxS (dLstF (dCons (dVar 3) (dCons (dVar 7) dNil))) (dCall sp_l_next (dCons (dVar 0) (dCons (dC (.int 2)) dNil))))))))))
abbrev N_l_great : List Str := ["_law_feed_here", "_law_names_here", "_law_leaf_here", "_law_pattern_here", "_law_k", "_law_some", "_law_many", "_law_other"]
theorem ok_l_great {P : Program} {w : World} {K : PySem.W.Frag} {mg : Str → Option Value} {base : Heap} (T : Txt K mg) (G_l_next : DFn P w K mg base 1 T.a_l_next T.f_l_next ["_law_feed_here", "_law_many"] sp_l_next) (G_l_leaf : DFn P w K mg base 2 T.a_l_leaf T.f_l_leaf ["_law_feed_here", "_law_names_here"] sp_l_leaf) {sp : DSp}
    (mono : SpMono sp) (len : ∀ ds S Q E, sp ds S Q E → ds.length = 2)
    (h : ∀ ds S Q E, sp ds S Q E → t_l_great (dEnd Q E) (dstart ["_law_feed_here", "_law_names_here", "_law_leaf_here", "_law_pattern_here", "_law_k", "_law_some", "_law_many", "_law_other"] ds) S) : DFn P w K mg base 3 T.a_l_great T.f_l_great ["_law_feed_here", "_law_names_here"] sp := by
  refine dfn_of2 (t := t_l_great) T.F_l_great sc_l_great mono len (fun cdv A outer s H E hr gu => ?_) h
  have hu1 := hu_of hr
  have hu2 := hu_big hr
  exact (dss_cons (ds_set (i := 2) sc_l_great.nd rfl (by first | exact Or.inl rfl | exact Or.inr rfl) (de_call G_l_leaf (hr.mono (by decide)) gu (by rfl) T.m_l_leaf T.F_l_leaf.kp T.d_l_leaf (da_cons (dv 0) (da_cons (dv 1) da_nil))))
    (dss_cons (ds_set (i := 3) sc_l_great.nd rfl (by first | exact Or.inl rfl | exact Or.inr rfl) (dv 2))
    (dss_cons (ds_for (passes_of rfl) rfl (di_rng1 (by rfl) T.b_range (da_cons de_int da_nil)) (dg_name (i := 4) sc_l_great.nd rfl (by first | exact Or.inl rfl | exact Or.inr rfl))
      (dss_cons (ds_set (i := 5) sc_l_great.nd rfl (by first | exact Or.inl rfl | exact Or.inr rfl) (de_lstF (da_cons (de_tup (da_cons de_str (da_cons (dv 3) da_nil))) (da_cons (de_tup (da_cons de_str (da_cons (de_tup (da_cons (dv 3) da_nil)) da_nil))) (da_cons (de_tup (da_cons de_str (da_cons (de_tup (da_cons (dv 2) (da_cons (dv 3) da_nil))) da_nil))) da_nil)))))
    (dss_one (ds_set (i := 3) sc_l_great.nd rfl (by first | exact Or.inl rfl | exact Or.inr rfl) (de_ix (ixD_any hu2) (dv 5) (de_call G_l_next (hr.mono (by decide)) gu (by rfl) T.m_l_next T.F_l_next.kp T.d_l_next (da_cons (dv 0) (da_cons de_int da_nil))))))))
    (dss_cons (ds_set (i := 6) sc_l_great.nd rfl (by first | exact Or.inl rfl | exact Or.inr rfl) (de_op od_addF de_int (de_call G_l_next (hr.mono (by decide)) gu (by rfl) T.m_l_next T.F_l_next.kp T.d_l_next (da_cons (dv 0) (da_cons de_int da_nil)))))
    (dss_cons (ds_set (i := 7) sc_l_great.nd rfl (by first | exact Or.inl rfl | exact Or.inr rfl) (de_tup (da_cons (de_ix (ixD_any hu2) (de_lstF (da_cons de_str (da_cons de_str da_nil))) (de_call G_l_next (hr.mono (by decide)) gu (by rfl) T.m_l_next T.F_l_next.kp T.d_l_next (da_cons (dv 0) (da_cons de_int da_nil)))) (da_cons (de_op od_mulT (de_tup (da_cons (dv 2) da_nil)) (dv 6)) da_nil))))
    (dss_one (ds_ret (de_ix (ixD_any hu2) (de_lstF (da_cons (dv 3) (da_cons (dv 7) da_nil))) (de_call G_l_next (hr.mono (by decide)) gu (by rfl) T.m_l_next T.F_l_next.kp T.d_l_next (da_cons (dv 0) (da_cons de_int da_nil)))))))))))

/-! l_pattern -/
def t_l_pattern (spR : DSp) : DTS := (dSeq (dAsg (dCall sp_l_next (dCons (dVar 0) (dCons (dC (.int 8)) dNil))) (dGN 3))
    (dSeq (dIf (dOr (dTest (dOp (dEq false) (dVar 2) (dC (.int 0)))) (dTest (dOp rLt (dVar 3) (dC (.int 2)))))
      (dRet (dCall sp_l_leaf (dCons (dVar 0) (dCons (dVar 1) dNil))))
      dNx)
    (dSeq (dIf (dTest (dOp rLt (dVar 3) (dC (.int 4))))
      (dRet (dTup (dCons (dC (.str "many")) (dCons (dCall spR (dCons (dVar 0) (dCons (dVar 1) (dCons (dOp rSub (dVar 2) (dC (.int 1))) dNil)))) dNil))))
      dNx)
    (dSeq (dAsg (dOp dIxS (dLstF (dCons (dC (.int 2)) (dCons (dC (.int 1)) (dCons (dC (.int 3)) (dCons (dC (.int 0)) (dCons (dC (.int 2)) (dCons (dC (.int 2)) dNil))))))) (dCall sp_l_next (dCons (dVar 0) (dCons (dC (.int 6)) dNil)))) (dGN 4))
    (dSeq (dAsg (dCB cTuple (dCons (dFz (dLc (dRng1 (dCons (dVar 4) dNil)) (dGN 6) dYes (dCall spR (dCons (dVar 0) (dCons (dVar 1) (dCons (dOp rSub (dVar 2) (dC (.int 1))) dNil)))) [6])) dNil)) (dGN 5))
    (dRet (dTup (dCons (dOp dIxS (dLstF (dCons (dC (.str "then")) (dCons (dC (.str "either")) dNil))) (dOp rMod (dVar 3) (dC (.int 2)))) (dCons (dVar 5) dNil)))))))))
abbrev N_l_pattern : List Str := ["_law_feed_here", "_law_names_here", "_law_deep", "_law_way", "_law_many", "_law_parts", "_law_k"]
theorem ok_l_pattern {P : Program} {w : World} {K : PySem.W.Frag} {mg : Str → Option Value} {base : Heap} (T : Txt K mg) (G_l_next : DFn P w K mg base 1 T.a_l_next T.f_l_next ["_law_feed_here", "_law_many"] sp_l_next) (G_l_leaf : DFn P w K mg base 2 T.a_l_leaf T.f_l_leaf ["_law_feed_here", "_law_names_here"] sp_l_leaf) (n : Nat) {spR : DSp} (G_l_pattern : DFn P w K mg base (2 + n) T.a_l_pattern T.f_l_pattern ["_law_feed_here", "_law_names_here", "_law_deep"] spR) {sp : DSp}
    (mono : SpMono sp) (len : ∀ ds S Q E, sp ds S Q E → ds.length = 3)
    (h : ∀ ds S Q E, sp ds S Q E → (t_l_pattern spR) (dEnd Q E) (dstart ["_law_feed_here", "_law_names_here", "_law_deep", "_law_way", "_law_many", "_law_parts", "_law_k"] ds) S) : DFn P w K mg base (2 + n + 1) T.a_l_pattern T.f_l_pattern ["_law_feed_here", "_law_names_here", "_law_deep"] sp := by
  refine dfn_of2 (t := (t_l_pattern spR)) T.F_l_pattern sc_l_pattern mono len (fun cdv A outer s H E hr gu => ?_) h
  have hu1 := hu_of hr
  have hu2 := hu_big hr
  exact (dss_cons (ds_set (i := 3) sc_l_pattern.nd rfl (by first | exact Or.inl rfl | exact Or.inr rfl) (de_call G_l_next (hr.mono (by omega)) gu (by rfl) T.m_l_next T.F_l_next.kp T.d_l_next (da_cons (dv 0) (da_cons de_int da_nil))))
    (dss_cons (ds_if (DWt.pt (dw_or (dt_cmp (od_eq hr.units) (dv 2) de_int (nomark _)) (dw_or1 (dt_cmp od_lt (dv 3) de_int (nomark _)))))
      (dss_one (ds_ret (de_call G_l_leaf (hr.mono (by omega)) gu (by rfl) T.m_l_leaf T.F_l_leaf.kp T.d_l_leaf (da_cons (dv 0) (da_cons (dv 1) da_nil)))))
      dss_nil)
    (dss_cons (ds_if (dt_cmp od_lt (dv 3) de_int (nomark _))
      (dss_one (ds_ret (de_tup (da_cons de_str (da_cons (de_call G_l_pattern (hr.mono (Nat.le_refl _)) gu (by rfl) T.m_l_pattern T.F_l_pattern.kp T.d_l_pattern (da_cons (dv 0) (da_cons (dv 1) (da_cons (de_op od_sub (dv 2) de_int) da_nil)))) da_nil)))))
      dss_nil)
    (dss_cons (ds_set (i := 4) sc_l_pattern.nd rfl (by first | exact Or.inl rfl | exact Or.inr rfl) (de_ix (ixD_any hu2) (de_lstF (da_cons de_int (da_cons de_int (da_cons de_int (da_cons de_int (da_cons de_int (da_cons de_int da_nil))))))) (de_call G_l_next (hr.mono (by omega)) gu (by rfl) T.m_l_next T.F_l_next.kp T.d_l_next (da_cons (dv 0) (da_cons de_int da_nil)))))
    (dss_cons (ds_set (i := 5) sc_l_pattern.nd rfl (by first | exact Or.inl rfl | exact Or.inr rfl) (de_callTy cd_tuple (by rfl) T.b_tuple (by decide +kernel) (da_cons (de_fz (de_lc (own := [("_law_k", 6)]) rfl sc_l_pattern.nd (di_rng1 (by rfl) T.b_range (da_cons (dv 4) da_nil)) (blkOk_by (own := [("_law_k", 6)]) (N := ["_law_feed_here", "_law_names_here", "_law_deep", "_law_way", "_law_many", "_law_parts", "_law_k"]) (sc := defScope s_l_pattern) (by decide +kernel)) ⟨fun _ _ _ _ _ => (dw_name (i := 6) sc_l_pattern.nd rfl (by first | exact Or.inl rfl | exact Or.inr rfl) (by decide)), fun _ _ _ _ _ => dts_nil, fun _ _ _ _ _ => (de_call G_l_pattern (hr.mono (Nat.le_refl _)) gu (by rfl) T.m_l_pattern T.F_l_pattern.kp T.d_l_pattern (da_cons (dv 0) (da_cons (dv 1) (da_cons (de_op od_sub (dv 2) de_int) da_nil))))⟩)) da_nil)))
    (dss_one (ds_ret (de_tup (da_cons (de_ix (ixD_any hu2) (de_lstF (da_cons de_str (da_cons de_str da_nil))) (de_op od_mod (dv 3) de_int)) (da_cons (dv 5) da_nil))))))))))

/-! words_of -/
def t_words_of (spR : DSp) : DTS := (dSeq (dIf (dTest (dOp (dEq false) (dOp dIxS (dVar 0) (dC (.int 0))) (dC (.str "step"))))
      (dRet (dLstF (dCons (dOp dIxS (dVar 0) (dC (.int 1))) (dCons (dOp dIxS (dVar 0) (dC (.int 2))) dNil))))
      dNx)
    (dSeq (dAsg (dLst (dCons (dOp dIxS (dVar 0) (dC (.int 0))) dNil)) (dGN 1))
    (dSeq (dIf (dTest (dOp (dIn false) (dOp dIxS (dVar 0) (dC (.int 0))) (dTup (dCons (dC (.str "at")) (dCons (dC (.str "off")) dNil)))))
      (dDrop (dBM "list" mAppend (dVar 1) (dCons (dOp dIxS (dVar 0) (dC (.int 1))) dNil)))
      dNx)
    (dSeq (dIf (dTest (dOp (dIn false) (dOp dIxS (dVar 0) (dC (.int 0))) (dTup (dCons (dC (.str "then")) (dCons (dC (.str "either")) dNil)))))
      (dDrop (dBM "list" mAppend (dVar 1) (dCons (dCB cStr (dCons (dCB cLen (dCons (dOp dIxS (dVar 0) (dC (.int 1))) dNil)) dNil)) dNil)))
      dNx)
    (dSeq (dFor (dSeqI (dCall sp_parts_of (dCons (dVar 0) dNil))) (dGN 2)
      (dDrop (dBM "list" mExtend (dVar 1) (dCons (dCall spR (dCons (dVar 2) dNil)) dNil))))
    (dRet (dVar 1)))))))
abbrev N_words_of : List Str := ["pattern", "words", "part"]
theorem ok_words_of {P : Program} {w : World} {K : PySem.W.Frag} {mg : Str → Option Value} {base : Heap} (T : Txt K mg) (G_parts_of : DFn P w K mg base 1 T.a_parts_of T.f_parts_of ["pattern"] sp_parts_of) (n : Nat) {spR : DSp} (G_words_of : DFn P w K mg base (1 + n) T.a_words_of T.f_words_of ["pattern"] spR) {sp : DSp}
    (mono : SpMono sp) (len : ∀ ds S Q E, sp ds S Q E → ds.length = 1)
    (h : ∀ ds S Q E, sp ds S Q E → (t_words_of spR) (dEnd Q E) (dstart ["pattern", "words", "part"] ds) S) : DFn P w K mg base (1 + n + 1) T.a_words_of T.f_words_of ["pattern"] sp := by
  refine dfn_of2 (t := (t_words_of spR)) T.F_words_of sc_words_of mono len (fun cdv A outer s H E hr gu => ?_) h
  have hu1 := hu_of hr
  have hu2 := hu_big hr
  exact (dss_cons (ds_if (dt_cmp (od_eq hr.units) (de_ix (ixD_any hu2) (dv 0) de_int) de_str (nomark _))
      (dss_one (ds_ret (de_lstF (da_cons (de_ix (ixD_any hu2) (dv 0) de_int) (da_cons (de_ix (ixD_any hu2) (dv 0) de_int) da_nil)))))
      dss_nil)
    (dss_cons (ds_set (i := 1) sc_words_of.nd rfl (by first | exact Or.inl rfl | exact Or.inr rfl) (de_lst (da_cons (de_ix (ixD_any hu2) (dv 0) de_int) da_nil)))
    (dss_cons (ds_if (dt_cmp (od_in hu2) (de_ix (ixD_any hu2) (dv 0) de_int) (de_tup (da_cons de_str (da_cons de_str da_nil))) (by rfl))
      (dss_one (ds_expr (de_bm PySem.F.plainAttrs_list PySem.F.slot_list_append PySem.F.type_list_append md_append (dv 1) (da_cons (de_ix (ixD_any hu2) (dv 0) de_int) da_nil))))
      dss_nil)
    (dss_cons (ds_if (dt_cmp (od_in hu2) (de_ix (ixD_any hu2) (dv 0) de_int) (de_tup (da_cons de_str (da_cons de_str da_nil))) (by rfl))
      (dss_one (ds_expr (de_bm PySem.F.plainAttrs_list PySem.F.slot_list_append PySem.F.type_list_append md_append (dv 1) (da_cons (de_callTy cd_str (by rfl) T.b_str (by decide +kernel) (da_cons (de_callB cd_len (by rfl) T.b_len (by decide +kernel) (da_cons (de_ix (ixD_any hu2) (dv 0) de_int) da_nil)) da_nil)) da_nil))))
      dss_nil)
    (dss_cons (ds_for (passes_of rfl) rfl (di_seq (de_call G_parts_of (hr.mono (by omega)) gu (by rfl) T.m_parts_of T.F_parts_of.kp T.d_parts_of (da_cons (dv 0) da_nil))) (dg_name (i := 2) sc_words_of.nd rfl (by first | exact Or.inl rfl | exact Or.inr rfl))
      (dss_one (ds_expr (de_bm PySem.F.plainAttrs_list PySem.F.slot_list_extend PySem.F.type_list_extend md_extend (dv 1) (da_cons (de_call G_words_of (hr.mono (Nat.le_refl _)) gu (by rfl) T.m_words_of T.F_words_of.kp T.d_words_of (da_cons (dv 2) da_nil)) da_nil)))))
    (dss_one (ds_ret (dv 1))))))))

/-! shown -/
def t_shown : DTS := (dRet (dBM "str" mJoin (dC (.str " ")) (dCons (dCall (sp_words_of 20) (dCons (dVar 0) dNil)) dNil)))
abbrev N_shown : List Str := ["pattern"]
theorem ok_shown {P : Program} {w : World} {K : PySem.W.Frag} {mg : Str → Option Value} {base : Heap} (T : Txt K mg) (G_words_of : DFn P w K mg base 22 T.a_words_of T.f_words_of ["pattern"] (sp_words_of 20)) {sp : DSp}
    (mono : SpMono sp) (len : ∀ ds S Q E, sp ds S Q E → ds.length = 1)
    (h : ∀ ds S Q E, sp ds S Q E → t_shown (dEnd Q E) (dstart ["pattern"] ds) S) : DFn P w K mg base 23 T.a_shown T.f_shown ["pattern"] sp := by
  refine dfn_of2 (t := t_shown) T.F_shown sc_shown mono len (fun cdv A outer s H E hr gu => ?_) h
  have hu1 := hu_of hr
  have hu2 := hu_big hr
  exact (dss_one (ds_ret (de_bm PySem.F.plainAttrs_str PySem.F.slot_str_join PySem.F.type_str_join md_join de_str (da_cons (de_call G_words_of (hr.mono (by decide)) gu (by rfl) T.m_words_of T.F_words_of.kp T.d_words_of (da_cons (dv 0) da_nil)) da_nil))))

/-! Reader_pattern -/
def t_Reader_pattern (C_Reader : Addr) (spR : DSp) : DTS := (dSeq (dAsg (dMeth C_Reader "next_word" (sp_Reader_next_word C_Reader) (dVar 0) dNil) (dGN 2))
    (dSeq (dPutF C_Reader "parts_read" (dVar 0) (dOp dAddF (dFld C_Reader "parts_read" (dVar 0)) (dC (.int 1))))
    (dSeq (dDrop (dMeth C_Reader "ask_last" sp_Reader_ask_last (dVar 0) (dCons (dAndV (dOp (dIn false) (dVar 2) (dC (.tup [.str "stay", .str "on", .str "back", .str "at", .str "off", .str "then", .str "either", .str "many"]))) (dAndV (dOp rLe (dVar 1) (dC (.int 10))) (dOp rLe (dFld C_Reader "parts_read" (dVar 0)) (dC (.int 40))))) dNil)))
    (dSeq (dIf (dTest (dOp (dIn false) (dVar 2) (dC (.tup [.str "on", .str "back"]))))
      (dSeq (dAsg (dMeth C_Reader "next_word" (sp_Reader_next_word C_Reader) (dVar 0) dNil) (dGN 3))
    (dSeq (dDrop (dMeth C_Reader "ask_last" sp_Reader_ask_last (dVar 0) (dCons (dCall sp_is_word (dCons (dVar 3) dNil)) dNil)))
    (dRet (dTup (dCons (dC (.str "step")) (dCons (dVar 2) (dCons (dVar 3) dNil)))))))
      dNx)
    (dSeq (dIf (dTest (dOp (dIn false) (dVar 2) (dTup (dCons (dC (.str "at")) (dCons (dC (.str "off")) dNil)))))
      (dRet (dTup (dCons (dVar 2) (dCons (dMeth C_Reader "name_next" (sp_Reader_name_next C_Reader) (dVar 0) dNil) dNil))))
      dNx)
    (dSeq (dIf (dTest (dOp (dEq false) (dVar 2) (dC (.str "many"))))
      (dRet (dTup (dCons (dVar 2) (dCons (dMeth C_Reader "pattern" spR (dVar 0) (dCons (dOp dAddF (dVar 1) (dC (.int 1))) dNil)) dNil))))
      dNx)
    (dSeq (dIf (dTest (dOp (dEq false) (dVar 2) (dC (.str "stay"))))
      (dRet (dTup (dCons (dVar 2) dNil)))
      dNx)
    (dSeq (dAsg (dCall sp_number_of (dCons (dMeth C_Reader "next_word" (sp_Reader_next_word C_Reader) (dVar 0) dNil) dNil)) (dGN 4))
    (dSeq (dDrop (dMeth C_Reader "ask_last" sp_Reader_ask_last (dVar 0) (dCons (dAndV (dOp (dIsN true) (dVar 4) (dC .non)) (dOp rLe (dVar 4) (dC (.int 39)))) dNil)))
    (dRet (dTup (dCons (dVar 2) (dCons (dCB cTuple (dCons (dFz (dLc (dRng1 (dCons (dVar 4) dNil)) (dGN 5) dYes (dMeth C_Reader "pattern" spR (dVar 0) (dCons (dOp dAddF (dVar 1) (dC (.int 1))) dNil)) [5])) dNil)) dNil)))))))))))))
abbrev N_Reader_pattern : List Str := ["self", "deep", "head", "word", "many", "k"]
theorem ok_Reader_pattern {P : Program} {w : World} {K : PySem.W.Frag} {mg : Str → Option Value} {base : Heap} (T : Txt K mg) (G_number_of : DFn P w K mg base 1 T.a_number_of T.f_number_of ["word"] sp_number_of) (G_Reader_next_word : DFn P w K mg base 1 T.a_Reader_next_word T.f_Reader_next_word ["self"] (sp_Reader_next_word T.C_Reader)) (G_Reader_ask_last : DFn P w K mg base 1 T.a_Reader_ask_last T.f_Reader_ask_last ["self", "good"] sp_Reader_ask_last) (G_is_word : DFn P w K mg base 2 T.a_is_word T.f_is_word ["thing"] sp_is_word) (G_Reader_name_next : DFn P w K mg base 2 T.a_Reader_name_next T.f_Reader_name_next ["self"] (sp_Reader_name_next T.C_Reader)) (n : Nat) {spR : DSp} (G_Reader_pattern : DFn P w K mg base (2 + n) T.a_Reader_pattern T.f_Reader_pattern ["self", "deep"] spR) {sp : DSp}
    (mono : SpMono sp) (len : ∀ ds S Q E, sp ds S Q E → ds.length = 2)
    (h : ∀ ds S Q E, sp ds S Q E → (t_Reader_pattern T.C_Reader spR) (dEnd Q E) (dstart ["self", "deep", "head", "word", "many", "k"] ds) S) : DFn P w K mg base (2 + n + 1) T.a_Reader_pattern T.f_Reader_pattern ["self", "deep"] sp := by
  refine dfn_of2 (t := (t_Reader_pattern T.C_Reader spR)) T.F_Reader_pattern sc_Reader_pattern mono len (fun cdv A outer s H E hr gu => ?_) h
  have hu1 := hu_of hr
  have hu2 := hu_big hr
  exact (dss_cons (ds_set (i := 2) sc_Reader_pattern.nd rfl (by first | exact Or.inl rfl | exact Or.inr rfl) (de_meth0 (dv 0) T.c_Reader T.M_Reader_next_word G_Reader_next_word (hr.mono (by omega)) gu T.d_Reader_next_word))
    (dss_cons (ds_fput (dv 0) (de_op od_addF (de_fld (dv 0) T.c_Reader T.n_Reader_parts_read) de_int) T.c_Reader T.n_Reader_parts_read)
    (dss_cons (ds_expr (de_meth (dv 0) T.c_Reader T.M_Reader_ask_last G_Reader_ask_last (hr.mono (by omega)) gu T.d_Reader_ask_last (da_cons (de_and (de_cmp (od_in hu2) (dv 2) (de_gtup (by rfl) T.g_HEADS T.l_HEADS T.z_HEADS T.v_HEADS) (by rfl)) (de_and (de_cmp od_le (dv 1) (de_gint (by rfl) T.g_MOST_DEEP) (nomark _)) (de_one (de_cmp od_le (de_fld (dv 0) T.c_Reader T.n_Reader_parts_read) (de_gint (by rfl) T.g_MOST_PARTS) (nomark _))))) da_nil)))
    (dss_cons (ds_if (dt_cmp (od_in hu2) (dv 2) (de_gtup (by rfl) T.g_SIDES T.l_SIDES T.z_SIDES T.v_SIDES) (by rfl))
      (dss_cons (ds_set (i := 3) sc_Reader_pattern.nd rfl (by first | exact Or.inl rfl | exact Or.inr rfl) (de_meth0 (dv 0) T.c_Reader T.M_Reader_next_word G_Reader_next_word (hr.mono (by omega)) gu T.d_Reader_next_word))
    (dss_cons (ds_expr (de_meth (dv 0) T.c_Reader T.M_Reader_ask_last G_Reader_ask_last (hr.mono (by omega)) gu T.d_Reader_ask_last (da_cons (de_call G_is_word (hr.mono (by omega)) gu (by rfl) T.m_is_word T.F_is_word.kp T.d_is_word (da_cons (dv 3) da_nil)) da_nil)))
    (dss_one (ds_ret (de_tup (da_cons de_str (da_cons (dv 2) (da_cons (dv 3) da_nil))))))))
      dss_nil)
    (dss_cons (ds_if (dt_cmp (od_in hu2) (dv 2) (de_tup (da_cons de_str (da_cons de_str da_nil))) (by rfl))
      (dss_one (ds_ret (de_tup (da_cons (dv 2) (da_cons (de_meth0 (dv 0) T.c_Reader T.M_Reader_name_next G_Reader_name_next (hr.mono (by omega)) gu T.d_Reader_name_next) da_nil)))))
      dss_nil)
    (dss_cons (ds_if (dt_cmp (od_eq hr.units) (dv 2) de_str (nomark _))
      (dss_one (ds_ret (de_tup (da_cons (dv 2) (da_cons (de_meth (dv 0) T.c_Reader T.M_Reader_pattern G_Reader_pattern (hr.mono (Nat.le_refl _)) gu T.d_Reader_pattern (da_cons (de_op od_addF (dv 1) de_int) da_nil)) da_nil)))))
      dss_nil)
    (dss_cons (ds_if (dt_cmp (od_eq hr.units) (dv 2) de_str (nomark _))
      (dss_one (ds_ret (de_tup (da_cons (dv 2) da_nil))))
      dss_nil)
    (dss_cons (ds_set (i := 4) sc_Reader_pattern.nd rfl (by first | exact Or.inl rfl | exact Or.inr rfl) (de_call G_number_of (hr.mono (by omega)) gu (by rfl) T.m_number_of T.F_number_of.kp T.d_number_of (da_cons (de_meth0 (dv 0) T.c_Reader T.M_Reader_next_word G_Reader_next_word (hr.mono (by omega)) gu T.d_Reader_next_word) da_nil)))
    (dss_cons (ds_expr (de_meth (dv 0) T.c_Reader T.M_Reader_ask_last G_Reader_ask_last (hr.mono (by omega)) gu T.d_Reader_ask_last (da_cons (de_and (de_cmp od_isnt (dv 4) de_non (nomark _)) (de_one (de_cmp od_le (dv 4) (de_gint (by rfl) T.g_MOST_WITHIN) (nomark _)))) da_nil)))
    (dss_one (ds_ret (de_tup (da_cons (dv 2) (da_cons (de_callTy cd_tuple (by rfl) T.b_tuple (by decide +kernel) (da_cons (de_fz (de_lc (own := [("k", 5)]) rfl sc_Reader_pattern.nd (di_rng1 (by rfl) T.b_range (da_cons (dv 4) da_nil)) (blkOk_by (own := [("k", 5)]) (N := ["self", "deep", "head", "word", "many", "k"]) (sc := defScope s_Reader_pattern) (by decide +kernel)) ⟨fun _ _ _ _ _ => (dw_name (i := 5) sc_Reader_pattern.nd rfl (by first | exact Or.inl rfl | exact Or.inr rfl) (by decide)), fun _ _ _ _ _ => dts_nil, fun _ _ _ _ _ => (de_meth (dv 0) T.c_Reader T.M_Reader_pattern G_Reader_pattern (hr.mono (Nat.le_refl _)) gu T.d_Reader_pattern (da_cons (de_op od_addF (dv 1) de_int) da_nil))⟩)) da_nil)) da_nil))))))))))))))

/-! read_pattern -/
def t_read_pattern (C_Reader : Addr) : DTS := (dSeq (dAsg (dMake C_Reader (sp_Reader_init C_Reader) (dCons (dBM "str" mSplit (dVar 0) (dCons (dC (.str " ")) dNil)) (dCons (dC (.int 0)) dNil))) (dGN 1))
    (dSeq (dAsg (dMeth C_Reader "pattern" (sp_Reader_pattern C_Reader 20) (dVar 1) (dCons (dC (.int 1)) dNil)) (dGN 2))
    (dSeq (dDrop (dMeth C_Reader "ask_end" (sp_Reader_ask_end C_Reader) (dVar 1) dNil))
    (dRet (dVar 2)))))
abbrev N_read_pattern : List Str := ["text", "reader", "pattern"]
theorem ok_read_pattern {P : Program} {w : World} {K : PySem.W.Frag} {mg : Str → Option Value} {base : Heap} (T : Txt K mg) (G_Reader_init : DFn P w K mg base 1 T.a_Reader_init T.f_Reader_init ["self", "words", "at"] (sp_Reader_init T.C_Reader)) (G_Reader_ask_end : DFn P w K mg base 1 T.a_Reader_ask_end T.f_Reader_ask_end ["self"] (sp_Reader_ask_end T.C_Reader)) (G_Reader_pattern : DFn P w K mg base 23 T.a_Reader_pattern T.f_Reader_pattern ["self", "deep"] (sp_Reader_pattern T.C_Reader 20)) {sp : DSp}
    (mono : SpMono sp) (len : ∀ ds S Q E, sp ds S Q E → ds.length = 1)
    (h : ∀ ds S Q E, sp ds S Q E → (t_read_pattern T.C_Reader) (dEnd Q E) (dstart ["text", "reader", "pattern"] ds) S) : DFn P w K mg base 24 T.a_read_pattern T.f_read_pattern ["text"] sp := by
  refine dfn_of2 (t := (t_read_pattern T.C_Reader)) T.F_read_pattern sc_read_pattern mono len (fun cdv A outer s H E hr gu => ?_) h
  have hu1 := hu_of hr
  have hu2 := hu_big hr
  exact (dss_cons (ds_set (i := 1) sc_read_pattern.nd rfl (by first | exact Or.inl rfl | exact Or.inr rfl) (de_make T.k_Reader G_Reader_init (hr.mono (by decide)) gu (by rfl) T.g_Reader T.d_Reader_init (da_cons (de_bm PySem.F.plainAttrs_str PySem.F.slot_str_split PySem.F.type_str_split md_split (dv 0) (da_cons de_str da_nil)) (da_cons de_int da_nil))))
    (dss_cons (ds_set (i := 2) sc_read_pattern.nd rfl (by first | exact Or.inl rfl | exact Or.inr rfl) (de_meth (dv 1) T.c_Reader T.M_Reader_pattern G_Reader_pattern (hr.mono (by decide)) gu T.d_Reader_pattern (da_cons de_int da_nil)))
    (dss_cons (ds_expr (de_meth0 (dv 1) T.c_Reader T.M_Reader_ask_end G_Reader_ask_end (hr.mono (by decide)) gu T.d_Reader_ask_end))
    (dss_one (ds_ret (dv 2))))))
theorem r_parts_of (ds S Q E) (h : sp_parts_of ds S Q E) : t_parts_of (dEnd Q E) (dstart N_parts_of ds) S := by
  obtain ⟨p, rfl, h⟩ := h
  cases p with
  | stay => simp [t_parts_of, dstart, ptD, inF]; exact .same h
  | step b w => simp [t_parts_of, dstart, ptD, inF]; exact .same h
  | mark b m => cases b <;> simp [t_parts_of, dstart, ptD, inF] <;> exact .same h
  | many q => simp [t_parts_of, dstart, ptD, inF]; exact .same h
  | seq b ps => cases b <;> simp [t_parts_of, dstart, ptD, inF] <;> exact .same h
end K10
set_option maxRecDepth 100000
set_option maxHeartbeats 4000000
namespace K10
open PySem PySem.Spec L2 Dt Sh

/-! law -/
def t_law (C_Reader : Addr) : DTS := (dSeq (dAsg (dCall sp_l_feed (dCons (dCall sp_l_cell_at (dCons (dVar 0) (dCons (dC (.int 0)) dNil))) dNil)) (dGN 1))
    (dSeq (dAsg (dLstF (dCons (dLstF dNil) (dCons (dCall sp_l_names (dCons (dVar 1) (dCons (dC (.int 4)) dNil))) (dCons (dCall sp_l_names (dCons (dVar 1) (dCons (dC (.int 4)) dNil))) dNil)))) (dGN 2))
    (dSeq (dFor (dRng1 (dCons (dOp dAddF (dC (.int 1)) (dCB cMin2 (dCons (dC (.int 16)) (dCons (dCB cLen (dCons (dVar 0) dNil)) dNil)))) dNil)) (dGN 3)
      (dSeq (dAsg (dCall sp_l_feed (dCons (dCall sp_l_cell_at (dCons (dVar 0) (dCons (dOp dAddF (dC (.int 1)) (dVar 3)) dNil))) dNil)) (dGN 1))
    (dSeq (dAsg (dCall (sp_l_pattern 3) (dCons (dVar 1) (dCons (dVar 2) (dCons (dC (.int 3)) dNil)))) (dGN 4))
    (dSeq (dIf (dTest (dOp (dEq false) (dCall sp_l_next (dCons (dVar 1) (dCons (dC (.int 8)) dNil))) (dC (.int 0))))
      (dAsg (dCall sp_l_great (dCons (dVar 1) (dCons (dVar 2) dNil))) (dGN 4))
      dNx)
    (dSeq (dAsg (dBM "str" mJoin (dC (.str " ")) (dCons (dCall sp_l_words (dCons (dVar 4) dNil)) dNil)) (dGN 5))
    (dSeq (dAsg (dCall sp_shown (dCons (dVar 4) dNil)) (dGN 6))
    (dSeq (dIf (dOr (dNot (dTest (dIsi "str" (dVar 6)))) (dTest (dOp (dEq true) (dVar 6) (dVar 5))))
      (dRet (dC (.bl false)))
      dNx)
    (dIf (dTest (dOp (dEq true) (dCB cRepr (dCons (dCall (sp_read_pattern C_Reader) (dCons (dVar 5) dNil)) dNil)) (dCB cRepr (dCons (dVar 4) dNil))))
      (dRet (dC (.bl false)))
      dNx))))))))
    (dRet (dC (.bl true))))))
abbrev N_law : List Str := ["_law_script", "_law_feed_here", "_law_names_here", "_law_k", "_law_pattern_here", "_law_text", "_law_found"]
theorem ok_law {P : Program} {w : World} {K : PySem.W.Frag} {mg : Str → Option Value} {base : Heap} (T : Txt K mg) (G_l_cell_at : DFn P w K mg base 1 T.a_l_cell_at T.f_l_cell_at ["_law_script", "_law_k"] sp_l_cell_at) (G_l_feed : DFn P w K mg base 1 T.a_l_feed T.f_l_feed ["_law_cell"] sp_l_feed) (G_l_next : DFn P w K mg base 1 T.a_l_next T.f_l_next ["_law_feed_here", "_law_many"] sp_l_next) (G_l_words : DFn P w K mg base 1 T.a_l_words T.f_l_words ["_law_pattern_here"] sp_l_words) (G_l_names : DFn P w K mg base 2 T.a_l_names T.f_l_names ["_law_feed_here", "_law_many"] sp_l_names) (G_l_great : DFn P w K mg base 3 T.a_l_great T.f_l_great ["_law_feed_here", "_law_names_here"] sp_l_great) (G_l_pattern : DFn P w K mg base 6 T.a_l_pattern T.f_l_pattern ["_law_feed_here", "_law_names_here", "_law_deep"] (sp_l_pattern 3)) (G_shown : DFn P w K mg base 23 T.a_shown T.f_shown ["pattern"] sp_shown) (G_read_pattern : DFn P w K mg base 24 T.a_read_pattern T.f_read_pattern ["text"] (sp_read_pattern T.C_Reader)) {sp : DSp}
    (mono : SpMono sp) (len : ∀ ds S Q E, sp ds S Q E → ds.length = 1)
    (h : ∀ ds S Q E, sp ds S Q E → (t_law T.C_Reader) (dEnd Q E) (dstart ["_law_script", "_law_feed_here", "_law_names_here", "_law_k", "_law_pattern_here", "_law_text", "_law_found"] ds) S) : DFn P w K mg base 25 T.a_law T.f_law ["_law_script"] sp := by
  refine dfn_of2 (t := (t_law T.C_Reader)) T.F_law sc_law mono len (fun cdv A outer s H E hr gu => ?_) h
  have hu1 := hu_of hr
  have hu2 := hu_big hr
  exact (dss_cons (ds_set (i := 1) sc_law.nd rfl (by first | exact Or.inl rfl | exact Or.inr rfl) (de_call G_l_feed (hr.mono (by decide)) gu (by rfl) T.m_l_feed T.F_l_feed.kp T.d_l_feed (da_cons (de_call G_l_cell_at (hr.mono (by decide)) gu (by rfl) T.m_l_cell_at T.F_l_cell_at.kp T.d_l_cell_at (da_cons (dv 0) (da_cons de_int da_nil))) da_nil)))
    (dss_cons (ds_set (i := 2) sc_law.nd rfl (by first | exact Or.inl rfl | exact Or.inr rfl) (de_lstF (da_cons (de_lstF da_nil) (da_cons (de_call G_l_names (hr.mono (by decide)) gu (by rfl) T.m_l_names T.F_l_names.kp T.d_l_names (da_cons (dv 1) (da_cons de_int da_nil))) (da_cons (de_call G_l_names (hr.mono (by decide)) gu (by rfl) T.m_l_names T.F_l_names.kp T.d_l_names (da_cons (dv 1) (da_cons de_int da_nil))) da_nil)))))
    (dss_cons (ds_for (passes_of rfl) rfl (di_rng1 (by rfl) T.b_range (da_cons (de_op od_addF de_int (de_callB (cd_min2 rfl) (by rfl) T.b_min (by decide +kernel) (da_cons de_int (da_cons (de_callB cd_len (by rfl) T.b_len (by decide +kernel) (da_cons (dv 0) da_nil)) da_nil)))) da_nil)) (dg_name (i := 3) sc_law.nd rfl (by first | exact Or.inl rfl | exact Or.inr rfl))
      (dss_cons (ds_set (i := 1) sc_law.nd rfl (by first | exact Or.inl rfl | exact Or.inr rfl) (de_call G_l_feed (hr.mono (by decide)) gu (by rfl) T.m_l_feed T.F_l_feed.kp T.d_l_feed (da_cons (de_call G_l_cell_at (hr.mono (by decide)) gu (by rfl) T.m_l_cell_at T.F_l_cell_at.kp T.d_l_cell_at (da_cons (dv 0) (da_cons (de_op od_addF de_int (dv 3)) da_nil))) da_nil)))
    (dss_cons (ds_set (i := 4) sc_law.nd rfl (by first | exact Or.inl rfl | exact Or.inr rfl) (de_call G_l_pattern (hr.mono (by decide)) gu (by rfl) T.m_l_pattern T.F_l_pattern.kp T.d_l_pattern (da_cons (dv 1) (da_cons (dv 2) (da_cons de_int da_nil)))))
    (dss_cons (ds_if (dt_cmp (od_eq hr.units) (de_call G_l_next (hr.mono (by decide)) gu (by rfl) T.m_l_next T.F_l_next.kp T.d_l_next (da_cons (dv 1) (da_cons de_int da_nil))) de_int (nomark _))
      (dss_one (ds_set (i := 4) sc_law.nd rfl (by first | exact Or.inl rfl | exact Or.inr rfl) (de_call G_l_great (hr.mono (by decide)) gu (by rfl) T.m_l_great T.F_l_great.kp T.d_l_great (da_cons (dv 1) (da_cons (dv 2) da_nil)))))
      dss_nil)
    (dss_cons (ds_set (i := 5) sc_law.nd rfl (by first | exact Or.inl rfl | exact Or.inr rfl) (de_bm PySem.F.plainAttrs_str PySem.F.slot_str_join PySem.F.type_str_join md_join de_str (da_cons (de_call G_l_words (hr.mono (by decide)) gu (by rfl) T.m_l_words T.F_l_words.kp T.d_l_words (da_cons (dv 4) da_nil)) da_nil)))
    (dss_cons (ds_set (i := 6) sc_law.nd rfl (by first | exact Or.inl rfl | exact Or.inr rfl) (de_call G_shown (hr.mono (by decide)) gu (by rfl) T.m_shown T.F_shown.kp T.d_shown (da_cons (dv 4) da_nil)))
    (dss_cons (ds_if (DWt.pt (dw_or (dt_not (dt_val (de_isi (T := "str") (by decide) (dv 6) (by rfl) T.b_isinstance (by rfl) T.b_str (by decide +kernel)))) (dw_or1 (dt_cmp (od_ne hr.units) (dv 6) (dv 5) (nomark _)))))
      (dss_one (ds_ret de_bl))
      dss_nil)
    (dss_one (ds_if (dt_cmp (od_ne hr.units) (de_callB (cd_repr hu2 gu) (by rfl) T.b_repr (by decide +kernel) (da_cons (de_call G_read_pattern (hr.mono (by decide)) gu (by rfl) T.m_read_pattern T.F_read_pattern.kp T.d_read_pattern (da_cons (dv 5) da_nil)) da_nil)) (de_callB (cd_repr hu2 gu) (by rfl) T.b_repr (by decide +kernel) (da_cons (dv 4) da_nil)) (nomark _))
      (dss_one (ds_ret de_bl))
      dss_nil)))))))))
    (dss_one (ds_ret de_bl)))))
def sp_law : DSp := fun ds S Q _ => ∃ ns : List Int, ds = [.rol (ns.map D.int)] ∧ ns.length ≤ 63 ∧ ∀ S', Q (.bl true) S'
theorem sp_law_mono : SpMono sp_law := fun ds S Q Q' E E' k _ ⟨ns, h1, h2, h⟩ => ⟨ns, h1, h2, fun S' => k _ _ (h S')⟩
theorem r_law {C : Addr} (ds S Q E) (h : sp_law ds S Q E) : t_law C (dEnd Q E) (dstart N_law ds) S := by
  obtain ⟨ns, rfl, hn, h⟩ := h
  unfold t_law
  refine dSeq_gen fun R hR => ?_
  simp [dstart]
  refine ⟨ns, 0, rfl, by decide, _, rfl, fun p o hp fo => ?_⟩
  subst hR
  refine dSeq_gen fun R hR => ?_
  simp
  refine ⟨p, 4, 0, o, rfl, by decide, upo_same, fo, by decide, fun ws o1 l1 n1 d1 fo1 => ?_⟩
  refine ⟨p, 4, 12, o1, rfl, by decide, upo_same, by simpa using fo1, by decide, fun ms o2 l2 n2 d2 fo2 => ?_⟩
  subst hR
  have nm : Nms ws ms := ⟨by omega, by omega, by omega, by omega, n1, n2⟩
  refine dSeqFor_gen fun B R hB hR => ?_
  simp
  refine ⟨by constructor <;> split <;> omega, ?_⟩
  refine loop_inv (fun i τ S' => ∃ x1 x3 x4 x5 x6, τ = [some (.rol (ns.map D.int)), x1, some (nmsD (.rol []) ws ms), x3, x4, x5, x6]) ⟨_, _, _, _, _, rfl⟩ (fun _ _ _ _ _ => trivial) ?_ ?_
  · rintro k d τ S1 N hd ⟨x1, x3, x4, x5, x6, rfl⟩ hN
    obtain ⟨hk, rfl⟩ := rgK_get hd
    clear hd
    have hk : k < 64 := by revert hk; split <;> omega
    simp only [dGN, List.set]
    subst hB
    refine dSeq_gen fun R2 hR2 => ?_
    simp
    refine ⟨ns, 1 + k, by simp, by omega, _, rfl, fun f o3 hf fo3 => ?_⟩
    subst hR2
    refine dSeq_gen fun R2 hR2 => ?_
    simp
    refine ⟨f, .rol [], 3, ws, ms, 0, o3, rfl, nm, by decide, upo_same, fo3, by decide, fun d o4 pt4 fo4 => ?_⟩
    obtain ⟨q4, rfl, ok4, dp4, al4⟩ := pat_pt nm 3 pt4
    have al4' : q4.all.length ≤ 40 := al4
    subst hR2
    simp only [upo_upo]
    refine dSeqIf_gen fun R3 R4 R5 e3 e4 e5 => ?_
    have J : ∀ (q : Pt) (S2 : DH), q.okP Nm → q.deep ≤ 10 → q.all.length ≤ 40 → R5 { nx := N, rt := Rt Q, bk := R (dEnd Q E), ct := N, xe := fun C fs x S' => ∃ S'', Dt.Sub S'' S' ∧ E C fs S'' } [some (D.rol (List.map D.int ns)), some (.ref f), some (nmsD (D.rol []) ws ms), some (D.int ↑k), some (ptD q), x5, x6] S2 := by
      intro q S2 ok dp al
      have hw := wds_wo q ok al
      have s1 := wo_sum hw
      have s2 := q.wds_len
      have rp := pt_Rp ok (by omega) (by omega)
      subst e5
      refine dSeq_gen fun R hR => ?_
      simp
      refine ⟨q, rfl, ok, dp, al, ?_⟩
      refine ⟨_, _, q.wds, rfl, rfl, .inl rfl, ?_, ?_⟩
      · have e : (Str.ofString " ").length = 1 := by decide +kernel
        rw [e]
        omega
      rw [show Txt.join (Str.ofString " ") q.wds = shownS q from rfl]
      subst hR
      refine dSeq_gen fun R hR => ?_
      simp
      refine ⟨q, rfl, ok, dp, al, ?_⟩
      subst hR
      refine dSeq_gen fun R hR => ?_
      simp
      subst hR
      simp
      refine ⟨q, rfl, ok, dp, al, fun S3 => ?_⟩
      refine cRepr_rp rp ?_
      refine cRepr_rp rp ?_
      simp
      exact hN _ _ ⟨_, _, _, _, _, rfl⟩
    simp
    refine ⟨f, 8, 0 + costP 3, o4, rfl, by decide, by decide, upo_same, fo4, by decide, fun i o5 h1 h2 fo5 => ?_⟩
    simp
    split
    · subst e3
      simp
      refine ⟨f, .rol [], ws, ms, 0 + costP 3 + 1, o5, rfl, nm, upo_same, fo5, by decide, fun q o6 ok dp al fo6 => ?_⟩
      exact J _ _ ok dp al
    · subst e4
      simp
      exact J _ _ ok4 (by omega) al4'
  · rintro τ S1 ⟨x1, x3, x4, x5, x6, rfl⟩
    subst hR
    simp
    exact .same (h _)
end K10
set_option maxRecDepth 100000
set_option maxHeartbeats 4000000
namespace K10
open PySem PySem.Spec L2 Dt Sh

section
theorem all_mk {l : PySem.W.OpenLaw} {w : World} {K : PySem.W.Frag} {h : Heap} {mg : Str → Option Value} {fa : Addr} (X : K.In h) (G : h.Ns mainGlobals mg) (hfa : mg "law" = some (.ref fa))
    {f0 f1 f2 f3 f4 f5 f6 f7 f8 f9 f10 f11 f12 f13 f14 f15 f16 f17 f18 f19 f20 f21 : Addr} {od0 an0 od1 an1 od2 an2 od3 an3 od4 an4 od5 an5 od6 an6 od7 an7 od8 an8 od9 an9 od10 an10 od11 an11 od12 an12 od13 an13 od14 an14 od15 an15 od16 an16 od17 an17 od18 an18 od19 an19 od20 an20 od21 an21 : Option Addr} {sl0 sl1 sl2 sl3 sl4 sl5 sl6 sl7 sl8 sl9 sl10 sl11 sl12 sl13 sl14 sl15 sl16 sl17 sl18 sl19 sl20 sl21 : Array (Option Value)} {oc0 kV0 dc0 pm0 cd0 ct0 oc1 kV1 dc1 pm1 cd1 ct1 oc2 kV2 dc2 pm2 cd2 ct2 oc3 kV3 dc3 pm3 cd3 ct3 oc4 kV4 dc4 pm4 cd4 ct4 oc5 kV5 dc5 pm5 cd5 ct5 oc6 kV6 dc6 pm6 cd6 ct6 oc7 kV7 dc7 pm7 cd7 ct7 oc8 kV8 dc8 pm8 cd8 ct8 oc9 kV9 dc9 pm9 cd9 ct9 oc10 kV10 dc10 pm10 cd10 ct10 oc11 kV11 dc11 pm11 cd11 ct11 oc12 kV12 dc12 pm12 cd12 ct12 oc13 kV13 dc13 pm13 cd13 ct13 oc14 kV14 dc14 pm14 cd14 ct14 oc15 kV15 dc15 pm15 cd15 ct15 oc16 kV16 dc16 pm16 cd16 ct16 oc17 kV17 dc17 pm17 cd17 ct17 oc18 kV18 dc18 pm18 cd18 ct18 oc19 kV19 dc19 pm19 cd19 ct19 oc20 kV20 dc20 pm20 cd20 ct20 oc21 kV21 dc21 pm21 cd21 ct21 : Value}
    {vC0 : Addr} (aC0 : PySem.W.nsIn K mainGlobals "Reader" = some (some (.ref vC0))) (pg0 : PySem.W.plainGet K vC0 Str.empty = true) (hd0 : PySem.W.hasDictIn K vC0 = true) (po0 : PySem.W.plainOver K vC0 = true) (sa0 : PySem.W.findIn K (.ref vC0) "__setattr__" = some (some (.builtin "object.__setattr__")))
    (mk0 : PySem.W.makesIn K vC0 = true) (kc0 : PySem.W.keepIn K (.ref vC0) = true)
    (nf0 : PySem.W.findIn K (.ref vC0) "at_word" = some none)
    (nf1 : PySem.W.findIn K (.ref vC0) "parts_read" = some none)
    (nf2 : PySem.W.findIn K (.ref vC0) "words_read" = some none)
    (a0 : PySem.W.nsIn K mainGlobals "is_name" = some (some (.ref f0))) (l0 : K.lookup f0 = some ⟨oc0, od0, .func (PySem.W.fnOf "is_name" "is_name" (defArgs s_is_name) (defBody s_is_name) (defScope s_is_name) .none kV0 dc0 pm0 an0 cd0 ct0), sl0⟩) (c0 : PySem.W.codeIn K cd0 "is_name" = true) (k0 : PySem.W.keepIn K (.ref f0) = true)
    (a1 : PySem.W.nsIn K mainGlobals "parts_of" = some (some (.ref f1))) (l1 : K.lookup f1 = some ⟨oc1, od1, .func (PySem.W.fnOf "parts_of" "parts_of" (defArgs s_parts_of) (defBody s_parts_of) (defScope s_parts_of) .none kV1 dc1 pm1 an1 cd1 ct1), sl1⟩) (c1 : PySem.W.codeIn K cd1 "parts_of" = true) (k1 : PySem.W.keepIn K (.ref f1) = true)
    (a2 : PySem.W.nsIn K mainGlobals "number_of" = some (some (.ref f2))) (l2 : K.lookup f2 = some ⟨oc2, od2, .func (PySem.W.fnOf "number_of" "number_of" (defArgs s_number_of) (defBody s_number_of) (defScope s_number_of) .none kV2 dc2 pm2 an2 cd2 ct2), sl2⟩) (c2 : PySem.W.codeIn K cd2 "number_of" = true) (k2 : PySem.W.keepIn K (.ref f2) = true)
    (a3 : PySem.W.findIn K (.ref vC0) "__init__" = some (some (.ref f3))) (i3 : PySem.W.isFn K (.ref f3) = true) (l3 : K.lookup f3 = some ⟨oc3, od3, .func (PySem.W.fnOf "__init__" "Reader.__init__" (defArgs s_Reader_init) (defBody s_Reader_init) (defScope s_Reader_init) .none kV3 dc3 pm3 an3 cd3 ct3), sl3⟩) (c3 : PySem.W.codeIn K cd3 "Reader.__init__" = true) (k3 : PySem.W.keepIn K (.ref f3) = true)
    (a4 : PySem.W.findIn K (.ref vC0) "next_word" = some (some (.ref f4))) (i4 : PySem.W.isFn K (.ref f4) = true) (l4 : K.lookup f4 = some ⟨oc4, od4, .func (PySem.W.fnOf "next_word" "Reader.next_word" (defArgs s_Reader_next_word) (defBody s_Reader_next_word) (defScope s_Reader_next_word) .none kV4 dc4 pm4 an4 cd4 ct4), sl4⟩) (c4 : PySem.W.codeIn K cd4 "Reader.next_word" = true) (k4 : PySem.W.keepIn K (.ref f4) = true)
    (a5 : PySem.W.findIn K (.ref vC0) "ask_last" = some (some (.ref f5))) (i5 : PySem.W.isFn K (.ref f5) = true) (l5 : K.lookup f5 = some ⟨oc5, od5, .func (PySem.W.fnOf "ask_last" "Reader.ask_last" (defArgs s_Reader_ask_last) (defBody s_Reader_ask_last) (defScope s_Reader_ask_last) .none kV5 dc5 pm5 an5 cd5 ct5), sl5⟩) (c5 : PySem.W.codeIn K cd5 "Reader.ask_last" = true) (k5 : PySem.W.keepIn K (.ref f5) = true)
    (a6 : PySem.W.findIn K (.ref vC0) "ask_end" = some (some (.ref f6))) (i6 : PySem.W.isFn K (.ref f6) = true) (l6 : K.lookup f6 = some ⟨oc6, od6, .func (PySem.W.fnOf "ask_end" "Reader.ask_end" (defArgs s_Reader_ask_end) (defBody s_Reader_ask_end) (defScope s_Reader_ask_end) .none kV6 dc6 pm6 an6 cd6 ct6), sl6⟩) (c6 : PySem.W.codeIn K cd6 "Reader.ask_end" = true) (k6 : PySem.W.keepIn K (.ref f6) = true)
    (a7 : PySem.W.nsIn K mainGlobals "_law_cell_at" = some (some (.ref f7))) (l7 : K.lookup f7 = some ⟨oc7, od7, .func (PySem.W.fnOf "_law_cell_at" "_law_cell_at" (defArgs s_l_cell_at) (defBody s_l_cell_at) (defScope s_l_cell_at) .none kV7 dc7 pm7 an7 cd7 ct7), sl7⟩) (c7 : PySem.W.codeIn K cd7 "_law_cell_at" = true) (k7 : PySem.W.keepIn K (.ref f7) = true)
    (a8 : PySem.W.nsIn K mainGlobals "_law_feed" = some (some (.ref f8))) (l8 : K.lookup f8 = some ⟨oc8, od8, .func (PySem.W.fnOf "_law_feed" "_law_feed" (defArgs s_l_feed) (defBody s_l_feed) (defScope s_l_feed) .none kV8 dc8 pm8 an8 cd8 ct8), sl8⟩) (c8 : PySem.W.codeIn K cd8 "_law_feed" = true) (k8 : PySem.W.keepIn K (.ref f8) = true)
    (a9 : PySem.W.nsIn K mainGlobals "_law_next" = some (some (.ref f9))) (l9 : K.lookup f9 = some ⟨oc9, od9, .func (PySem.W.fnOf "_law_next" "_law_next" (defArgs s_l_next) (defBody s_l_next) (defScope s_l_next) .none kV9 dc9 pm9 an9 cd9 ct9), sl9⟩) (c9 : PySem.W.codeIn K cd9 "_law_next" = true) (k9 : PySem.W.keepIn K (.ref f9) = true)
    (a10 : PySem.W.nsIn K mainGlobals "_law_words" = some (some (.ref f10))) (l10 : K.lookup f10 = some ⟨oc10, od10, .func (PySem.W.fnOf "_law_words" "_law_words" (defArgs s_l_words) (defBody s_l_words) (defScope s_l_words) .none kV10 dc10 pm10 an10 cd10 ct10), sl10⟩) (c10 : PySem.W.codeIn K cd10 "_law_words" = true) (k10 : PySem.W.keepIn K (.ref f10) = true)
    (a11 : PySem.W.nsIn K mainGlobals "is_word" = some (some (.ref f11))) (l11 : K.lookup f11 = some ⟨oc11, od11, .func (PySem.W.fnOf "is_word" "is_word" (defArgs s_is_word) (defBody s_is_word) (defScope s_is_word) .none kV11 dc11 pm11 an11 cd11 ct11), sl11⟩) (c11 : PySem.W.codeIn K cd11 "is_word" = true) (k11 : PySem.W.keepIn K (.ref f11) = true)
    (a12 : PySem.W.findIn K (.ref vC0) "name_next" = some (some (.ref f12))) (i12 : PySem.W.isFn K (.ref f12) = true) (l12 : K.lookup f12 = some ⟨oc12, od12, .func (PySem.W.fnOf "name_next" "Reader.name_next" (defArgs s_Reader_name_next) (defBody s_Reader_name_next) (defScope s_Reader_name_next) .none kV12 dc12 pm12 an12 cd12 ct12), sl12⟩) (c12 : PySem.W.codeIn K cd12 "Reader.name_next" = true) (k12 : PySem.W.keepIn K (.ref f12) = true)
    (a13 : PySem.W.nsIn K mainGlobals "_law_names" = some (some (.ref f13))) (l13 : K.lookup f13 = some ⟨oc13, od13, .func (PySem.W.fnOf "_law_names" "_law_names" (defArgs s_l_names) (defBody s_l_names) (defScope s_l_names) .none kV13 dc13 pm13 an13 cd13 ct13), sl13⟩) (c13 : PySem.W.codeIn K cd13 "_law_names" = true) (k13 : PySem.W.keepIn K (.ref f13) = true)
    (a14 : PySem.W.nsIn K mainGlobals "_law_leaf" = some (some (.ref f14))) (l14 : K.lookup f14 = some ⟨oc14, od14, .func (PySem.W.fnOf "_law_leaf" "_law_leaf" (defArgs s_l_leaf) (defBody s_l_leaf) (defScope s_l_leaf) .none kV14 dc14 pm14 an14 cd14 ct14), sl14⟩) (c14 : PySem.W.codeIn K cd14 "_law_leaf" = true) (k14 : PySem.W.keepIn K (.ref f14) = true)
    (a15 : PySem.W.nsIn K mainGlobals "_law_great" = some (some (.ref f15))) (l15 : K.lookup f15 = some ⟨oc15, od15, .func (PySem.W.fnOf "_law_great" "_law_great" (defArgs s_l_great) (defBody s_l_great) (defScope s_l_great) .none kV15 dc15 pm15 an15 cd15 ct15), sl15⟩) (c15 : PySem.W.codeIn K cd15 "_law_great" = true) (k15 : PySem.W.keepIn K (.ref f15) = true)
    (a16 : PySem.W.nsIn K mainGlobals "_law_pattern" = some (some (.ref f16))) (l16 : K.lookup f16 = some ⟨oc16, od16, .func (PySem.W.fnOf "_law_pattern" "_law_pattern" (defArgs s_l_pattern) (defBody s_l_pattern) (defScope s_l_pattern) .none kV16 dc16 pm16 an16 cd16 ct16), sl16⟩) (c16 : PySem.W.codeIn K cd16 "_law_pattern" = true) (k16 : PySem.W.keepIn K (.ref f16) = true)
    (a17 : PySem.W.nsIn K mainGlobals "words_of" = some (some (.ref f17))) (l17 : K.lookup f17 = some ⟨oc17, od17, .func (PySem.W.fnOf "words_of" "words_of" (defArgs s_words_of) (defBody s_words_of) (defScope s_words_of) .none kV17 dc17 pm17 an17 cd17 ct17), sl17⟩) (c17 : PySem.W.codeIn K cd17 "words_of" = true) (k17 : PySem.W.keepIn K (.ref f17) = true)
    (a18 : PySem.W.nsIn K mainGlobals "shown" = some (some (.ref f18))) (l18 : K.lookup f18 = some ⟨oc18, od18, .func (PySem.W.fnOf "shown" "shown" (defArgs s_shown) (defBody s_shown) (defScope s_shown) .none kV18 dc18 pm18 an18 cd18 ct18), sl18⟩) (c18 : PySem.W.codeIn K cd18 "shown" = true) (k18 : PySem.W.keepIn K (.ref f18) = true)
    (a19 : PySem.W.findIn K (.ref vC0) "pattern" = some (some (.ref f19))) (i19 : PySem.W.isFn K (.ref f19) = true) (l19 : K.lookup f19 = some ⟨oc19, od19, .func (PySem.W.fnOf "pattern" "Reader.pattern" (defArgs s_Reader_pattern) (defBody s_Reader_pattern) (defScope s_Reader_pattern) .none kV19 dc19 pm19 an19 cd19 ct19), sl19⟩) (c19 : PySem.W.codeIn K cd19 "Reader.pattern" = true) (k19 : PySem.W.keepIn K (.ref f19) = true)
    (a20 : PySem.W.nsIn K mainGlobals "read_pattern" = some (some (.ref f20))) (l20 : K.lookup f20 = some ⟨oc20, od20, .func (PySem.W.fnOf "read_pattern" "read_pattern" (defArgs s_read_pattern) (defBody s_read_pattern) (defScope s_read_pattern) .none kV20 dc20 pm20 an20 cd20 ct20), sl20⟩) (c20 : PySem.W.codeIn K cd20 "read_pattern" = true) (k20 : PySem.W.keepIn K (.ref f20) = true)
    (a21 : PySem.W.nsIn K mainGlobals "law" = some (some (.ref f21))) (l21 : K.lookup f21 = some ⟨oc21, od21, .func (PySem.W.fnOf "law" "law" (defArgs s_law) (defBody s_law) (defScope s_law) .none kV21 dc21 pm21 an21 cd21 ct21), sl21⟩) (c21 : PySem.W.codeIn K cd21 "law" = true) (k21 : PySem.W.keepIn K (.ref f21) = true)
    {u0 u1 u2 u3 u4 u5 u6 : Tok}
    {ta0 : Addr} {tn0 : Nat} {to0 : Option Addr} {ts0 : Array (Option Value)} {tt0_0 tt0_1 tt0_2 tt0_3 tt0_4 tt0_5 tt0_6 tt0_7 : Tok}
    (gt0 : PySem.W.nsIn K mainGlobals "HEADS" = some (some (.ref ta0))) (lt0 : K.lookup ta0 = some ⟨.type "tuple", to0, .seq #[.str "stay" tt0_0, .str "on" tt0_1, .str "back" tt0_2, .str "at" tt0_3, .str "off" tt0_4, .str "then" tt0_5, .str "either" tt0_6, .str "many" tt0_7] tn0, ts0⟩)
    {ta1 : Addr} {tn1 : Nat} {to1 : Option Addr} {ts1 : Array (Option Value)} {tt1_0 tt1_1 : Tok}
    (gt1 : PySem.W.nsIn K mainGlobals "SIDES" = some (some (.ref ta1))) (lt1 : K.lookup ta1 = some ⟨.type "tuple", to1, .seq #[.str "on" tt1_0, .str "back" tt1_1] tn1, ts1⟩)
    (gg0 : PySem.W.nsIn K mainGlobals "ANY_WORD" = some (some (.str "*" u0)))
    (gg1 : PySem.W.nsIn K mainGlobals "FIGURES" = some (some (.str "0123456789" u1)))
    (gg2 : PySem.W.nsIn K mainGlobals "LETTERS" = some (some (.str "abcdefghijklmnopqrstuvwxyz" u2)))
    (gg3 : PySem.W.nsIn K mainGlobals "MOST_DEEP" = some (some (.int 10 u3)))
    (gg4 : PySem.W.nsIn K mainGlobals "MOST_PARTS" = some (some (.int 40 u4)))
    (gg5 : PySem.W.nsIn K mainGlobals "MOST_SIGNS" = some (some (.int 8 u5)))
    (gg6 : PySem.W.nsIn K mainGlobals "MOST_WITHIN" = some (some (.int 39 u6)))
    (z0 : PySem.W.nsIn K mainGlobals "all" = some none)
    (z1 : PySem.W.nsIn K mainGlobals "int" = some none)
    (z2 : PySem.W.nsIn K mainGlobals "isinstance" = some none)
    (z3 : PySem.W.nsIn K mainGlobals "len" = some none)
    (z4 : PySem.W.nsIn K mainGlobals "list" = some none)
    (z5 : PySem.W.nsIn K mainGlobals "max" = some none)
    (z6 : PySem.W.nsIn K mainGlobals "min" = some none)
    (z7 : PySem.W.nsIn K mainGlobals "range" = some none)
    (z8 : PySem.W.nsIn K mainGlobals "repr" = some none)
    (z9 : PySem.W.nsIn K mainGlobals "reversed" = some none)
    (z10 : PySem.W.nsIn K mainGlobals "str" = some none)
    (z11 : PySem.W.nsIn K mainGlobals "tuple" = some none)
    : ∃ fd : FuncData, (∀ (s : Shared) (v : Value), BindsTo s fd ⟨[v], []⟩ [("_law_script", v)]) ∧ ∀ base : Heap, K.In base → base.Ns mainGlobals mg → DFn l.prog w K mg base 25 fa fd ["_law_script"] sp_law := by
  have e := hfa.symm.trans (PySem.W.mg_of X G a21)
  cases e
  have F0 := fun_mk (st := s_is_name) l0 c0 k0
  have F1 := fun_mk (st := s_parts_of) l1 c1 k1
  have F2 := fun_mk (st := s_number_of) l2 c2 k2
  have F3 := fun_mk (st := s_Reader_init) l3 c3 k3
  have F4 := fun_mk (st := s_Reader_next_word) l4 c4 k4
  have F5 := fun_mk (st := s_Reader_ask_last) l5 c5 k5
  have F6 := fun_mk (st := s_Reader_ask_end) l6 c6 k6
  have F7 := fun_mk (st := s_l_cell_at) l7 c7 k7
  have F8 := fun_mk (st := s_l_feed) l8 c8 k8
  have F9 := fun_mk (st := s_l_next) l9 c9 k9
  have F10 := fun_mk (st := s_l_words) l10 c10 k10
  have F11 := fun_mk (st := s_is_word) l11 c11 k11
  have F12 := fun_mk (st := s_Reader_name_next) l12 c12 k12
  have F13 := fun_mk (st := s_l_names) l13 c13 k13
  have F14 := fun_mk (st := s_l_leaf) l14 c14 k14
  have F15 := fun_mk (st := s_l_great) l15 c15 k15
  have F16 := fun_mk (st := s_l_pattern) l16 c16 k16
  have F17 := fun_mk (st := s_words_of) l17 c17 k17
  have F18 := fun_mk (st := s_shown) l18 c18 k18
  have F19 := fun_mk (st := s_Reader_pattern) l19 c19 k19
  have F20 := fun_mk (st := s_read_pattern) l20 c20 k20
  have F21 := fun_mk (st := s_law) l21 c21 k21
  obtain ⟨T, e1, e2⟩ : ∃ T : Txt K mg, T.a_law = fa ∧ T.f_law = PySem.W.fnOf "law" "law" (defArgs s_law) (defBody s_law) (defScope s_law) .none kV21 dc21 pm21 an21 cd21 ct21 :=
    ⟨{ C_Reader := vC0, c_Reader := ⟨pg0, hd0, po0, sa0⟩, g_Reader := PySem.W.mg_of X G aC0,
       n_Reader_at_word := nf0,
       n_Reader_parts_read := nf1,
       n_Reader_words_read := nf2,
       a_is_name := f0, f_is_name := _, F_is_name := F0, m_is_name := PySem.W.mg_of X G a0, d_is_name := F0.binds (ps := ["thing"]) fun _ _ _ _ _ _ us hl => match us, hl with | [_], _ => rfl,
       a_parts_of := f1, f_parts_of := _, F_parts_of := F1, m_parts_of := PySem.W.mg_of X G a1, d_parts_of := F1.binds (ps := ["pattern"]) fun _ _ _ _ _ _ us hl => match us, hl with | [_], _ => rfl,
       a_number_of := f2, f_number_of := _, F_number_of := F2, m_number_of := PySem.W.mg_of X G a2, d_number_of := F2.binds (ps := ["word"]) fun _ _ _ _ _ _ us hl => match us, hl with | [_], _ => rfl,
       a_Reader_init := f3, f_Reader_init := _, F_Reader_init := F3, k_Reader := ⟨mk0, a3, i3, kc0⟩, d_Reader_init := F3.binds (ps := ["self", "words", "at"]) fun _ _ _ _ _ _ us hl => match us, hl with | [_, _, _], _ => rfl,
       a_Reader_next_word := f4, f_Reader_next_word := _, F_Reader_next_word := F4, M_Reader_next_word := ⟨a4, i4, k4⟩, d_Reader_next_word := F4.binds (ps := ["self"]) fun _ _ _ _ _ _ us hl => match us, hl with | [_], _ => rfl,
       a_Reader_ask_last := f5, f_Reader_ask_last := _, F_Reader_ask_last := F5, M_Reader_ask_last := ⟨a5, i5, k5⟩, d_Reader_ask_last := F5.binds (ps := ["self", "good"]) fun _ _ _ _ _ _ us hl => match us, hl with | [_, _], _ => rfl,
       a_Reader_ask_end := f6, f_Reader_ask_end := _, F_Reader_ask_end := F6, M_Reader_ask_end := ⟨a6, i6, k6⟩, d_Reader_ask_end := F6.binds (ps := ["self"]) fun _ _ _ _ _ _ us hl => match us, hl with | [_], _ => rfl,
       a_l_cell_at := f7, f_l_cell_at := _, F_l_cell_at := F7, m_l_cell_at := PySem.W.mg_of X G a7, d_l_cell_at := F7.binds (ps := ["_law_script", "_law_k"]) fun _ _ _ _ _ _ us hl => match us, hl with | [_, _], _ => rfl,
       a_l_feed := f8, f_l_feed := _, F_l_feed := F8, m_l_feed := PySem.W.mg_of X G a8, d_l_feed := F8.binds (ps := ["_law_cell"]) fun _ _ _ _ _ _ us hl => match us, hl with | [_], _ => rfl,
       a_l_next := f9, f_l_next := _, F_l_next := F9, m_l_next := PySem.W.mg_of X G a9, d_l_next := F9.binds (ps := ["_law_feed_here", "_law_many"]) fun _ _ _ _ _ _ us hl => match us, hl with | [_, _], _ => rfl,
       a_l_words := f10, f_l_words := _, F_l_words := F10, m_l_words := PySem.W.mg_of X G a10, d_l_words := F10.binds (ps := ["_law_pattern_here"]) fun _ _ _ _ _ _ us hl => match us, hl with | [_], _ => rfl,
       a_is_word := f11, f_is_word := _, F_is_word := F11, m_is_word := PySem.W.mg_of X G a11, d_is_word := F11.binds (ps := ["thing"]) fun _ _ _ _ _ _ us hl => match us, hl with | [_], _ => rfl,
       a_Reader_name_next := f12, f_Reader_name_next := _, F_Reader_name_next := F12, M_Reader_name_next := ⟨a12, i12, k12⟩, d_Reader_name_next := F12.binds (ps := ["self"]) fun _ _ _ _ _ _ us hl => match us, hl with | [_], _ => rfl,
       a_l_names := f13, f_l_names := _, F_l_names := F13, m_l_names := PySem.W.mg_of X G a13, d_l_names := F13.binds (ps := ["_law_feed_here", "_law_many"]) fun _ _ _ _ _ _ us hl => match us, hl with | [_, _], _ => rfl,
       a_l_leaf := f14, f_l_leaf := _, F_l_leaf := F14, m_l_leaf := PySem.W.mg_of X G a14, d_l_leaf := F14.binds (ps := ["_law_feed_here", "_law_names_here"]) fun _ _ _ _ _ _ us hl => match us, hl with | [_, _], _ => rfl,
       a_l_great := f15, f_l_great := _, F_l_great := F15, m_l_great := PySem.W.mg_of X G a15, d_l_great := F15.binds (ps := ["_law_feed_here", "_law_names_here"]) fun _ _ _ _ _ _ us hl => match us, hl with | [_, _], _ => rfl,
       a_l_pattern := f16, f_l_pattern := _, F_l_pattern := F16, m_l_pattern := PySem.W.mg_of X G a16, d_l_pattern := F16.binds (ps := ["_law_feed_here", "_law_names_here", "_law_deep"]) fun _ _ _ _ _ _ us hl => match us, hl with | [_, _, _], _ => rfl,
       a_words_of := f17, f_words_of := _, F_words_of := F17, m_words_of := PySem.W.mg_of X G a17, d_words_of := F17.binds (ps := ["pattern"]) fun _ _ _ _ _ _ us hl => match us, hl with | [_], _ => rfl,
       a_shown := f18, f_shown := _, F_shown := F18, m_shown := PySem.W.mg_of X G a18, d_shown := F18.binds (ps := ["pattern"]) fun _ _ _ _ _ _ us hl => match us, hl with | [_], _ => rfl,
       a_Reader_pattern := f19, f_Reader_pattern := _, F_Reader_pattern := F19, M_Reader_pattern := ⟨a19, i19, k19⟩, d_Reader_pattern := F19.binds (ps := ["self", "deep"]) fun _ _ _ _ _ _ us hl => match us, hl with | [_, _], _ => rfl,
       a_read_pattern := f20, f_read_pattern := _, F_read_pattern := F20, m_read_pattern := PySem.W.mg_of X G a20, d_read_pattern := F20.binds (ps := ["text"]) fun _ _ _ _ _ _ us hl => match us, hl with | [_], _ => rfl,
       a_law := fa, f_law := _, F_law := F21, m_law := PySem.W.mg_of X G a21, d_law := F21.binds (ps := ["_law_script"]) fun _ _ _ _ _ _ us hl => match us, hl with | [_], _ => rfl,
       a_HEADS := ta0, i_HEADS := _, n_HEADS := _, o_HEADS := _, s_HEADS := _, g_HEADS := PySem.W.mg_of X G gt0, l_HEADS := lt0, z_HEADS := (show 8 ≤ sizeLine by decide), v_HEADS := ⟨[.str "stay", .str "on", .str "back", .str "at", .str "off", .str "then", .str "either", .str "many"], .cons ⟨_, rfl⟩ (.cons ⟨_, rfl⟩ (.cons ⟨_, rfl⟩ (.cons ⟨_, rfl⟩ (.cons ⟨_, rfl⟩ (.cons ⟨_, rfl⟩ (.cons ⟨_, rfl⟩ (.cons ⟨_, rfl⟩ (.nil)))))))), fun H => RDs.cons rfl (RDs.cons rfl (RDs.cons rfl (RDs.cons rfl (RDs.cons rfl (RDs.cons rfl (RDs.cons rfl (RDs.cons rfl (.nil))))))))⟩,
       a_SIDES := ta1, i_SIDES := _, n_SIDES := _, o_SIDES := _, s_SIDES := _, g_SIDES := PySem.W.mg_of X G gt1, l_SIDES := lt1, z_SIDES := (show 2 ≤ sizeLine by decide), v_SIDES := ⟨[.str "on", .str "back"], .cons ⟨_, rfl⟩ (.cons ⟨_, rfl⟩ (.nil)), fun H => RDs.cons rfl (RDs.cons rfl (.nil))⟩,
       t_ANY_WORD := _, g_ANY_WORD := PySem.W.mg_of X G gg0,
       t_FIGURES := _, g_FIGURES := PySem.W.mg_of X G gg1,
       t_LETTERS := _, g_LETTERS := PySem.W.mg_of X G gg2,
       t_MOST_DEEP := _, g_MOST_DEEP := PySem.W.mg_of X G gg3,
       t_MOST_PARTS := _, g_MOST_PARTS := PySem.W.mg_of X G gg4,
       t_MOST_SIGNS := _, g_MOST_SIGNS := PySem.W.mg_of X G gg5,
       t_MOST_WITHIN := _, g_MOST_WITHIN := PySem.W.mg_of X G gg6,
       b_all := PySem.W.mg_none_of X G z0,
       b_int := PySem.W.mg_none_of X G z1,
       b_isinstance := PySem.W.mg_none_of X G z2,
       b_len := PySem.W.mg_none_of X G z3,
       b_list := PySem.W.mg_none_of X G z4,
       b_max := PySem.W.mg_none_of X G z5,
       b_min := PySem.W.mg_none_of X G z6,
       b_range := PySem.W.mg_none_of X G z7,
       b_repr := PySem.W.mg_none_of X G z8,
       b_reversed := PySem.W.mg_none_of X G z9,
       b_str := PySem.W.mg_none_of X G z10,
       b_tuple := PySem.W.mg_none_of X G z11 }, rfl, rfl⟩
  refine ⟨PySem.W.fnOf "law" "law" (defArgs s_law) (defBody s_law) (defScope s_law) .none kV21 dc21 pm21 an21 cd21 ct21, fun s v => .of_eq rfl, fun base _ _ => ?_⟩
  rw [← e1, ← e2]
  have G_is_name : DFn l.prog w K mg base 1 T.a_is_name T.f_is_name ["thing"] sp_is_name := ok_is_name T sp_is_name_mono (fun ds S Q E h => by first | (obtain ⟨rfl, _⟩ := h; rfl) | (obtain ⟨_, rfl, _⟩ := h; rfl) | (obtain ⟨_, _, rfl, _⟩ := h; rfl) | (obtain ⟨_, _, _, rfl, _⟩ := h; rfl) | (obtain ⟨_, _, _, _, rfl, _⟩ := h; rfl) | (obtain ⟨_, _, _, _, _, rfl, _⟩ := h; rfl) | (obtain ⟨_, _, _, _, _, _, rfl, _⟩ := h; rfl) | (obtain ⟨_, _, _, _, _, _, _, rfl, _⟩ := h; rfl) | (obtain ⟨_, _, _, _, _, _, _, _, rfl, _⟩ := h; rfl) | (obtain ⟨_, rfl⟩ := h; rfl)) r_is_name
  have G_parts_of : DFn l.prog w K mg base 1 T.a_parts_of T.f_parts_of ["pattern"] sp_parts_of := ok_parts_of T sp_parts_of_mono (fun ds S Q E h => by first | (obtain ⟨rfl, _⟩ := h; rfl) | (obtain ⟨_, rfl, _⟩ := h; rfl) | (obtain ⟨_, _, rfl, _⟩ := h; rfl) | (obtain ⟨_, _, _, rfl, _⟩ := h; rfl) | (obtain ⟨_, _, _, _, rfl, _⟩ := h; rfl) | (obtain ⟨_, _, _, _, _, rfl, _⟩ := h; rfl) | (obtain ⟨_, _, _, _, _, _, rfl, _⟩ := h; rfl) | (obtain ⟨_, _, _, _, _, _, _, rfl, _⟩ := h; rfl) | (obtain ⟨_, _, _, _, _, _, _, _, rfl, _⟩ := h; rfl) | (obtain ⟨_, rfl⟩ := h; rfl)) r_parts_of
  have G_number_of : DFn l.prog w K mg base 1 T.a_number_of T.f_number_of ["word"] sp_number_of := ok_number_of T sp_number_of_mono (fun ds S Q E h => by first | (obtain ⟨rfl, _⟩ := h; rfl) | (obtain ⟨_, rfl, _⟩ := h; rfl) | (obtain ⟨_, _, rfl, _⟩ := h; rfl) | (obtain ⟨_, _, _, rfl, _⟩ := h; rfl) | (obtain ⟨_, _, _, _, rfl, _⟩ := h; rfl) | (obtain ⟨_, _, _, _, _, rfl, _⟩ := h; rfl) | (obtain ⟨_, _, _, _, _, _, rfl, _⟩ := h; rfl) | (obtain ⟨_, _, _, _, _, _, _, rfl, _⟩ := h; rfl) | (obtain ⟨_, _, _, _, _, _, _, _, rfl, _⟩ := h; rfl) | (obtain ⟨_, rfl⟩ := h; rfl)) r_number_of
  have G_Reader_init : DFn l.prog w K mg base 1 T.a_Reader_init T.f_Reader_init ["self", "words", "at"] (sp_Reader_init T.C_Reader) := ok_Reader_init T (sp_Reader_init_mono T.C_Reader) (fun ds S Q E h => by first | (obtain ⟨rfl, _⟩ := h; rfl) | (obtain ⟨_, rfl, _⟩ := h; rfl) | (obtain ⟨_, _, rfl, _⟩ := h; rfl) | (obtain ⟨_, _, _, rfl, _⟩ := h; rfl) | (obtain ⟨_, _, _, _, rfl, _⟩ := h; rfl) | (obtain ⟨_, _, _, _, _, rfl, _⟩ := h; rfl) | (obtain ⟨_, _, _, _, _, _, rfl, _⟩ := h; rfl) | (obtain ⟨_, _, _, _, _, _, _, rfl, _⟩ := h; rfl) | (obtain ⟨_, _, _, _, _, _, _, _, rfl, _⟩ := h; rfl) | (obtain ⟨_, rfl⟩ := h; rfl)) r_Reader_init
  have G_Reader_next_word : DFn l.prog w K mg base 1 T.a_Reader_next_word T.f_Reader_next_word ["self"] (sp_Reader_next_word T.C_Reader) := ok_Reader_next_word T (sp_Reader_next_word_mono T.C_Reader) (fun ds S Q E h => by first | (obtain ⟨rfl, _⟩ := h; rfl) | (obtain ⟨_, rfl, _⟩ := h; rfl) | (obtain ⟨_, _, rfl, _⟩ := h; rfl) | (obtain ⟨_, _, _, rfl, _⟩ := h; rfl) | (obtain ⟨_, _, _, _, rfl, _⟩ := h; rfl) | (obtain ⟨_, _, _, _, _, rfl, _⟩ := h; rfl) | (obtain ⟨_, _, _, _, _, _, rfl, _⟩ := h; rfl) | (obtain ⟨_, _, _, _, _, _, _, rfl, _⟩ := h; rfl) | (obtain ⟨_, _, _, _, _, _, _, _, rfl, _⟩ := h; rfl) | (obtain ⟨_, rfl⟩ := h; rfl)) r_Reader_next_word
  have G_Reader_ask_last : DFn l.prog w K mg base 1 T.a_Reader_ask_last T.f_Reader_ask_last ["self", "good"] sp_Reader_ask_last := ok_Reader_ask_last T sp_Reader_ask_last_mono (fun ds S Q E h => by first | (obtain ⟨rfl, _⟩ := h; rfl) | (obtain ⟨_, rfl, _⟩ := h; rfl) | (obtain ⟨_, _, rfl, _⟩ := h; rfl) | (obtain ⟨_, _, _, rfl, _⟩ := h; rfl) | (obtain ⟨_, _, _, _, rfl, _⟩ := h; rfl) | (obtain ⟨_, _, _, _, _, rfl, _⟩ := h; rfl) | (obtain ⟨_, _, _, _, _, _, rfl, _⟩ := h; rfl) | (obtain ⟨_, _, _, _, _, _, _, rfl, _⟩ := h; rfl) | (obtain ⟨_, _, _, _, _, _, _, _, rfl, _⟩ := h; rfl) | (obtain ⟨_, rfl⟩ := h; rfl)) r_Reader_ask_last
  have G_Reader_ask_end : DFn l.prog w K mg base 1 T.a_Reader_ask_end T.f_Reader_ask_end ["self"] (sp_Reader_ask_end T.C_Reader) := ok_Reader_ask_end T (sp_Reader_ask_end_mono T.C_Reader) (fun ds S Q E h => by first | (obtain ⟨rfl, _⟩ := h; rfl) | (obtain ⟨_, rfl, _⟩ := h; rfl) | (obtain ⟨_, _, rfl, _⟩ := h; rfl) | (obtain ⟨_, _, _, rfl, _⟩ := h; rfl) | (obtain ⟨_, _, _, _, rfl, _⟩ := h; rfl) | (obtain ⟨_, _, _, _, _, rfl, _⟩ := h; rfl) | (obtain ⟨_, _, _, _, _, _, rfl, _⟩ := h; rfl) | (obtain ⟨_, _, _, _, _, _, _, rfl, _⟩ := h; rfl) | (obtain ⟨_, _, _, _, _, _, _, _, rfl, _⟩ := h; rfl) | (obtain ⟨_, rfl⟩ := h; rfl)) r_Reader_ask_end
  have G_l_cell_at : DFn l.prog w K mg base 1 T.a_l_cell_at T.f_l_cell_at ["_law_script", "_law_k"] sp_l_cell_at := ok_l_cell_at T sp_l_cell_at_mono (fun ds S Q E h => by first | (obtain ⟨rfl, _⟩ := h; rfl) | (obtain ⟨_, rfl, _⟩ := h; rfl) | (obtain ⟨_, _, rfl, _⟩ := h; rfl) | (obtain ⟨_, _, _, rfl, _⟩ := h; rfl) | (obtain ⟨_, _, _, _, rfl, _⟩ := h; rfl) | (obtain ⟨_, _, _, _, _, rfl, _⟩ := h; rfl) | (obtain ⟨_, _, _, _, _, _, rfl, _⟩ := h; rfl) | (obtain ⟨_, _, _, _, _, _, _, rfl, _⟩ := h; rfl) | (obtain ⟨_, _, _, _, _, _, _, _, rfl, _⟩ := h; rfl) | (obtain ⟨_, rfl⟩ := h; rfl)) r_l_cell_at
  have G_l_feed : DFn l.prog w K mg base 1 T.a_l_feed T.f_l_feed ["_law_cell"] sp_l_feed := ok_l_feed T sp_l_feed_mono (fun ds S Q E h => by first | (obtain ⟨rfl, _⟩ := h; rfl) | (obtain ⟨_, rfl, _⟩ := h; rfl) | (obtain ⟨_, _, rfl, _⟩ := h; rfl) | (obtain ⟨_, _, _, rfl, _⟩ := h; rfl) | (obtain ⟨_, _, _, _, rfl, _⟩ := h; rfl) | (obtain ⟨_, _, _, _, _, rfl, _⟩ := h; rfl) | (obtain ⟨_, _, _, _, _, _, rfl, _⟩ := h; rfl) | (obtain ⟨_, _, _, _, _, _, _, rfl, _⟩ := h; rfl) | (obtain ⟨_, _, _, _, _, _, _, _, rfl, _⟩ := h; rfl) | (obtain ⟨_, rfl⟩ := h; rfl)) r_l_feed
  have G_l_next : DFn l.prog w K mg base 1 T.a_l_next T.f_l_next ["_law_feed_here", "_law_many"] sp_l_next := ok_l_next T sp_l_next_mono (fun ds S Q E h => by first | (obtain ⟨rfl, _⟩ := h; rfl) | (obtain ⟨_, rfl, _⟩ := h; rfl) | (obtain ⟨_, _, rfl, _⟩ := h; rfl) | (obtain ⟨_, _, _, rfl, _⟩ := h; rfl) | (obtain ⟨_, _, _, _, rfl, _⟩ := h; rfl) | (obtain ⟨_, _, _, _, _, rfl, _⟩ := h; rfl) | (obtain ⟨_, _, _, _, _, _, rfl, _⟩ := h; rfl) | (obtain ⟨_, _, _, _, _, _, _, rfl, _⟩ := h; rfl) | (obtain ⟨_, _, _, _, _, _, _, _, rfl, _⟩ := h; rfl) | (obtain ⟨_, rfl⟩ := h; rfl)) r_l_next
  have G_l_words : DFn l.prog w K mg base 1 T.a_l_words T.f_l_words ["_law_pattern_here"] sp_l_words := ok_l_words T sp_l_words_mono (fun ds S Q E h => by first | (obtain ⟨rfl, _⟩ := h; rfl) | (obtain ⟨_, rfl, _⟩ := h; rfl) | (obtain ⟨_, _, rfl, _⟩ := h; rfl) | (obtain ⟨_, _, _, rfl, _⟩ := h; rfl) | (obtain ⟨_, _, _, _, rfl, _⟩ := h; rfl) | (obtain ⟨_, _, _, _, _, rfl, _⟩ := h; rfl) | (obtain ⟨_, _, _, _, _, _, rfl, _⟩ := h; rfl) | (obtain ⟨_, _, _, _, _, _, _, rfl, _⟩ := h; rfl) | (obtain ⟨_, _, _, _, _, _, _, _, rfl, _⟩ := h; rfl) | (obtain ⟨_, rfl⟩ := h; rfl)) r_l_words
  have G_is_word : DFn l.prog w K mg base 2 T.a_is_word T.f_is_word ["thing"] sp_is_word := ok_is_word T (G_is_name := G_is_name) sp_is_word_mono (fun ds S Q E h => by first | (obtain ⟨rfl, _⟩ := h; rfl) | (obtain ⟨_, rfl, _⟩ := h; rfl) | (obtain ⟨_, _, rfl, _⟩ := h; rfl) | (obtain ⟨_, _, _, rfl, _⟩ := h; rfl) | (obtain ⟨_, _, _, _, rfl, _⟩ := h; rfl) | (obtain ⟨_, _, _, _, _, rfl, _⟩ := h; rfl) | (obtain ⟨_, _, _, _, _, _, rfl, _⟩ := h; rfl) | (obtain ⟨_, _, _, _, _, _, _, rfl, _⟩ := h; rfl) | (obtain ⟨_, _, _, _, _, _, _, _, rfl, _⟩ := h; rfl) | (obtain ⟨_, rfl⟩ := h; rfl)) r_is_word
  have G_Reader_name_next : DFn l.prog w K mg base 2 T.a_Reader_name_next T.f_Reader_name_next ["self"] (sp_Reader_name_next T.C_Reader) := ok_Reader_name_next T (G_is_name := G_is_name) (G_Reader_next_word := G_Reader_next_word) (G_Reader_ask_last := G_Reader_ask_last) (sp_Reader_name_next_mono T.C_Reader) (fun ds S Q E h => by first | (obtain ⟨rfl, _⟩ := h; rfl) | (obtain ⟨_, rfl, _⟩ := h; rfl) | (obtain ⟨_, _, rfl, _⟩ := h; rfl) | (obtain ⟨_, _, _, rfl, _⟩ := h; rfl) | (obtain ⟨_, _, _, _, rfl, _⟩ := h; rfl) | (obtain ⟨_, _, _, _, _, rfl, _⟩ := h; rfl) | (obtain ⟨_, _, _, _, _, _, rfl, _⟩ := h; rfl) | (obtain ⟨_, _, _, _, _, _, _, rfl, _⟩ := h; rfl) | (obtain ⟨_, _, _, _, _, _, _, _, rfl, _⟩ := h; rfl) | (obtain ⟨_, rfl⟩ := h; rfl)) r_Reader_name_next
  have G_l_names : DFn l.prog w K mg base 2 T.a_l_names T.f_l_names ["_law_feed_here", "_law_many"] sp_l_names := ok_l_names T (G_l_next := G_l_next) sp_l_names_mono (fun ds S Q E h => by first | (obtain ⟨rfl, _⟩ := h; rfl) | (obtain ⟨_, rfl, _⟩ := h; rfl) | (obtain ⟨_, _, rfl, _⟩ := h; rfl) | (obtain ⟨_, _, _, rfl, _⟩ := h; rfl) | (obtain ⟨_, _, _, _, rfl, _⟩ := h; rfl) | (obtain ⟨_, _, _, _, _, rfl, _⟩ := h; rfl) | (obtain ⟨_, _, _, _, _, _, rfl, _⟩ := h; rfl) | (obtain ⟨_, _, _, _, _, _, _, rfl, _⟩ := h; rfl) | (obtain ⟨_, _, _, _, _, _, _, _, rfl, _⟩ := h; rfl) | (obtain ⟨_, rfl⟩ := h; rfl)) r_l_names
  have G_l_leaf : DFn l.prog w K mg base 2 T.a_l_leaf T.f_l_leaf ["_law_feed_here", "_law_names_here"] sp_l_leaf := ok_l_leaf T (G_l_next := G_l_next) sp_l_leaf_mono (fun ds S Q E h => by first | (obtain ⟨rfl, _⟩ := h; rfl) | (obtain ⟨_, rfl, _⟩ := h; rfl) | (obtain ⟨_, _, rfl, _⟩ := h; rfl) | (obtain ⟨_, _, _, rfl, _⟩ := h; rfl) | (obtain ⟨_, _, _, _, rfl, _⟩ := h; rfl) | (obtain ⟨_, _, _, _, _, rfl, _⟩ := h; rfl) | (obtain ⟨_, _, _, _, _, _, rfl, _⟩ := h; rfl) | (obtain ⟨_, _, _, _, _, _, _, rfl, _⟩ := h; rfl) | (obtain ⟨_, _, _, _, _, _, _, _, rfl, _⟩ := h; rfl) | (obtain ⟨_, rfl⟩ := h; rfl)) r_l_leaf
  have G_l_great : DFn l.prog w K mg base 3 T.a_l_great T.f_l_great ["_law_feed_here", "_law_names_here"] sp_l_great := ok_l_great T (G_l_next := G_l_next) (G_l_leaf := G_l_leaf) sp_l_great_mono (fun ds S Q E h => by first | (obtain ⟨rfl, _⟩ := h; rfl) | (obtain ⟨_, rfl, _⟩ := h; rfl) | (obtain ⟨_, _, rfl, _⟩ := h; rfl) | (obtain ⟨_, _, _, rfl, _⟩ := h; rfl) | (obtain ⟨_, _, _, _, rfl, _⟩ := h; rfl) | (obtain ⟨_, _, _, _, _, rfl, _⟩ := h; rfl) | (obtain ⟨_, _, _, _, _, _, rfl, _⟩ := h; rfl) | (obtain ⟨_, _, _, _, _, _, _, rfl, _⟩ := h; rfl) | (obtain ⟨_, _, _, _, _, _, _, _, rfl, _⟩ := h; rfl) | (obtain ⟨_, rfl⟩ := h; rfl)) r_l_great
  have R_l_pattern : ∀ n, DFn l.prog w K mg base (2 + n + 1) T.a_l_pattern T.f_l_pattern ["_law_feed_here", "_law_names_here", "_law_deep"] (sp_l_pattern n) := fun n => by
    induction n with
    | zero => exact ok_l_pattern T (G_l_next := G_l_next) (G_l_leaf := G_l_leaf) 0 (DFn.never 0) (sp_l_pattern_mono 0) (fun ds S Q E h => by first | (obtain ⟨rfl, _⟩ := h; rfl) | (obtain ⟨_, rfl, _⟩ := h; rfl) | (obtain ⟨_, _, rfl, _⟩ := h; rfl) | (obtain ⟨_, _, _, rfl, _⟩ := h; rfl) | (obtain ⟨_, _, _, _, rfl, _⟩ := h; rfl) | (obtain ⟨_, _, _, _, _, rfl, _⟩ := h; rfl) | (obtain ⟨_, _, _, _, _, _, rfl, _⟩ := h; rfl) | (obtain ⟨_, _, _, _, _, _, _, rfl, _⟩ := h; rfl) | (obtain ⟨_, _, _, _, _, _, _, _, rfl, _⟩ := h; rfl) | (obtain ⟨_, rfl⟩ := h; rfl)) (r_l_pattern 0)
    | succ n ih => exact ok_l_pattern T (G_l_next := G_l_next) (G_l_leaf := G_l_leaf) (n + 1) ih (sp_l_pattern_mono (n + 1)) (fun ds S Q E h => by first | (obtain ⟨rfl, _⟩ := h; rfl) | (obtain ⟨_, rfl, _⟩ := h; rfl) | (obtain ⟨_, _, rfl, _⟩ := h; rfl) | (obtain ⟨_, _, _, rfl, _⟩ := h; rfl) | (obtain ⟨_, _, _, _, rfl, _⟩ := h; rfl) | (obtain ⟨_, _, _, _, _, rfl, _⟩ := h; rfl) | (obtain ⟨_, _, _, _, _, _, rfl, _⟩ := h; rfl) | (obtain ⟨_, _, _, _, _, _, _, rfl, _⟩ := h; rfl) | (obtain ⟨_, _, _, _, _, _, _, _, rfl, _⟩ := h; rfl) | (obtain ⟨_, rfl⟩ := h; rfl)) (r_l_pattern (n + 1))
  have G_l_pattern := R_l_pattern 3
  have R_words_of : ∀ n, DFn l.prog w K mg base (1 + n + 1) T.a_words_of T.f_words_of ["pattern"] (sp_words_of n) := fun n => by
    induction n with
    | zero => exact ok_words_of T (G_parts_of := G_parts_of) 0 (DFn.never 0) (sp_words_of_mono 0) (fun ds S Q E h => by first | (obtain ⟨rfl, _⟩ := h; rfl) | (obtain ⟨_, rfl, _⟩ := h; rfl) | (obtain ⟨_, _, rfl, _⟩ := h; rfl) | (obtain ⟨_, _, _, rfl, _⟩ := h; rfl) | (obtain ⟨_, _, _, _, rfl, _⟩ := h; rfl) | (obtain ⟨_, _, _, _, _, rfl, _⟩ := h; rfl) | (obtain ⟨_, _, _, _, _, _, rfl, _⟩ := h; rfl) | (obtain ⟨_, _, _, _, _, _, _, rfl, _⟩ := h; rfl) | (obtain ⟨_, _, _, _, _, _, _, _, rfl, _⟩ := h; rfl) | (obtain ⟨_, rfl⟩ := h; rfl)) (r_words_of 0)
    | succ n ih => exact ok_words_of T (G_parts_of := G_parts_of) (n + 1) ih (sp_words_of_mono (n + 1)) (fun ds S Q E h => by first | (obtain ⟨rfl, _⟩ := h; rfl) | (obtain ⟨_, rfl, _⟩ := h; rfl) | (obtain ⟨_, _, rfl, _⟩ := h; rfl) | (obtain ⟨_, _, _, rfl, _⟩ := h; rfl) | (obtain ⟨_, _, _, _, rfl, _⟩ := h; rfl) | (obtain ⟨_, _, _, _, _, rfl, _⟩ := h; rfl) | (obtain ⟨_, _, _, _, _, _, rfl, _⟩ := h; rfl) | (obtain ⟨_, _, _, _, _, _, _, rfl, _⟩ := h; rfl) | (obtain ⟨_, _, _, _, _, _, _, _, rfl, _⟩ := h; rfl) | (obtain ⟨_, rfl⟩ := h; rfl)) (r_words_of (n + 1))
  have G_words_of := R_words_of 20
  have G_shown : DFn l.prog w K mg base 23 T.a_shown T.f_shown ["pattern"] sp_shown := ok_shown T (G_words_of := G_words_of) sp_shown_mono (fun ds S Q E h => by first | (obtain ⟨rfl, _⟩ := h; rfl) | (obtain ⟨_, rfl, _⟩ := h; rfl) | (obtain ⟨_, _, rfl, _⟩ := h; rfl) | (obtain ⟨_, _, _, rfl, _⟩ := h; rfl) | (obtain ⟨_, _, _, _, rfl, _⟩ := h; rfl) | (obtain ⟨_, _, _, _, _, rfl, _⟩ := h; rfl) | (obtain ⟨_, _, _, _, _, _, rfl, _⟩ := h; rfl) | (obtain ⟨_, _, _, _, _, _, _, rfl, _⟩ := h; rfl) | (obtain ⟨_, _, _, _, _, _, _, _, rfl, _⟩ := h; rfl) | (obtain ⟨_, rfl⟩ := h; rfl)) r_shown
  have R_Reader_pattern : ∀ n, DFn l.prog w K mg base (2 + n + 1) T.a_Reader_pattern T.f_Reader_pattern ["self", "deep"] (sp_Reader_pattern T.C_Reader n) := fun n => by
    induction n with
    | zero => exact ok_Reader_pattern T (G_number_of := G_number_of) (G_Reader_next_word := G_Reader_next_word) (G_Reader_ask_last := G_Reader_ask_last) (G_is_word := G_is_word) (G_Reader_name_next := G_Reader_name_next) 0 (DFn.never 0) (sp_Reader_pattern_mono T.C_Reader 0) (fun ds S Q E h => by first | (obtain ⟨rfl, _⟩ := h; rfl) | (obtain ⟨_, rfl, _⟩ := h; rfl) | (obtain ⟨_, _, rfl, _⟩ := h; rfl) | (obtain ⟨_, _, _, rfl, _⟩ := h; rfl) | (obtain ⟨_, _, _, _, rfl, _⟩ := h; rfl) | (obtain ⟨_, _, _, _, _, rfl, _⟩ := h; rfl) | (obtain ⟨_, _, _, _, _, _, rfl, _⟩ := h; rfl) | (obtain ⟨_, _, _, _, _, _, _, rfl, _⟩ := h; rfl) | (obtain ⟨_, _, _, _, _, _, _, _, rfl, _⟩ := h; rfl) | (obtain ⟨_, rfl⟩ := h; rfl)) (r_Reader_pattern 0)
    | succ n ih => exact ok_Reader_pattern T (G_number_of := G_number_of) (G_Reader_next_word := G_Reader_next_word) (G_Reader_ask_last := G_Reader_ask_last) (G_is_word := G_is_word) (G_Reader_name_next := G_Reader_name_next) (n + 1) ih (sp_Reader_pattern_mono T.C_Reader (n + 1)) (fun ds S Q E h => by first | (obtain ⟨rfl, _⟩ := h; rfl) | (obtain ⟨_, rfl, _⟩ := h; rfl) | (obtain ⟨_, _, rfl, _⟩ := h; rfl) | (obtain ⟨_, _, _, rfl, _⟩ := h; rfl) | (obtain ⟨_, _, _, _, rfl, _⟩ := h; rfl) | (obtain ⟨_, _, _, _, _, rfl, _⟩ := h; rfl) | (obtain ⟨_, _, _, _, _, _, rfl, _⟩ := h; rfl) | (obtain ⟨_, _, _, _, _, _, _, rfl, _⟩ := h; rfl) | (obtain ⟨_, _, _, _, _, _, _, _, rfl, _⟩ := h; rfl) | (obtain ⟨_, rfl⟩ := h; rfl)) (r_Reader_pattern (n + 1))
  have G_Reader_pattern := R_Reader_pattern 20
  have G_read_pattern : DFn l.prog w K mg base 24 T.a_read_pattern T.f_read_pattern ["text"] (sp_read_pattern T.C_Reader) := ok_read_pattern T (G_Reader_init := G_Reader_init) (G_Reader_ask_end := G_Reader_ask_end) (G_Reader_pattern := G_Reader_pattern) (sp_read_pattern_mono T.C_Reader) (fun ds S Q E h => by first | (obtain ⟨rfl, _⟩ := h; rfl) | (obtain ⟨_, rfl, _⟩ := h; rfl) | (obtain ⟨_, _, rfl, _⟩ := h; rfl) | (obtain ⟨_, _, _, rfl, _⟩ := h; rfl) | (obtain ⟨_, _, _, _, rfl, _⟩ := h; rfl) | (obtain ⟨_, _, _, _, _, rfl, _⟩ := h; rfl) | (obtain ⟨_, _, _, _, _, _, rfl, _⟩ := h; rfl) | (obtain ⟨_, _, _, _, _, _, _, rfl, _⟩ := h; rfl) | (obtain ⟨_, _, _, _, _, _, _, _, rfl, _⟩ := h; rfl) | (obtain ⟨_, rfl⟩ := h; rfl)) r_read_pattern
  have G_law : DFn l.prog w K mg base 25 T.a_law T.f_law ["_law_script"] sp_law := ok_law T (G_l_cell_at := G_l_cell_at) (G_l_feed := G_l_feed) (G_l_next := G_l_next) (G_l_words := G_l_words) (G_l_names := G_l_names) (G_l_great := G_l_great) (G_l_pattern := G_l_pattern) (G_shown := G_shown) (G_read_pattern := G_read_pattern) sp_law_mono (fun ds S Q E h => by first | (obtain ⟨rfl, _⟩ := h; rfl) | (obtain ⟨_, rfl, _⟩ := h; rfl) | (obtain ⟨_, _, rfl, _⟩ := h; rfl) | (obtain ⟨_, _, _, rfl, _⟩ := h; rfl) | (obtain ⟨_, _, _, _, rfl, _⟩ := h; rfl) | (obtain ⟨_, _, _, _, _, rfl, _⟩ := h; rfl) | (obtain ⟨_, _, _, _, _, _, rfl, _⟩ := h; rfl) | (obtain ⟨_, _, _, _, _, _, _, rfl, _⟩ := h; rfl) | (obtain ⟨_, _, _, _, _, _, _, _, rfl, _⟩ := h; rfl) | (obtain ⟨_, rfl⟩ := h; rfl)) r_law
  exact G_law
end
theorem sp_law_all (ns : List Int) (S : DH) (h : ns.length ≤ 63) : sp_law [.rol (ns.map D.int)] S (fun d _ => d = .bl true) fun _ _ _ => False := ⟨ns, rfl, h, fun _ => rfl⟩
theorem walk {l : PySem.W.OpenLaw} {q : Program} {loose : List Str} {XP : (Str → Option Value) → Heap → Prop} {YP : World → Heap → Prop} {d : DefRec} {K : Params → PySem.W.Frag} (hn : l.most = some 63) (hdf : d.params.defaults = []) (hY : ∀ (w : World) (h : Heap), YP w h → (K w.params).In h)
    (F : ∀ (w : World) (mg : Str → Option Value) (fa : Addr) (h : Heap), (K w.params).In h → h.Ns mainGlobals mg → mg d.name = some (.ref fa) →
      ∃ fd : FuncData, (∀ (s : Shared) (u : Value), BindsTo s fd ⟨[u], []⟩ [("_law_script", u)]) ∧ ∀ base : Heap, (K w.params).In base → base.Ns mainGlobals mg → DFn l.prog w (K w.params) mg base 25 fa fd ["_law_script"] sp_law) : PySem.W.WalkO q loose XP YP l.row.toRowW d [] (fun f vs => PySem.call f vs) :=
  dwalk (n := 63) (k := 25) hn (by decide) hdf ⟨rfl, by decide, by decide⟩ hY F fun ns S hl => sp_law_all ns S hl
end K10
set_option maxRecDepth 100000
open PySem PySem.W PyProof.Rows
set_option maxRecDepth 100000 in
set_option maxHeartbeats 0 in
theorem PySem.Challenge.cw_pathask_k10_patterns_written_and_read_holds : PySem.Challenge.rw_pathask_k10_patterns_written_and_read.Holds := by
  w_on; o_law; k_head; (case hw => w_witness2)
  k_fill
  refine K10.walk (l := PySem.Challenge.rw_pathask_k10_patterns_written_and_read) rfl rfl (fun w h Y => PySem.W.kIn_of Y) ?F
  case F =>
    intro w mg fa h KX G hmg
    refine' K10.all_mk KX G hmg ?aC0 ?pg0 ?hd0 ?po0 ?sa0 ?mk0 ?kc0 ?nf0 ?nf1 ?nf2 ?a0 ?l0 ?c0 ?k0 ?a1 ?l1 ?c1 ?k1 ?a2 ?l2 ?c2 ?k2 ?a3 ?i3 ?l3 ?c3 ?k3 ?a4 ?i4 ?l4 ?c4 ?k4 ?a5 ?i5 ?l5 ?c5 ?k5 ?a6 ?i6 ?l6 ?c6 ?k6 ?a7 ?l7 ?c7 ?k7 ?a8 ?l8 ?c8 ?k8 ?a9 ?l9 ?c9 ?k9 ?a10 ?l10 ?c10 ?k10 ?a11 ?l11 ?c11 ?k11 ?a12 ?i12 ?l12 ?c12 ?k12 ?a13 ?l13 ?c13 ?k13 ?a14 ?l14 ?c14 ?k14 ?a15 ?l15 ?c15 ?k15 ?a16 ?l16 ?c16 ?k16 ?a17 ?l17 ?c17 ?k17 ?a18 ?l18 ?c18 ?k18 ?a19 ?i19 ?l19 ?c19 ?k19 ?a20 ?l20 ?c20 ?k20 ?a21 ?l21 ?c21 ?k21 ?gt0 ?lt0 ?gt1 ?lt1 ?gg0 ?gg1 ?gg2 ?gg3 ?gg4 ?gg5 ?gg6 ?z0 ?z1 ?z2 ?z3 ?z4 ?z5 ?z6 ?z7 ?z8 ?z9 ?z10 ?z11
    (case aC0 => k_is); (case pg0 => k_is); (case hd0 => k_is); (case po0 => k_is)
    (case sa0 => k_is); (case mk0 => k_is); (case kc0 => k_is); (case nf0 => k_is)
    (case nf1 => k_is); (case nf2 => k_is); (case a0 => k_is); (case l0 => k_is)
    (case c0 => k_is); (case k0 => k_is); (case a1 => k_is); (case l1 => k_is)
    (case c1 => k_is); (case k1 => k_is); (case a2 => k_is); (case l2 => k_is)
    (case c2 => k_is); (case k2 => k_is); (case a3 => k_is); (case i3 => k_is)
    (case l3 => k_is); (case c3 => k_is); (case k3 => k_is); (case a4 => k_is)
    (case i4 => k_is); (case l4 => k_is); (case c4 => k_is); (case k4 => k_is)
    (case a5 => k_is); (case i5 => k_is); (case l5 => k_is); (case c5 => k_is)
    (case k5 => k_is); (case a6 => k_is); (case i6 => k_is); (case l6 => k_is)
    (case c6 => k_is); (case k6 => k_is); (case a7 => k_is); (case l7 => k_is)
    (case c7 => k_is); (case k7 => k_is); (case a8 => k_is); (case l8 => k_is)
    (case c8 => k_is); (case k8 => k_is); (case a9 => k_is); (case l9 => k_is)
    (case c9 => k_is); (case k9 => k_is); (case a10 => k_is); (case l10 => k_is)
    (case c10 => k_is); (case k10 => k_is); (case a11 => k_is); (case l11 => k_is)
    (case c11 => k_is); (case k11 => k_is); (case a12 => k_is); (case i12 => k_is)
    (case l12 => k_is); (case c12 => k_is); (case k12 => k_is); (case a13 => k_is)
    (case l13 => k_is); (case c13 => k_is); (case k13 => k_is); (case a14 => k_is)
    (case l14 => k_is); (case c14 => k_is); (case k14 => k_is); (case a15 => k_is)
    (case l15 => k_is); (case c15 => k_is); (case k15 => k_is); (case a16 => k_is)
    (case l16 => k_is); (case c16 => k_is); (case k16 => k_is); (case a17 => k_is)
    (case l17 => k_is); (case c17 => k_is); (case k17 => k_is); (case a18 => k_is)
    (case l18 => k_is); (case c18 => k_is); (case k18 => k_is); (case a19 => k_is)
    (case i19 => k_is); (case l19 => k_is); (case c19 => k_is); (case k19 => k_is)
    (case a20 => k_is); (case l20 => k_is); (case c20 => k_is); (case k20 => k_is)
    (case a21 => k_is); (case l21 => k_is); (case c21 => k_is); (case k21 => k_is)
    (case gt0 => k_is); (case lt0 => k_is); (case gt1 => k_is); (case lt1 => k_is)
    (case gg0 => k_is); (case gg1 => k_is); (case gg2 => k_is); (case gg3 => k_is)
    (case gg4 => k_is); (case gg5 => k_is); (case gg6 => k_is); (case z0 => k_is)
    (case z1 => k_is); (case z2 => k_is); (case z3 => k_is); (case z4 => k_is)
    (case z5 => k_is); (case z6 => k_is); (case z7 => k_is); (case z8 => k_is)
    (case z9 => k_is); (case z10 => k_is); (case z11 => k_is)
